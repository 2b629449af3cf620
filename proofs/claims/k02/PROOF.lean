import PyProof.Rows.All
import Wide.All
import OpenK.AllK
import Wide.FinOn
import HandS.ForMost
import HandS.Flow
import HandS.Star
import HandS.TupAny
import HandS.Wide
import KE.KeyNested
import KE.KDictKeyed
import HandS.TupMul
import HandS.IsInst
import HandS.Property
import HandS.MakeKwOnly
import HandS.Zip
import HandS.Walk
import KE.GoesMore
import HandS.Conv
import HandS.TupLen
import HandS.DictComp
import HandS.Style
import KE.KDictDisplayH
import HandS.HeadHook2
import PySem.Challenge.RW_limitwithin_k02_whole_comparing
import KE.KStateDown
import HandS.Ends
import HandS.HeadEnd
import HandS.Head0
import HandS.Head1
import HandS.Head2
set_option Elab.async false
set_option linter.all false
set_option maxRecDepth 100000
namespace MC
open PySem

/-! ### data -/
inductive D where
  | non | bl (b : Bool) | int (i : Int) | str (x : Str)
  | tup (xs : List D) | lst (xs : List D) | dct (kvs : List (D × D)) | ins (c : Nat) (fs : List (Nat × D)) | ref (n : Nat)
inductive O where
  | lst (xs : List D) | dct (kvs : List (D × D)) | ins (c : Nat) (fs : List (Nat × D))
  /-- a dict that was walked: it is read only from then on -/
  | lkd (kvs : List (D × D))
abbrev Sg := List (Option D)
abbrev Hs := List O
structure Ex where
  cls : Nat
  arg : D
inductive Res (α : Type) where
  | ok (a : α) (h : Hs)
  | ex (x : Ex) (h : Hs)
  | no
def Res.bind {α β : Type} (r : Res α) (f : α → Hs → Res β) : Res β := match r with
  | .ok a h => f a h
  | .ex x h => .ex x h
  | .no => .no
def Res.of {α : Type} (o : Option α) (h : Hs) : Res α := match o with
  | some a => .ok a h
  | none => .no

mutual
def D.eqb : D → D → Bool
  | .non, .non => true
  | .bl a, .bl b => a == b
  | .int i, .int j => i == j
  | .str x, .str y => decide (x = y)
  | .tup xs, .tup ys => D.eqbL xs ys
  | .lst xs, .lst ys => D.eqbL xs ys
  | .dct xs, .dct ys => D.eqbK xs ys
  | .ins c fs, .ins e gs => c == e && D.eqbF fs gs
  | .ref n, .ref m => n == m
  | _, _ => false
def D.eqbL : List D → List D → Bool
  | [], [] => true
  | x :: xs, y :: ys => D.eqb x y && D.eqbL xs ys
  | _, _ => false
def D.eqbK : List (D × D) → List (D × D) → Bool
  | [], [] => true
  | (a, b) :: xs, (c, e) :: ys => D.eqb a c && D.eqb b e && D.eqbK xs ys
  | _, _ => false
def D.eqbF : List (Nat × D) → List (Nat × D) → Bool
  | [], [] => true
  | (a, b) :: xs, (c, e) :: ys => a == c && D.eqb b e && D.eqbF xs ys
  | _, _ => false
end
def O.eqb : O → O → Bool
  | .lst xs, .lst ys => D.eqbL xs ys
  | .dct xs, .dct ys => D.eqbK xs ys
  | .ins c fs, .ins e gs => c == e && D.eqbF fs gs
  | .lkd xs, .lkd ys => D.eqbK xs ys
  | _, _ => false
def Hs.eqb : Hs → Hs → Bool
  | [], [] => true
  | x :: xs, y :: ys => O.eqb x y && Hs.eqb xs ys
  | _, _ => false

/-! ### as plain data (a list of the heap read) -/
mutual
def D.pyQ : D → Option PyData
  | .non => some .none
  | .bl b => some (.bool b)
  | .int i => some (.int i)
  | .str x => some (.str x)
  | .tup xs => (D.pyP xs).map .tuple
  | .lst xs => (D.pyP xs).map .list
  | _ => none
def D.pyP : List D → Option (List PyData)
  | [] => some []
  | x :: xs => match D.pyQ x, D.pyP xs with
    | some a, some r => some (a :: r)
    | _, _ => none
end
def D.py (h : Hs) : D → Option PyData
  | .ref n => match h[n]? with
    | some (.lst xs) => (D.pyP xs).map .list
    | _ => none
  | d => d.pyQ

/-! ### keys of dicts -/
mutual
def D.key : D → Option NestedKey
  | .non => some .none
  | .bl b => some (.num (if b = true then 1 else 0))
  | .int i => some (.num i)
  | .str x => some (.text x)
  | .tup xs => (D.keys xs).map .tup
  | _ => none
def D.keys : List D → Option (List NestedKey)
  | [] => some []
  | x :: xs => match D.key x, D.keys xs with
    | some k, some ks => some (k :: ks)
    | _, _ => none
end
/-- a tuple that can be a key -/
def D.tkey : D → Option NestedKey
  | .tup xs => match D.key (.tup xs) with
    | some k => if k.depth ≤ 8 then some k else none
    | none => none
  | _ => none
def getK (k : NestedKey) : List (D × D) → Option D
  | [] => none
  | (a, v) :: r => if D.key a = some k then some v else getK k r
def hasK (k : NestedKey) (kvs : List (D × D)) : Bool := (getK k kvs).isSome
def replK (k : NestedKey) (v : D) : List (D × D) → List (D × D)
  | [] => []
  | (a, u) :: r => (if D.key a = some k then (a, v) else (a, u)) :: replK k v r
/-- a store: the first key stays -/
def putN (a : D) (k : NestedKey) (v : D) (kvs : List (D × D)) : List (D × D) := if hasK k kvs then replK k v kvs else kvs ++ [(a, v)]
def D.kvs (h : Hs) : D → Option (List (D × D))
  | .dct kvs => some kvs
  | .ref n => match h[n]? with
    | some (.dct kvs) => some kvs
    | some (.lkd kvs) => some kvs
    | _ => none
  | _ => none

/-! ### operations -/
def small (i : Int) : Bool := decide (-(2 ^ 64) < i) && decide (i < 2 ^ 64)
/-- the items of a list or a tuple -/
def D.seq (h : Hs) : D → Option (List D)
  | .tup xs => some xs
  | .lst xs => some xs
  | .ref n => match h[n]? with
    | some (.lst xs) => some xs
    | _ => none
  | _ => none
def D.lseq (h : Hs) : D → Option (List D)
  | .lst xs => some xs
  | .ref n => match h[n]? with
    | some (.lst xs) => some xs
    | _ => none
  | _ => none
def D.tseq : D → Option (List D)
  | .tup xs => some xs
  | _ => none
def opAdd (h : Hs) (a b : D) : Option D := match a, b with
  | .int i, .int j => some (.int (i + j))
  | .str x, .str y => if x.length + y.length ≤ sizeLine then some (.str (x ++ y)) else none
  | .tup xs, .tup ys => if xs.length + ys.length ≤ sizeLine then some (.tup (xs ++ ys)) else none
  | a, b => match a.lseq h, b.lseq h with
    | some xs, some ys => if xs.length + ys.length ≤ sizeLine then some (.lst (xs ++ ys)) else none
    | _, _ => none
def opMul (a b : D) : Option D := match a, b with
  | .int i, .int j => if small i || small j then some (.int (i * j)) else none
  | .tup xs, .int k => if decide (1 ≤ k) && decide (k ≤ 1000) && decide (xs.length ≤ 1000) && !xs.isEmpty then some (.tup (List.replicate k.toNat xs).flatten) else none
  | _, _ => none
def opBin (h : Hs) (op : Operator) (a b : D) : Option D := match op with
  | .Add => opAdd h a b
  | .Sub => match a, b with
    | .int i, .int j => some (.int (i - j))
    | _, _ => none
  | .Mult => opMul a b
  | .FloorDiv => match a, b with
    | .int i, .int j => if decide (0 < j) && decide (j < 2 ^ 1000) then some (.int (i / j)) else none
    | _, _ => none
  | .Mod => match a, b with
    | .int i, .int j => if 0 < j then some (.int (i % j)) else none
    | _, _ => none
  | .Pow => match a, b with
    | .int i, .int j => if decide (0 ≤ j) && decide (j ≤ 1000) && decide (i.natAbs < 2 ^ 64) then some (.int (i ^ j.toNat)) else none
    | _, _ => none
  | _ => none
def tru (h : Hs) : D → Option Bool
  | .non => some false
  | .bl b => some b
  | .int i => some (i != 0)
  | .str x => if x.length ≤ sizeLine then some ((x.length : Int) != 0) else none
  | .tup xs => some (!xs.isEmpty)
  | .lst xs => some (!xs.isEmpty)
  | .ref n => match h[n]? with
    | some (.lst xs) => some (!xs.isEmpty)
    | _ => none
  | _ => none
def eqD (h : Hs) (a b : D) : Option Bool := match a.py h, b.py h with
  | some x, some y => if SeqAt.shaped x && SeqAt.shaped y then some (PyData.eqv x y) else none
  | _, _ => none
def D.flat : D → Bool
  | .non | .bl _ | .int _ | .str _ => true
  | _ => false
def eqF : D → D → Bool
  | .non, .non => true
  | .bl a, .bl b => a == b
  | .bl a, .int j => (if a then 1 else 0) == j
  | .int i, .bl b => i == (if b then 1 else 0)
  | .int i, .int j => i == j
  | .str x, .str y => decide (x = y)
  | _, _ => false
def inD (h : Hs) (x s : D) : Option Bool := match s.seq h with
  | some xs => if x.flat && xs.all D.flat then some (xs.any fun y => eqF y x) else none
  | none => none
def D.isNon : D → Bool
  | .non => true
  | _ => false
def opCmp (h : Hs) (op : CmpOp) (a b : D) : Option D := match op with
  | .Eq => (eqD h a b).map .bl
  | .NotEq => (eqD h a b).map fun c => .bl !c
  | .Lt => match a, b with
    | .int i, .int j => some (.bl (decide (i < j)))
    | _, _ => none
  | .LtE => match a, b with
    | .int i, .int j => some (.bl (decide (i ≤ j)))
    | _, _ => none
  | .Gt => match a, b with
    | .int i, .int j => some (.bl (decide (j < i)))
    | _, _ => none
  | .GtE => match a, b with
    | .int i, .int j => some (.bl (decide (j ≤ i)))
    | _, _ => none
  | .In => (inD h a b).map .bl
  | .NotIn => (inD h a b).map fun c => .bl !c
  | .Is => match b with
    | .non => some (.bl a.isNon)
    | .bl c => match a with
      | .bl b => some (.bl (b == c))
      | _ => some (.bl false)
    | _ => none
  | .IsNot => match b with
    | .non => some (.bl !a.isNon)
    | .bl c => match a with
      | .bl b => some (.bl (b != c))
      | _ => some (.bl true)
    | _ => none
def atD (xs : List D) (i : Int) : Option D := (L2.ixN xs.length i).bind fun j => xs[j]?
def look (k : D) : List (D × D) → Option D
  | [] => none
  | (a, b) :: r => if eqF a k then some b else look k r
def idxD (h : Hs) (a i : D) : Option D := match a, i with
  | .tup xs, .int k => atD xs k
  | .lst xs, .int k => atD xs k
  | .ref n, i => match h[n]?, i with
    | some (.lst xs), .int k => atD xs k
    | _, _ => none
  | _, _ => none
def cutD (xs : List D) (lo hi : Option Int) : List D := (xs.drop (HT.sIx xs.length 0 lo)).take (HT.sIx xs.length xs.length hi - HT.sIx xs.length 0 lo)
def slcD (h : Hs) (a : D) (lo hi : Option Int) : Option D := match a with
  | .tup xs => some (.tup (cutD xs lo hi))
  | a => match a.lseq h with
    | some xs => some (.lst (cutD xs lo hi))
    | none => none
def getF (f : Nat) : List (Nat × D) → Option D
  | [] => none
  | (g, d) :: r => if g == f then some d else getF f r
def putF (f : Nat) (d : D) : List (Nat × D) → List (Nat × D)
  | [] => [(f, d)]
  | (g, e) :: r => if g == f then (g, d) :: r else (g, e) :: putF f d r
def D.fields (h : Hs) : D → Option (Nat × List (Nat × D))
  | .ins c fs => some (c, fs)
  | .ref n => match h[n]? with
    | some (.ins c fs) => some (c, fs)
    | _ => none
  | _ => none
/-- kinds for isinstance -/
inductive Ty where
  | int | bool | str | tuple | list | own (c : Nat)
def isTy (h : Hs) : D → Ty → Bool
  | .int _, .int => true
  | .bl _, .int => true
  | .bl _, .bool => true
  | .str _, .str => true
  | .tup _, .tuple => true
  | .lst _, .list => true
  | .ins c _, .own e => c == e
  | .ref n, t => match h[n]?, t with
    | some (.lst _), .list => true
    | some (.ins c _), .own e => c == e
    | _, _ => false
  | _, _ => false
/-- what isinstance can be asked of here -/
def tyOk (cok : Nat → Bool) (h : Hs) : D → Bool
  | .ref n => match h[n]? with
    | some (.lst _) => true
    | some (.ins c _) => cok c
    | _ => false
  | .ins c _ => cok c
  | .dct _ => false
  | _ => true
def tyIn (cok : Nat → Bool) : Ty → Bool
  | .own c => cok c
  | _ => true

/-! ### freezing what a def made -/
mutual
/-- no refs -/
def D.nr : D → Bool
  | .ref _ => false
  | .tup xs => D.nrL xs
  | .lst xs => D.nrL xs
  | .dct kvs => D.nrK kvs
  | .ins _ fs => D.nrF fs
  | _ => true
def D.nrL : List D → Bool
  | [] => true
  | x :: xs => D.nr x && D.nrL xs
def D.nrK : List (D × D) → Bool
  | [] => true
  | (a, b) :: xs => D.nr a && D.nr b && D.nrK xs
def D.nrF : List (Nat × D) → Bool
  | [] => true
  | (_, b) :: xs => D.nr b && D.nrF xs
end
def frzD (new : Hs) (base : Nat) : Nat → D → Option D
  | 0, _ => none
  | k + 1, d => if d.nr then some d else match d with
    | .ref n => if n < base then some (.ref n) else match new[n - base]? with
      | some (.lst xs) => (xs.mapM (frzD new base k)).map .lst
      | some (.dct kvs) => (kvs.mapM (m := Option) (β := D × D) fun (p : D × D) => (frzD new base k p.2).map fun b => (p.1, b)).map .dct
      | some (.lkd kvs) => (kvs.mapM (m := Option) (β := D × D) fun (p : D × D) => (frzD new base k p.2).map fun b => (p.1, b)).map .dct
      | some (.ins c fs) => (fs.mapM (m := Option) (β := Nat × D) fun (p : Nat × D) => (frzD new base k p.2).map fun b => (p.1, b)).map (.ins c)
      | none => none
    | .tup xs => (xs.mapM (frzD new base k)).map .tup
    | .lst xs => (xs.mapM (frzD new base k)).map .lst
    | .dct kvs => (kvs.mapM (m := Option) (β := D × D) fun (p : D × D) => (frzD new base k p.2).map fun b => (p.1, b)).map .dct
    | .ins c fs => (fs.mapM (m := Option) (β := Nat × D) fun (p : Nat × D) => (frzD new base k p.2).map fun b => (p.1, b)).map (.ins c)
    | d => some d
/-- behind a def: what it made is let go or frozen (fz), if what stood before is as it was -/
def back (fz : Bool) (h0 : Hs) (d : D) (h : Hs) : Res D :=
  if h.length = h0.length then .ok d h
  else if fz && Hs.eqb (h.take h0.length) h0 then match frzD (h.drop h0.length) h0.length 6 d with
    | some d' => .ok d' h0
    | none => .ok d h
  else .ok d h

/-! ### the core language -/
inductive Bi where
  | len | tuple | list | all | any | max1 | min1 | max2 | min2 | sum | int | abs
inductive Bm where
  | append | pop0 | popAt | extend
mutual
inductive E where
  | cst (d : D)
  | var (i : Nat)
  | glo (x : Nat) (d : D)
  | bin (op : Operator) (a b : E)
  | neg (a : E)
  | not (a : E)
  | and (a b : E)
  | or (a b : E)
  | cmp (op : CmpOp) (a b : E)
  | chn (o1 o2 : CmpOp) (a b c : E)
  | ite (c a b : E)
  | tup (as : A)
  | lst (fz : Bool) (as : A)
  | idx (a i : E)
  | slc (a : E) (lo hi : OE)
  | fld (a : E) (f : Nat)
  | fn (f : Nat) (as : A)
  | mk (c : Nat) (sh : Nat) (as ks : A)
  | mth (m : Nat) (a : E) (as : A)
  | prp (m : Nat) (a : E)
  | bi (b : Bi) (as : A)
  | isi (a : E) (ts : List Ty)
  | bm (m : Bm) (a : E) (as : A)
  | lc (fz : Bool) (own : List Nat) (elt : E) (g : G) (it : I) (c : OE)
  | dpl (as : A) (k : E)
  | nls (a : E)
  | ieq (a b : E)
  | iln (a : E)
  | isb (ng : Bool) (a b : E)
  | rev (a : E)
  | pop0 (a : E)
  | din (ng : Bool) (a b : E)
  | dget (a b : E)
  | dnew
  | done (a b : E)
  | dlen (a : E)
  | dlst (fz : Bool) (a : E)
  | dof (a : E)
  | dupd (a b : E)
  | dcm (fz : Bool) (own : List Nat) (k v : E) (g : G) (it : I) (c : OE)
inductive A where
  | nil | cons (e : E) (r : A) | star (e : E) (r : A)
inductive OE where
  | none | some (e : E)
inductive G where
  | nm (i : Nat) | tup (gs : GL) | att (a : E) (f : Nat) | sub (a i : E) | dsub (a i : E)
inductive GL where
  | nil | cons (g : G) (r : GL)
inductive I where
  | val (e : E) | rng1 (a : E) | rng2 (a b : E) | rng3 (a b c : E) | zip (a b : E) | enum (a : E) | dkeys (e : E)
end
mutual
inductive S where
  | exp (e : E) | ret (e : E) | retN | asg (g : G) (e : E) | par (i j : Nat) (a b : E) | par3 (i j l : Nat) (a b c : E) | aug (i : Nat) (op : Operator) (e : E)
  | ifs (c : E) (t f : B) | for_ (g : G) (it : I) (b : B) | whl (c : E) (b : B) | pass | brk | cnt | mat (e : E) (cs : C) | never
inductive B where
  | nil | cons (s : S) (r : B)
inductive C where
  | nil | cons (k : Str) (b : B) (r : C)
end
/-- the program's tables -/
structure Tab where
  /-- a class's method (class, method's name) : the def -/
  meth : Nat → Nat → Option Nat
  /-- a class's __init__; whether an instance is frozen when it is made -/
  init : Nat → Option (Nat × Bool)
  /-- a shape of a call by keywords: the parameters' values of the positional ones and the keywords' -/
  shape : Nat → List D → List D → Option (List D)
  fuel : Nat
  /-- classes that isinstance knows -/
  cok : Nat → Bool
  /-- a class's plain fields -/
  fok : Nat → Nat → Bool
  /-- the names __eq__, __len__ -/
  eq : Nat
  len : Nat
def rngD (lo c : Int) (n : Nat) : List D := (List.range n).map fun (i : Nat) => D.int (lo + (i : Int) * c)
def big (i : Int) : Bool := decide (-(2 ^ 62) ≤ i) && decide (i < 2 ^ 62)
/-- what is walked: items, or a list of the heap -/
inductive Src where
  | its (xs : List D) | live (n : Nat)
def pairs (xs ys : List D) : List D := (xs.zip ys).map fun p => .tup [p.1, p.2]
def numbered (i : Nat) : List D → List D
  | [] => []
  | x :: xs => .tup [.int i, x] :: numbered (i + 1) xs
def lookP (k : D) : List (D × D) → Option D := look k
def boolsOf : List D → Option (List Bool)
  | [] => some []
  | .bl b :: r => (boolsOf r).map (b :: ·)
  | _ :: _ => none
/-- an item put behind the list at n -/
def pushM (n : Nat) (y : D) (h : Hs) : Res Unit := match h[n]? with
  | some (.lst acc) => if acc.length < sizeLine then .ok () (h.set n (.lst (acc ++ [y]))) else .no
  | _ => .no
/-- the loop of a comprehension; the new list stands at n -/
def loopLC (tg : D → Sg → Hs → Res Sg) (ts : Sg → Hs → Res Bool) (el : Sg → Hs → Res D) (σ : Sg) (n : Nat) : List D → Hs → Res Unit
  | [], h => .ok () h
  | x :: xs, h => (tg x σ h).bind fun σ' h => (ts σ' h).bind fun k h => if k then (el σ' h).bind fun y h => (pushM n y h).bind fun _ h => loopLC tg ts el σ n xs h else loopLC tg ts el σ n xs h
/-- .. over a list of the heap, at m -/
def loopLCn (tg : D → Sg → Hs → Res Sg) (ts : Sg → Hs → Res Bool) (el : Sg → Hs → Res D) (σ : Sg) (n m : Nat) : Nat → Nat → Hs → Res Unit
  | 0, _, _ => .no
  | k + 1, i, h => match h[m]? with
    | some (.lst xs) => match xs[i]? with
      | some x => (tg x σ h).bind fun σ' h => (ts σ' h).bind fun b h => if b then (el σ' h).bind fun y h => (pushM n y h).bind fun _ h => loopLCn tg ts el σ n m k (i + 1) h else loopLCn tg ts el σ n m k (i + 1) h
      | none => .ok () h
    | _ => .no
/-! ### objects that are walked while they stand still -/
def O.items : O → Option (List D)
  | .lst xs => some xs
  | _ => none
def grd (o : O) (n : Nat) (h : Hs) : Bool := match h[n]? with
  | some u => O.eqb u o
  | none => false
def loopLCg (gd : Hs → Bool) (tg : D → Sg → Hs → Res Sg) (ts : Sg → Hs → Res Bool) (el : Sg → Hs → Res D) (σ : Sg) (n : Nat) : List D → Hs → Res Unit
  | [], h => if gd h then .ok () h else .no
  | x :: xs, h => if gd h then (tg x σ h).bind fun σ' h => (ts σ' h).bind fun k h => if k then (el σ' h).bind fun y h => (pushM n y h).bind fun _ h => loopLCg gd tg ts el σ n xs h else loopLCg gd tg ts el σ n xs h else .no
/-- an entry put into the dict at n -/
def storeM (n : Nat) (x y : D) (h : Hs) : Res Unit := match h[n]?, x.tkey with
  | some (.dct kvs), some k => if kvs.length < sizeLine then .ok () (h.set n (.dct (putN x k y kvs))) else .no
  | _, _ => .no
def loopDC (tg : D → Sg → Hs → Res Sg) (ts : Sg → Hs → Res Bool) (ky vl : Sg → Hs → Res D) (σ : Sg) (n : Nat) : List D → Hs → Res Unit
  | [], h => .ok () h
  | x :: xs, h => (tg x σ h).bind fun σ' h => (ts σ' h).bind fun k h => if k then (ky σ' h).bind fun y h => (vl σ' h).bind fun z h => (storeM n y z h).bind fun _ h => loopDC tg ts ky vl σ n xs h else loopDC tg ts ky vl σ n xs h
def loopDCg (gd : Hs → Bool) (tg : D → Sg → Hs → Res Sg) (ts : Sg → Hs → Res Bool) (ky vl : Sg → Hs → Res D) (σ : Sg) (n : Nat) : List D → Hs → Res Unit
  | [], h => if gd h then .ok () h else .no
  | x :: xs, h => if gd h then (tg x σ h).bind fun σ' h => (ts σ' h).bind fun k h => if k then (ky σ' h).bind fun y h => (vl σ' h).bind fun z h => (storeM n y z h).bind fun _ h => loopDCg gd tg ts ky vl σ n xs h else loopDCg gd tg ts ky vl σ n xs h else .no
def dinD (ng : Bool) (h : Hs) (x y : D) : Option D := match y.kvs h, x.tkey with
  | some kvs, some k => some (.bl (hasK k kvs != ng))
  | _, _ => none
def isbD (ng : Bool) (x y : D) : Option D := match y with
  | .bl c => match x with
    | .bl b => some (.bl ((b == c) != ng))
    | .non => some (.bl ng)
    | _ => none
  | _ => none
def dgetD (h : Hs) (x y : D) : Option D := match x.kvs h, y.tkey with
  | some kvs, some k => getK k kvs
  | _, _ => none
def revD (h : Hs) (a : D) : Option D := match a.lseq h with
  | some xs => some (.lst xs.reverse)
  | none => none
def pairsD : List D → Option (List (D × D))
  | [] => some []
  | .tup [k, v] :: r => match k.tkey, pairsD r with
    | some _, some s => some ((k, v) :: s)
    | _, _ => none
  | _ :: _ => none
def mergeN (kvs : List (D × D)) : List (D × D) → List (D × D)
  | [] => kvs
  | (a, v) :: r => match a.tkey with
    | some k => mergeN (putN a k v kvs) r
    | none => kvs
def popM (x : D) (h : Hs) : Res D := match x with
  | .ref n => match h[n]? with
    | some (.lst (y :: ys)) => .ok y (h.set n (.lst ys))
    | _ => .no
  | _ => .no
def notRef (n : Nat) : D → Bool
  | .ref m => m != n
  | _ => true
def updM (x y : D) (h : Hs) : Res D := match x, y.kvs h with
  | .ref n, some more => match h[n]? with
    | some (.dct kvs) => if !kvs.isEmpty && decide (kvs.length + more.length ≤ sizeLine) && notRef n y then .ok .non (h.set n (.dct (mergeN kvs more))) else .no
    | _ => .no
  | _, _ => .no
def tst (x : D) (h : Hs) : Res Bool := .of (tru h x) h
def wipeM : List Nat → Sg → Sg
  | [], σ => σ
  | v :: vs, σ => (wipeM vs σ).set v none
def biD (h : Hs) (b : Bi) (as : List D) : Option D := match b, as with
  | .len, [a] => match a with
    | .str x => if x.length ≤ sizeLine then some (.int x.length) else none
    | a => (a.seq h).map fun xs => .int xs.length
  | .tuple, [a] => (a.seq h).map .tup
  | .list, [a] => (a.seq h).map .lst
  | .all, [a] => (a.lseq h).bind fun xs => (boolsOf xs).map fun bs => D.bl (bs.all id)
  | .any, [a] => (a.lseq h).bind fun xs => (boolsOf xs).map fun bs => D.bl (bs.any id)
  | .max2, [.int i, .int j] => some (.int (if j > i then j else i))
  | .min2, [.int i, .int j] => some (.int (if j < i then j else i))
  | .int, [.int i] => some (.int i)
  | .int, [.bl k] => some (.int (if k then 1 else 0))
  | .abs, [.int i] => some (.int (if i < 0 then -i else i))
  | _, _ => none
def setO (h : Hs) (n : Nat) (o : O) : Hs := h.set n o
def bmD (m : Bm) (a : D) (as : List D) (h : Hs) : Res D := match m, a, as with
  | .append, .ref n, [x] => match h[n]? with
    | some (.lst xs) => if xs.length < sizeLine then .ok .non (setO h n (.lst (xs ++ [x]))) else .no
    | _ => .no
  | _, _, _ => .no
def kvsS : List D → Option (List (Str × D))
  | [] => some []
  | .tup [.str k, v] :: r => (kvsS r).map fun s => (k, v) :: s
  | _ :: _ => none
/-- the last one of the name -/
def lookS (k : Str) : List (Str × D) → Option D → Option D
  | [], o => o
  | (a, v) :: r, o => lookS k r (if k = a then some v else o)

section
variable (T : Tab) (cl : Nat → List D → Hs → Res D)
mutual
def evE : E → Sg → Hs → Res D
  | .cst d, _, h => .ok d h
  | .var i, σ, h => match σ[i]? with
    | some (some d) => .ok d h
    | _ => .no
  | .glo _ d, _, h => .ok d h
  | .bin op a b, σ, h => (evE a σ h).bind fun x h => (evE b σ h).bind fun y h => .of (opBin h op x y) h
  | .neg a, σ, h => (evE a σ h).bind fun x h => match x with
    | .int i => .ok (.int (-i)) h
    | _ => .no
  | .not a, σ, h => (evE a σ h).bind fun x h => match tru h x with
    | some k => .ok (.bl (!k)) h
    | none => .no
  | .and a b, σ, h => (evE a σ h).bind fun x h => match tru h x with
    | some true => evE b σ h
    | some false => .ok x h
    | none => .no
  | .or a b, σ, h => (evE a σ h).bind fun x h => match tru h x with
    | some true => .ok x h
    | some false => evE b σ h
    | none => .no
  | .cmp op a b, σ, h => (evE a σ h).bind fun x h => (evE b σ h).bind fun y h => .of (opCmp h op x y) h
  | .chn o1 o2 a b c, σ, h => (evE a σ h).bind fun x h => (evE b σ h).bind fun y h => match opCmp h o1 x y with
    | some (.bl true) => (evE c σ h).bind fun z h => .of (opCmp h o2 y z) h
    | some (.bl false) => .ok (.bl false) h
    | _ => .no
  | .ite c a b, σ, h => ((evE c σ h).bind tst).bind fun k h => if k then evE a σ h else evE b σ h
  | .tup as, σ, h => (evA as σ h).bind fun xs h => if xs.length ≤ sizeLine then .ok (.tup xs) h else .no
  | .lst fz as, σ, h => (evA as σ h).bind fun xs h => if xs.length ≤ sizeLine then (if fz then .ok (.lst xs) h else .ok (.ref h.length) (h ++ [.lst xs])) else .no
  | .idx a i, σ, h => (evE a σ h).bind fun x h => (evE i σ h).bind fun y h => .of (idxD h x y) h
  | .slc a lo hi, σ, h => (evE a σ h).bind fun x h => (evOE lo σ h).bind fun l h => (evOE hi σ h).bind fun u h => match l, u with
    | none, none => .of (slcD h x none none) h
    | some (.int l), none => .of (slcD h x (some l) none) h
    | none, some (.int u) => .of (slcD h x none (some u)) h
    | some (.int l), some (.int u) => .of (slcD h x (some l) (some u)) h
    | _, _ => .no
  | .fld a f, σ, h => (evE a σ h).bind fun x h => match x.fields h with
    | some (c, fs) => if T.fok c f then .of (getF f fs) h else .no
    | none => .no
  | .fn f as, σ, h => (evA as σ h).bind fun xs h => cl f xs h
  | .mk c sh as ks, σ, h => (evA as σ h).bind fun xs h => (evA ks σ h).bind fun ys h => match T.init c, T.shape sh xs ys with
    | some (f, fz), some zs => (cl f (.ref h.length :: zs) (h ++ [.ins c []])).bind fun d h' => match d with
      | .non => back fz h (.ref h.length) h'
      | _ => .no
    | _, _ => .no
  | .mth m a as, σ, h => (evE a σ h).bind fun x h => match x.fields h with
    | some (c, fs) => match getF m fs, T.meth c m with
      | none, some f => (evA as σ h).bind fun xs h => match x.fields h with
        | some (e, _) => if e = c then cl f (x :: xs) h else .no
        | none => .no
      | _, _ => .no
    | none => .no
  | .prp m a, σ, h => (evE a σ h).bind fun x h => match x.fields h with
    | some (c, _) => match T.meth c m with
      | some f => cl f [x] h
      | none => .no
    | none => .no
  | .bi b as, σ, h => (evA as σ h).bind fun xs h => .of (biD h b xs) h
  | .isi a ts, σ, h => (evE a σ h).bind fun x h => if tyOk T.cok h x && ts.all (tyIn T.cok) then .ok (.bl (ts.any (isTy h x))) h else .no
  | .bm m a as, σ, h => (evE a σ h).bind fun x h => match x.lseq h with
    | some _ => (evA as σ h).bind fun xs h => bmD m x xs h
    | none => .no
  | .lc fz own elt g it c, σ, h => (evI it σ h).bind fun s h => ((match s with
      | .its xs => loopLC (evG g) (evOT c) (evE elt) (wipeM own σ) h.length xs (h ++ [.lst []])
      | .live n => match h[n]? with
        | some o => match o.items with
          | some xs => loopLCg (grd o n) (evG g) (evOT c) (evE elt) (wipeM own σ) h.length xs (h ++ [.lst []])
          | none => .no
        | none => .no) : Res Unit).bind fun _ h' => back fz h (.ref h.length) h'
  | .ieq a b, σ, h => (evE a σ h).bind fun x h => (evE b σ h).bind fun y h => match x.fields h, y.fields h with
    | some (c, _), some (e, _) => if c = e then match T.meth c T.eq with
      | some f => (cl f [x, y] h).bind fun d h => (match d with
        | .bl b => .ok (.bl b) h
        | _ => .no)
      | none => .no else .no
    | _, _ => .no
  | .iln a, σ, h => (evE a σ h).bind fun x h => match x.fields h with
    | some (c, _) => match T.meth c T.len with
      | some f => (cl f [x] h).bind fun d h => match d with
        | .int i => if decide (0 ≤ i) && decide (i < 2 ^ 62) then .ok (.int i) h else .no
        | _ => .no
      | none => .no
    | _ => .no
  | .nls a, σ, h => (evE a σ h).bind fun x h => match x.seq h with
    | some xs => .ok (.ref h.length) (h ++ [.lst xs])
    | none => .no
  | .dpl as k, σ, h => (evA as σ h).bind fun xs h => if xs.length ≤ sizeLine then match kvsS xs with
    | some kvs => (evE k σ h).bind fun y h => match y with
      | .str x => .of (lookS x kvs none) h
      | _ => .no
    | none => .no else .no
  | .isb ng a b, σ, h => (evE a σ h).bind fun x h => (evE b σ h).bind fun y h => .of (isbD ng x y) h
  | .rev a, σ, h => (evE a σ h).bind fun x h => .of (revD h x) h
  | .pop0 a, σ, h => (evE a σ h).bind fun x h => popM x h
  | .din ng a b, σ, h => (evE a σ h).bind fun x h => (evE b σ h).bind fun y h => .of (dinD ng h x y) h
  | .dget a b, σ, h => (evE a σ h).bind fun x h => (evE b σ h).bind fun y h => .of (dgetD h x y) h
  | .dnew, _, h => .ok (.ref h.length) (h ++ [.dct []])
  | .done a b, σ, h => (evE a σ (h ++ [.dct []])).bind fun x h1 => (evE b σ h1).bind fun y h2 => match h2[h.length]? with
    | some (.dct []) => (storeM h.length x y h2).bind fun _ h3 => .ok (.ref h.length) h3
    | _ => .no
  | .dlen a, σ, h => (evE a σ h).bind fun x h => match x.kvs h with
    | some kvs => .ok (.int kvs.length) h
    | none => .no
  | .dlst fz a, σ, h => (evE a σ h).bind fun x h => match x.kvs h with
    | some kvs => if fz then .ok (.lst (kvs.map (·.1))) h else .ok (.ref h.length) (h ++ [.lst (kvs.map (·.1))])
    | none => .no
  | .dof a, σ, h => (evE a σ h).bind fun x h => match x.lseq h with
    | some xs => match pairsD xs with
      | some kvs => if kvs.length ≤ sizeLine then .ok (.ref h.length) (h ++ [.dct (mergeN [] kvs)]) else .no
      | none => .no
    | none => .no
  | .dupd a b, σ, h => (evE a σ h).bind fun x h => match x.kvs h with
    | some _ => (evE b σ h).bind fun y h => updM x y h
    | none => .no
  | .dcm fz own k v g it c, σ, h => (evI it σ h).bind fun s h => ((match s with
      | .its xs => loopDC (evG g) (evOT c) (evE k) (evE v) (wipeM own σ) h.length xs (h ++ [.dct []])
      | .live n => match h[n]? with
        | some o => match o.items with
          | some xs => loopDCg (grd o n) (evG g) (evOT c) (evE k) (evE v) (wipeM own σ) h.length xs (h ++ [.dct []])
          | none => .no
        | none => .no) : Res Unit).bind fun _ h' => back fz h (.ref h.length) h'
def evA : A → Sg → Hs → Res (List D)
  | .nil, _, h => .ok [] h
  | .cons e r, σ, h => (evE e σ h).bind fun x h => (evA r σ h).bind fun xs h => .ok (x :: xs) h
  | .star e r, σ, h => (evE e σ h).bind fun x h => match x.seq h with
    | some ys => (evA r σ h).bind fun xs h => .ok (ys ++ xs) h
    | none => .no
def evOE : OE → Sg → Hs → Res (Option D)
  | .none, _, h => .ok none h
  | .some e, σ, h => (evE e σ h).bind fun x h => .ok (some x) h
def evI : I → Sg → Hs → Res Src
  | .val e, σ, h => (evE e σ h).bind fun x h => match x with
    | .tup xs => .ok (.its xs) h
    | .lst xs => .ok (.its xs) h
    | .ref n => match h[n]? with
      | some (.lst _) => .ok (.live n) h
      | _ => .no
    | _ => .no
  | .rng1 a, σ, h => (evE a σ h).bind fun x h => match x with
    | .int j => if big j then .ok (.its (rngD 0 1 j.toNat)) h else .no
    | _ => .no
  | .rng2 a b, σ, h => (evE a σ h).bind fun x h => (evE b σ h).bind fun y h => match x, y with
    | .int i, .int j => if big i && big j then .ok (.its (rngD i 1 (j - i).toNat)) h else .no
    | _, _ => .no
  | .rng3 a b c, σ, h => (evE a σ h).bind fun x h => (evE b σ h).bind fun y h => (evE c σ h).bind fun z h => match x, y, z with
    | .int i, .int j, .int c => if decide (c ≠ 0) && decide (c.natAbs < 1073741824) && Builtin.Range.small i j c && decide (0 ≤ Builtin.Range.rangeSize i j c) then .ok (.its (rngD i c (Builtin.Range.rangeSize i j c).toNat)) h else .no
    | _, _, _ => .no
  | .zip a b, σ, h => (evE a σ h).bind fun x h => (evE b σ h).bind fun y h => match x, y with
    | .tup xs, .tup ys => .ok (.its (pairs xs ys)) h
    | .lst xs, .lst ys => .ok (.its (pairs xs ys)) h
    | _, _ => .no
  | .enum a, σ, h => (evE a σ h).bind fun x h => match x with
    | .tup xs => .ok (.its (numbered 0 xs)) h
    | .lst xs => .ok (.its (numbered 0 xs)) h
    | _ => .no
  | .dkeys e, σ, h => (evE e σ h).bind fun x h => match x with
    | .dct kvs => .ok (.its (kvs.map (·.1))) h
    | .ref n => match h[n]? with
      | some (.dct kvs) => .ok (.its (kvs.map (·.1))) (h.set n (.lkd kvs))
      | some (.lkd kvs) => .ok (.its (kvs.map (·.1))) h
      | _ => .no
    | _ => .no
def evG : G → D → Sg → Hs → Res Sg
  | .nm i, d, σ, h => .ok (σ.set i (some d)) h
  | .tup gs, d, σ, h => match d with
    | .tup xs => evGL gs xs σ h
    | _ => .no
  | .att a f, d, σ, h => (evE a σ h).bind fun x h => match x with
    | .ref n => match h[n]? with
      | some (.ins c fs) => if T.fok c f && decide (fs.length < 900) then .ok σ (setO h n (.ins c (putF f d fs))) else .no
      | _ => .no
    | _ => .no
  | .sub a i, d, σ, h => (evE a σ h).bind fun x h => (evE i σ h).bind fun y h => match x, y with
    | .ref n, .int k => match h[n]? with
      | some (.lst xs) => match L2.ixN xs.length k with
        | some j => .ok σ (setO h n (.lst (xs.set j d)))
        | none => .no
      | _ => .no
    | _, _ => .no
  | .dsub a i, d, σ, h => (evE a σ h).bind fun x h => (evE i σ h).bind fun y h => match x with
    | .ref n => (storeM n y d h).bind fun _ h => .ok σ h
    | _ => .no
def evGL : GL → List D → Sg → Hs → Res Sg
  | .nil, xs, σ, h => match xs with
    | [] => .ok σ h
    | _ => .no
  | .cons g r, xs, σ, h => match xs with
    | x :: xs => (evG g x σ h).bind fun σ h => evGL r xs σ h
    | [] => .no
def evOT : OE → Sg → Hs → Res Bool
  | .none, _, h => .ok true h
  | .some e, σ, h => (evE e σ h).bind tst
end

/-! ### statements -/
def augD (op : Operator) (k : Int) (y : D) : Option Int := match op, y with
  | .Add, .int j => some (k + j)
  | .Sub, .int j => some (k - j)
  | _, _ => none
inductive Fl where
  | nx | bk | ct | rt (d : D)
abbrev R2 := Res (Fl × Sg)
def loopF (tg : D → Sg → Hs → Res Sg) (bd : Sg → Hs → R2) : List D → Sg → Hs → R2
  | [], σ, h => .ok (.nx, σ) h
  | x :: xs, σ, h => (tg x σ h).bind fun σ h => (bd σ h).bind fun r h => match r.1 with
    | .nx => loopF tg bd xs r.2 h
    | .ct => loopF tg bd xs r.2 h
    | .bk => .ok (.nx, r.2) h
    | .rt d => .ok (.rt d, r.2) h
def loopFg (gd : Hs → Bool) (tg : D → Sg → Hs → Res Sg) (bd : Sg → Hs → R2) : List D → Sg → Hs → R2
  | [], σ, h => if gd h then .ok (.nx, σ) h else .no
  | x :: xs, σ, h => if gd h then (tg x σ h).bind fun σ h => (bd σ h).bind fun r h => (match r.1 with
    | .nx => loopFg gd tg bd xs r.2 h
    | .ct => loopFg gd tg bd xs r.2 h
    | .bk => .ok (.nx, r.2) h
    | .rt d => .ok (.rt d, r.2) h) else .no
def loopN (tg : D → Sg → Hs → Res Sg) (bd : Sg → Hs → R2) (n : Nat) : Nat → Nat → Sg → Hs → R2
  | 0, _, _, _ => .no
  | m + 1, i, σ, h => match h[n]? with
    | some (.lst xs) => match xs[i]? with
      | some x => (tg x σ h).bind fun σ h => (bd σ h).bind fun r h => match r.1 with
        | .nx => loopN tg bd n m (i + 1) r.2 h
        | .ct => loopN tg bd n m (i + 1) r.2 h
        | .bk => .ok (.nx, r.2) h
        | .rt d => .ok (.rt d, r.2) h
      | none => .ok (.nx, σ) h
    | _ => .no
def loopW (c : Sg → Hs → Res Bool) (bd : Sg → Hs → R2) : Nat → Sg → Hs → R2
  | 0, _, _ => .no
  | m + 1, σ, h => (c σ h).bind fun k h => if k then (bd σ h).bind fun r h => (match r.1 with
      | .nx => loopW c bd m r.2 h
      | .ct => loopW c bd m r.2 h
      | .bk => .ok (.nx, r.2) h
      | .rt d => .ok (.rt d, r.2) h) else .ok (.nx, σ) h
mutual
def evS : S → Sg → Hs → R2
  | .exp e, σ, h => (evE T cl e σ h).bind fun _ h => .ok (.nx, σ) h
  | .ret e, σ, h => (evE T cl e σ h).bind fun d h => .ok (.rt d, σ) h
  | .retN, σ, h => .ok (.rt .non, σ) h
  | .asg g e, σ, h => (evE T cl e σ h).bind fun d h => (evG T cl g d σ h).bind fun σ h => .ok (.nx, σ) h
  | .par i j a b, σ, h => (evE T cl a σ h).bind fun x h => (evE T cl b σ h).bind fun y h => .ok (.nx, (σ.set i (some x)).set j (some y)) h
  | .par3 i j l a b c, σ, h => (evE T cl a σ h).bind fun x h => (evE T cl b σ h).bind fun y h => (evE T cl c σ h).bind fun z h => .ok (.nx, ((σ.set i (some x)).set j (some y)).set l (some z)) h
  | .aug i op e, σ, h => match σ[i]? with
    | some (some (.int k)) => (evE T cl e σ h).bind fun y h => match augD op k y with
      | some r => .ok (.nx, σ.set i (some (.int r))) h
      | none => .no
    | _ => .no
  | .ifs c t f, σ, h => ((evE T cl c σ h).bind tst).bind fun k h => if k then evB t σ h else evB f σ h
  | .for_ g it b, σ, h => (evI T cl it σ h).bind fun s h => match s with
    | .its xs => loopF (evG T cl g) (evB b) xs σ h
    | .live n => match h[n]? with
      | some o => match o.items with
        | some xs => loopFg (grd o n) (evG T cl g) (evB b) xs σ h
        | none => .no
      | none => .no
  | .whl c b, σ, h => loopW (fun σ h => (evE T cl c σ h).bind tst) (evB b) T.fuel σ h
  | .pass, σ, h => .ok (.nx, σ) h
  | .brk, σ, h => .ok (.bk, σ) h
  | .cnt, σ, h => .ok (.ct, σ) h
  | .mat e cs, σ, h => (evE T cl e σ h).bind fun d h => match d with
    | .str x => evC cs x σ h
    | _ => .no
  | .never, _, _ => .no
def evB : B → Sg → Hs → R2
  | .nil, σ, h => .ok (.nx, σ) h
  | .cons s r, σ, h => (evS s σ h).bind fun q h => match q.1 with
    | .nx => evB r q.2 h
    | f => .ok (f, q.2) h
def evC : C → Str → Sg → Hs → R2
  | .nil, _, σ, h => .ok (.nx, σ) h
  | .cons k b r, x, σ, h => if x = k then evB b σ h else evC r x σ h
end
end
/-- a def -/
structure Fn where
  ar : Nat
  ns : Nat
  body : B
  fz : Bool
def startM (ns : Nat) (xs : List D) : Sg := xs.map some ++ List.replicate (ns - xs.length) none
def callM (T : Tab) (F : Nat → Option Fn) : Nat → Nat → List D → Hs → Res D
  | 0, _, _, _ => .no
  | n + 1, f, xs, h => match F f with
    | some fn => if xs.length = fn.ar then (evB T (callM T F n) fn.body (startM fn.ns xs) h).bind fun r h' => (match r.1 with
        | .rt d => back fn.fz h d h'
        | .nx => back fn.fz h .non h'
        | _ => .no) else .no
    | none => .no
end MC

set_option Elab.async false
set_option linter.all false
set_option maxRecDepth 100000
set_option maxHeartbeats 4000000
namespace MC
open PySem PySem.Spec PyProof.Rows L2

/-- where the classes stand; the program and the world (the keys of dicts) -/
structure CaT where
  f : Nat → Addr
  P : Program
  w : World
instance : CoeFun CaT (fun _ => Nat → Addr) := ⟨CaT.f⟩
instance : Coe CaT (Nat → Addr) := ⟨CaT.f⟩
def KwL (K : PySem.W.Frag) (a : Addr) (xs : List V) : Prop := ∃ (o : Obj) (its : Array Value) (n : Nat), K.lookup a = some o ∧ o.cls = .type "list" ∧ o.dict = none ∧ o.data = .seq its n ∧ its.size ≤ sizeLine ∧ Vals xs its.toList
/-- a list that stands still -/
def LsT (K : PySem.W.Frag) (β : List Addr) (H : Hp) (a : Addr) (vs : List V) : Prop := (Rd H a (.lst vs) ∧ a ∉ β) ∨ KwL K a vs
theorem LsT.sq {K : PySem.W.Frag} {β : List Addr} {H : Hp} {a : Addr} {vs : List V} (h : LsT K β H a vs) : SqL K H a vs := by
  rcases h with ⟨h, _⟩ | h
  · exact .inl h
  · exact .inr h
/-- a dict whose keys are tuples: its object, its entries: key, the key's tuple, value -/
def dN (P : Program) (w : World) (a : Addr) (o : Obj) (xs : List (NestedKey × Addr × V)) : HO := .ext fun h => h.get? a = some o ∧ xs.length ≤ sizeLine ∧ (a == sysModules) = false ∧
  ∃ ys : List (NestedKey × Addr × Value), Paired (fun (p : NestedKey × Addr × V) (q : NestedKey × Addr × Value) => p.1 = q.1 ∧ p.2.1 = q.2.1 ∧ RelV p.2.2 q.2.2) xs ys ∧
    ∃ es ep, o.ExactDict ∧ o.data = .dict es ep ∧ es.toList = ys.map (entryOfKey (nestedKind P w)) ∧ (ys.map (·.1)).Nodup
/-- .. that may be locked -/
def DN (P : Program) (w : World) (H : Hp) (a : Addr) (o : Obj) (xs : List (NestedKey × Addr × V)) : Prop := H a = some (dN P w a o xs) ∨ H a = some (.frz o (dN P w a o xs))
section
variable (K : PySem.W.Frag) (nm : Nat → Str) (ca : CaT)
mutual
inductive RelD (β : List Addr) (H : Hp) : D → V → Prop
  | non : RelD β H .non .non
  | bl (b : Bool) : RelD β H (.bl b) (.bl b)
  | int (i : Int) : RelD β H (.int i) (.int i)
  | str (x : Str) : RelD β H (.str x) (.str x)
  | tup {a : Addr} {vs : List V} {xs : List D} : SqT K H a vs → RelL β H xs vs → RelD β H (.tup xs) (.ref a)
  | lst {a : Addr} {vs : List V} {xs : List D} : LsT K β H a vs → RelL β H xs vs → RelD β H (.lst xs) (.ref a)
  | ins {a dx : Addr} {c : Nat} {fs : List (Nat × D)} {gs : List (Str × V)} : H a = some (.ins (ca c) dx gs) → a ∉ β → RelF β H fs gs → RelD β H (.ins c fs) (.ref a)
  | dct {a : Addr} {kvs : List (D × D)} {ob : Obj} {xs : List (NestedKey × Addr × V)} : DN ca.P ca.w H a ob xs → a ∉ β → RelK β H kvs xs → RelD β H (.dct kvs) (.ref a)
  | ref {n : Nat} {a : Addr} : β[n]? = some a → RelD β H (.ref n) (.ref a)
inductive RelL (β : List Addr) (H : Hp) : List D → List V → Prop
  | nil : RelL β H [] []
  | cons {d : D} {v : V} {ds : List D} {vs : List V} : RelD β H d v → RelL β H ds vs → RelL β H (d :: ds) (v :: vs)
inductive RelK (β : List Addr) (H : Hp) : List (D × D) → List (NestedKey × Addr × V) → Prop
  | nil : RelK β H [] []
  | cons {d e : D} {k : NestedKey} {a : Addr} {v : V} {ds : List (D × D)} {xs : List (NestedKey × Addr × V)} : d.tkey = some k → RelD β H d (.ref a) → RelD β H e v → RelK β H ds xs → RelK β H ((d, e) :: ds) ((k, a, v) :: xs)
inductive RelF (β : List Addr) (H : Hp) : List (Nat × D) → List (Str × V) → Prop
  | nil : RelF β H [] []
  | cons {f : Nat} {d : D} {v : V} {ds : List (Nat × D)} {vs : List (Str × V)} : RelD β H d v → RelF β H ds vs → RelF β H ((f, d) :: ds) ((nm f, v) :: vs)
end
/-- one step: what is kept -/
structure Stp (β : List Addr) (H : Hp) (β' : List Addr) (H' : Hp) : Prop where
  tup : ∀ a xs, H a = some (.tup xs) → H' a = some (.tup xs)
  frz : ∀ a o u, H a = some (.frz o u) → H' a = some (.frz o u)
  oth : ∀ a o, H a = some o → a ∉ β → H' a = some o
  ext : ∃ r, β' = β ++ r
  new : ∀ a ∈ β', a ∈ β ∨ H a = none
theorem Stp.refl (β : List Addr) (H : Hp) : Stp β H β H := ⟨fun _ _ h => h, fun _ _ _ h => h, fun _ _ h _ => h, ⟨[], by simp⟩, fun _ h => .inl h⟩
theorem Stp.trans {β β1 β2 : List Addr} {H H1 H2 : Hp} (p : Stp β H β1 H1) (q : Stp β1 H1 β2 H2) : Stp β H β2 H2 := by
  refine ⟨fun a xs h => q.tup a xs (p.tup a xs h), fun a o u h => q.frz a o u (p.frz a o u h), fun a o h n => ?_, ?_, fun a h => ?_⟩
  · refine q.oth a o (p.oth a o h n) (fun m => ?_)
    rcases p.new a m with m | m
    · exact n m
    · rw [h] at m; cases m
  · obtain ⟨r, e⟩ := p.ext
    obtain ⟨r', e'⟩ := q.ext
    exact ⟨r ++ r', by rw [e', e, List.append_assoc]⟩
  · rcases q.new a h with m | m
    · exact p.new a m
    · by_cases hb : a ∈ β
      · exact .inl hb
      · refine .inr ?_
        cases e : H a with
        | none => rfl
        | some o =>
          rw [p.oth a o e hb] at m; cases m
/-- a new thing that M doesn't track by a ref (a tuple, a frozen list) -/
theorem Stp.laid {β : List Addr} {H : Hp} {p : Addr} {o : HO} (n : H p = none) : Stp β H β (upd H p o) := by
  have k : ∀ a u, H a = some u → upd H p o a = some u := fun a u h => by rw [upd_ne (ne_of_none h n)]; exact h
  exact ⟨fun a xs h => k a _ h, fun a _ _ h => k a _ h, fun a o h _ => k a o h, ⟨[], by simp⟩, fun _ h => .inl h⟩
theorem Stp.push {β : List Addr} {H : Hp} {p : Addr} {o : HO} (n : H p = none) : Stp β H (β ++ [p]) (upd H p o) := by
  have k : ∀ a u, H a = some u → upd H p o a = some u := fun a u h => by rw [upd_ne (ne_of_none h n)]; exact h
  refine ⟨fun a xs h => k a _ h, fun a _ _ h => k a _ h, fun a o h _ => k a o h, ⟨[p], rfl⟩, fun a h => ?_⟩
  rcases List.mem_append.mp h with h | h
  · exact .inl h
  · rw [List.mem_singleton.mp h]; exact .inr n
/-- an object that M tracks is written: it is no tuple and not locked -/
theorem Stp.write {β : List Addr} {H : Hp} {p : Addr} {o u : HO} (hp : p ∈ β) (hu : H p = some u) (h1 : ∀ xs, u ≠ .tup xs) (h2 : ∀ a b, u ≠ .frz a b) : Stp β H β (upd H p o) := by
  refine ⟨fun a xs h => ?_, fun a x y h => ?_, fun a x h n => ?_, ⟨[], by simp⟩, fun _ h => .inl h⟩
  · rw [upd_ne (ne_of h hu (Ne.symm (h1 xs)))]; exact h
  · rw [upd_ne (ne_of h hu (Ne.symm (h2 x y)))]; exact h
  · rw [upd_ne (fun e => n (by rw [e]; exact hp))]; exact h
section
variable {K : PySem.W.Frag} {nm : Nat → Str} {ca : CaT} {β β' : List Addr} {H H' : Hp}
theorem Stp.rd {a : Addr} {vs : List V} (p : Stp β H β' H') (h : LsT K β H a vs) : LsT K β' H' a vs := by
  rcases h with ⟨h, n⟩ | h
  · refine .inl ⟨?_, fun m => ?_⟩
    · rcases h with h | ⟨o, h⟩
      · exact .inl (p.oth a _ h n)
      · exact .inr ⟨o, p.frz a o _ h⟩
    · rcases p.new a m with m | m
      · exact n m
      · rcases h with h | ⟨o, h⟩ <;> (rw [h] at m; cases m)
  · exact .inr h
theorem Stp.sqT {a : Addr} {vs : List V} (p : Stp β H β' H') (h : SqT K H a vs) : SqT K H' a vs := by
  rcases h with (h | ⟨o, h⟩) | h
  · exact .inl (.inl (p.tup a _ h))
  · exact .inl (.inr ⟨o, p.frz a o _ h⟩)
  · exact .inr h
theorem Stp.get {n : Nat} {a : Addr} (p : Stp β H β' H') (h : β[n]? = some a) : β'[n]? = some a := by
  obtain ⟨r, e⟩ := p.ext
  rw [e, List.getElem?_append_left (List.getElem?_eq_some_iff.mp h).1]
  exact h
mutual
theorem RelD.mono (p : Stp β H β' H') : ∀ {d : D} {v : V}, RelD K nm ca β H d v → RelD K nm ca β' H' d v
  | _, _, .non => .non
  | _, _, .bl b => .bl b
  | _, _, .int i => .int i
  | _, _, .str x => .str x
  | _, _, .tup h r => .tup (p.sqT h) (RelL.mono p r)
  | _, _, .lst h r => .lst (p.rd h) (RelL.mono p r)
  | _, _, .ins h n r => .ins (p.oth _ _ h n) (fun m => by
      rcases p.new _ m with m | m
      · exact n m
      · rw [h] at m; cases m) (RelF.mono p r)
  | _, _, .dct h n r => .dct (h.imp (fun e => p.oth _ _ e n) fun e => p.oth _ _ e n) (fun m => by
      rcases p.new _ m with m | m
      · exact n m
      · rcases h with h | h <;> (rw [h] at m; cases m)) (RelK.mono p r)
  | _, _, .ref h => .ref (p.get h)
theorem RelL.mono (p : Stp β H β' H') : ∀ {d : List D} {v : List V}, RelL K nm ca β H d v → RelL K nm ca β' H' d v
  | _, _, .nil => .nil
  | _, _, .cons h r => .cons (RelD.mono p h) (RelL.mono p r)
theorem RelK.mono (p : Stp β H β' H') : ∀ {d : List (D × D)} {v : List (NestedKey × Addr × V)}, RelK K nm ca β H d v → RelK K nm ca β' H' d v
  | _, _, .nil => .nil
  | _, _, .cons e h1 h2 r => .cons e (RelD.mono p h1) (RelD.mono p h2) (RelK.mono p r)
theorem RelF.mono (p : Stp β H β' H') : ∀ {d : List (Nat × D)} {v : List (Str × V)}, RelF K nm ca β H d v → RelF K nm ca β' H' d v
  | _, _, .nil => .nil
  | _, _, .cons h r => .cons (RelD.mono p h) (RelF.mono p r)
end
theorem RelL.length : ∀ {d : List D} {v : List V}, RelL K nm ca β H d v → d.length = v.length
  | _, _, .nil => rfl
  | _, _, .cons _ r => by simp [RelL.length r]
theorem RelL.get : ∀ {d : List D} {v : List V} {i : Nat} {x : D}, RelL K nm ca β H d v → d[i]? = some x → ∃ y, v[i]? = some y ∧ RelD K nm ca β H x y
  | _, _, _, _, .nil, e => by simp at e
  | _, _, 0, _, .cons h r, e => by simp at e; subst e; exact ⟨_, rfl, h⟩
  | _, _, i + 1, _, .cons h r, e => by
    obtain ⟨y, e1, e2⟩ := RelL.get (i := i) r (by simpa using e)
    exact ⟨y, by simpa using e1, e2⟩
theorem RelL.app : ∀ {d e : List D} {v w : List V}, RelL K nm ca β H d v → RelL K nm ca β H e w → RelL K nm ca β H (d ++ e) (v ++ w)
  | _, _, _, _, .nil, s => s
  | _, _, _, _, .cons h r, s => .cons h (RelL.app r s)
theorem RelL.snoc {x : D} {y : V} (q : RelD K nm ca β H x y) : ∀ {d : List D} {v : List V}, RelL K nm ca β H d v → RelL K nm ca β H (d ++ [x]) (v ++ [y])
  | _, _, .nil => .cons q .nil
  | _, _, .cons h r => .cons h (RelL.snoc q r)
theorem RelL.rev : ∀ {d : List D} {v : List V}, RelL K nm ca β H d v → RelL K nm ca β H d.reverse v.reverse
  | _, _, .nil => .nil
  | _, _, .cons h r => by
    rw [List.reverse_cons, List.reverse_cons]
    exact (RelL.rev r).snoc h
theorem RelL.take : ∀ {d : List D} {v : List V} (n : Nat), RelL K nm ca β H d v → RelL K nm ca β H (d.take n) (v.take n)
  | _, _, 0, _ => .nil
  | _, _, _ + 1, .nil => .nil
  | _, _, n + 1, .cons h r => .cons h (RelL.take n r)
theorem RelL.drop : ∀ {d : List D} {v : List V} (n : Nat), RelL K nm ca β H d v → RelL K nm ca β H (d.drop n) (v.drop n)
  | _, _, 0, r => r
  | _, _, _ + 1, .nil => .nil
  | _, _, n + 1, .cons _ r => RelL.drop n r
theorem RelL.set {x : D} {y : V} (q : RelD K nm ca β H x y) : ∀ {d : List D} {v : List V} (n : Nat), RelL K nm ca β H d v → RelL K nm ca β H (d.set n x) (v.set n y)
  | _, _, _, .nil => .nil
  | _, _, 0, .cons _ r => .cons q r
  | _, _, n + 1, .cons h r => .cons h (RelL.set q n r)

/-- objects -/
def RelO (K : PySem.W.Frag) (nm : Nat → Str) (ca : CaT) (β : List Addr) (H : Hp) (a : Addr) : O → Prop
  | .lst xs => ∃ vs, H a = some (.lst vs) ∧ RelL K nm ca β H xs vs
  | .ins c fs => ∃ dx gs, H a = some (.ins (ca c) dx gs) ∧ RelF K nm ca β H fs gs
  | .dct kvs => ∃ ob xs, H a = some (dN ca.P ca.w a ob xs) ∧ RelK K nm ca β H kvs xs
  | .lkd kvs => ∃ ob xs, H a = some (.frz ob (dN ca.P ca.w a ob xs)) ∧ RelK K nm ca β H kvs xs
structure RelH (K : PySem.W.Frag) (nm : Nat → Str) (ca : CaT) (β : List Addr) (h : Hs) (H : Hp) : Prop where
  len : β.length = h.length
  nd : β.Nodup
  obj : ∀ (i : Nat) (o : O) (a : Addr), h[i]? = some o → β[i]? = some a → RelO K nm ca β H a o
def RelS (K : PySem.W.Frag) (nm : Nat → Str) (ca : CaT) (β : List Addr) (H : Hp) (σ : Sg) (τ : L2.St) : Prop :=
  σ.length = τ.length ∧ ∀ (i : Nat) (d : D), σ[i]? = some (some d) → ∃ v, τ[i]? = some (some v) ∧ RelD K nm ca β H d v
theorem RelS.mono {σ : Sg} {τ : L2.St} (p : Stp β H β' H') (r : RelS K nm ca β H σ τ) : RelS K nm ca β' H' σ τ := ⟨r.1, fun i d e =>
  let ⟨v, e1, e2⟩ := r.2 i d e
  ⟨v, e1, e2.mono p⟩⟩
theorem RelS.set {σ : Sg} {τ : L2.St} {i : Nat} {d : D} {v : V} (r : RelS K nm ca β H σ τ) (q : RelD K nm ca β H d v) : RelS K nm ca β H (σ.set i (some d)) (τ.set i (some v)) := by
  refine ⟨by rw [List.length_set, List.length_set]; exact r.1, fun j e hj => ?_⟩
  by_cases hi : i = j
  · subst hi
    have hl : i < σ.length := by
      have := (List.getElem?_eq_some_iff.mp hj).1
      simpa using this
    rw [List.getElem?_set_self hl] at hj
    cases hj
    exact ⟨v, List.getElem?_set_self (by rw [← r.1]; exact hl), q⟩
  · rw [List.getElem?_set_ne hi] at hj
    obtain ⟨w, e1, e2⟩ := r.2 j e hj
    exact ⟨w, by rw [List.getElem?_set_ne hi]; exact e1, e2⟩
theorem RelS.wipe1 {σ : Sg} {τ : L2.St} {i : Nat} (r : RelS K nm ca β H σ τ) : RelS K nm ca β H (σ.set i none) (τ.set i none) := by
  refine ⟨by rw [List.length_set, List.length_set]; exact r.1, fun j e hj => ?_⟩
  by_cases hi : i = j
  · subst hi
    have hl : i < σ.length := by
      have := (List.getElem?_eq_some_iff.mp hj).1
      simpa using this
    rw [List.getElem?_set_self hl] at hj
    cases hj
  · rw [List.getElem?_set_ne hi] at hj
    obtain ⟨w, e1, e2⟩ := r.2 j e hj
    exact ⟨w, by rw [List.getElem?_set_ne hi]; exact e1, e2⟩
theorem RelO.keep {o : O} {a : Addr} (p : Stp β H β' H') (k : ∀ u, H a = some u → H' a = some u) (r : RelO K nm ca β H a o) : RelO K nm ca β' H' a o := by
  cases o with
  | lst xs => obtain ⟨vs, e, r⟩ := r; exact ⟨vs, k _ e, r.mono p⟩
  | ins c fs => obtain ⟨dx, gs, e, r⟩ := r; exact ⟨dx, gs, k _ e, r.mono p⟩
  | dct kvs => obtain ⟨ob, xs, e, r⟩ := r; exact ⟨ob, xs, k _ e, r.mono p⟩
  | lkd kvs => obtain ⟨ob, xs, e, r⟩ := r; exact ⟨ob, xs, k _ e, r.mono p⟩
theorem RelO.there {o : O} {a : Addr} (r : RelO K nm ca β H a o) : ∃ u, H a = some u ∧ (∀ xs, u ≠ .tup xs) := by
  cases o with
  | lst xs => obtain ⟨vs, e, r⟩ := r; exact ⟨_, e, (fun _ z => nomatch z)⟩
  | ins c fs => obtain ⟨dx, gs, e, r⟩ := r; exact ⟨_, e, (fun _ z => nomatch z)⟩
  | dct kvs => obtain ⟨ob, xs, e, r⟩ := r; exact ⟨_, e, (fun _ z => nomatch z)⟩
  | lkd kvs => obtain ⟨ob, xs, e, r⟩ := r; exact ⟨_, e, (fun _ z => nomatch z)⟩
/-- a new untracked thing -/
theorem RelH.laid {h : Hs} {p : Addr} {o : HO} (r : RelH K nm ca β h H) (n : H p = none) : RelH K nm ca β h (upd H p o) :=
  ⟨r.len, r.nd, fun i ob a e1 e2 => (r.obj i ob a e1 e2).keep (Stp.laid n) fun u e => by rw [upd_ne (ne_of_none e n)]; exact e⟩
theorem RelH.mem {h : Hs} {i : Nat} {o : O} (r : RelH K nm ca β h H) (e : h[i]? = some o) : ∃ a, β[i]? = some a := by
  have : i < β.length := by rw [r.len]; exact (List.getElem?_eq_some_iff.mp e).1
  exact ⟨_, List.getElem?_eq_getElem this⟩
theorem RelH.notin {h : Hs} {p : Addr} (r : RelH K nm ca β h H) (n : H p = none) : p ∉ β := fun m => by
  obtain ⟨i, e⟩ := List.getElem?_of_mem m
  have hi : i < h.length := by rw [← r.len]; exact (List.getElem?_eq_some_iff.mp e).1
  obtain ⟨u, e1, _⟩ := (r.obj i _ p (List.getElem?_eq_getElem hi) e).there
  rw [n] at e1; cases e1
/-- a new tracked thing -/
theorem RelH.push {h : Hs} {p : Addr} {o : O} {u : HO} (r : RelH K nm ca β h H) (n : H p = none) (q : RelO K nm ca (β ++ [p]) (upd H p u) p o) : RelH K nm ca (β ++ [p]) (h ++ [o]) (upd H p u) := by
  refine ⟨by simp [r.len], ?_, fun i ob a e1 e2 => ?_⟩
  · rw [List.nodup_append]
    refine ⟨r.nd, by simp, fun a ha b hb => ?_⟩
    rw [List.mem_singleton.mp hb]
    exact fun e => r.notin n (e ▸ ha)
  · by_cases hi : i < h.length
    · rw [List.getElem?_append_left hi] at e1
      rw [List.getElem?_append_left (by rw [r.len]; exact hi)] at e2
      exact (r.obj i ob a e1 e2).keep (Stp.push n) fun u e => by rw [upd_ne (ne_of_none e n)]; exact e
    · have hl : i < (h ++ [o]).length := (List.getElem?_eq_some_iff.mp e1).1
      have e : i = h.length := by simp at hl; omega
      subst e
      rw [List.getElem?_append_right (Nat.le_refl _)] at e1
      rw [← r.len, List.getElem?_append_right (Nat.le_refl _)] at e2
      simp at e1 e2
      subst e1; subst e2
      exact q
/-- a tracked thing written -/
theorem RelH.write {h : Hs} {p : Addr} {o : O} {u : HO} {n : Nat} (r : RelH K nm ca β h H) (e : β[n]? = some p) (st : Stp β H β (upd H p u)) (q : RelO K nm ca β (upd H p u) p o) : RelH K nm ca β (h.set n o) (upd H p u) := by
  refine ⟨by rw [List.length_set]; exact r.len, r.nd, fun i ob a e1 e2 => ?_⟩
  by_cases hi : i = n
  · subst hi
    rw [e] at e2
    cases e2
    have hl : i < h.length := by rw [← r.len]; exact (List.getElem?_eq_some_iff.mp e).1
    rw [List.getElem?_set_self hl] at e1
    cases e1
    exact q
  · rw [List.getElem?_set_ne (Ne.symm hi)] at e1
    refine (r.obj i ob a e1 e2).keep st fun u e3 => ?_
    rw [upd_ne]
    · exact e3
    · rintro rfl
      obtain ⟨h1, x1⟩ := List.getElem?_eq_some_iff.mp e
      obtain ⟨h2, x2⟩ := List.getElem?_eq_some_iff.mp e2
      exact hi ((List.getElem_inj r.nd).mp (x2.trans x1.symm))
end
end
end MC

set_option Elab.async false
set_option linter.all false
set_option maxRecDepth 100000
set_option maxHeartbeats 4000000
namespace MC
open PySem PySem.Spec PyProof.Rows L2

/-! ### readings of the evaluator -/
section
variable (K : PySem.W.Frag) (nm : Nat → Str) (ca : CaT)
def PostE (β : List Addr) (H : Hp) (r : Res D) (Q : VK) : Prop := match r with
  | .ok d h' => ∀ v H' β', Stp β H β' H' → RelH K nm ca β' h' H' → RelD K nm ca β' H' d v → Q v H'
  | _ => False
def PostA (β : List Addr) (H : Hp) (r : Res (List D)) (Q : List V → Hp → Prop) : Prop := match r with
  | .ok d h' => ∀ v H' β', Stp β H β' H' → RelH K nm ca β' h' H' → RelL K nm ca β' H' d v → Q v H'
  | _ => False
def PostT (β : List Addr) (H : Hp) (r : Res Bool) (Q : Bool → Hp → Prop) : Prop := match r with
  | .ok d h' => ∀ H' β', Stp β H β' H' → RelH K nm ca β' h' H' → Q d H'
  | _ => False
def RE (ev : Sg → Hs → Res D) : TE := fun τ H Q => ∃ σ h β, RelS K nm ca β H σ τ ∧ RelH K nm ca β h H ∧ PostE K nm ca β H (ev σ h) Q
def RA (ev : Sg → Hs → Res (List D)) : TA := fun τ H Q => ∃ σ h β, RelS K nm ca β H σ τ ∧ RelH K nm ca β h H ∧ PostA K nm ca β H (ev σ h) Q
def RT (ev : Sg → Hs → Res Bool) : TT := fun τ H Q => ∃ σ h β, RelS K nm ca β H σ τ ∧ RelH K nm ca β h H ∧ PostT K nm ca β H (ev σ h) Q
end
theorem PE.imp {X : Cx} {e : Expr} {t t' : TE} (h : PE X e t) (i : ∀ σ H Q, t' σ H Q → t σ H Q) : PE X e t' := ⟨fun pins s σ H Q I q => h.run pins s σ H Q I (i σ H Q q)⟩
theorem PT.imp {X : Cx} {e : Expr} {t t' : TT} (h : PT X e t) (i : ∀ σ H Q, t' σ H Q → t σ H Q) : PT X e t' := ⟨fun pins s σ H Q I q => h.run pins s σ H Q I (i σ H Q q)⟩
theorem PA.imp {X : Cx} {e : List Expr} {t t' : TA} (h : PA X e t) (i : ∀ σ H Q, t' σ H Q → t σ H Q) : PA X e t' := ⟨fun pos pins s σ H Q I q => h.run pos pins s σ H Q I (i σ H Q q)⟩
section
variable {K : PySem.W.Frag} {nm : Nat → Str} {ca : CaT} {β β1 : List Addr} {H H1 : Hp} {σ : Sg} {τ : L2.St} {h : Hs}
theorem PostE.bind {α : Type} {r : Res α} {k : α → Hs → Res D} {Q : VK} (p : PostE K nm ca β H (r.bind k) Q) : ∃ a h1, r = .ok a h1 ∧ PostE K nm ca β H (k a h1) Q := by
  cases r with
  | ok a h1 => exact ⟨a, h1, rfl, p⟩
  | ex _ _ => exact p.elim
  | no => exact p.elim
theorem PostA.bind {α : Type} {r : Res α} {k : α → Hs → Res (List D)} {Q : List V → Hp → Prop} (p : PostA K nm ca β H (r.bind k) Q) : ∃ a h1, r = .ok a h1 ∧ PostA K nm ca β H (k a h1) Q := by
  cases r with
  | ok a h1 => exact ⟨a, h1, rfl, p⟩
  | ex _ _ => exact p.elim
  | no => exact p.elim
theorem PostT.bind {α : Type} {r : Res α} {k : α → Hs → Res Bool} {Q : Bool → Hp → Prop} (p : PostT K nm ca β H (r.bind k) Q) : ∃ a h1, r = .ok a h1 ∧ PostT K nm ca β H (k a h1) Q := by
  cases r with
  | ok a h1 => exact ⟨a, h1, rfl, p⟩
  | ex _ _ => exact p.elim
  | no => exact p.elim
theorem PostE.of {o : Option D} {Q : VK} (p : PostE K nm ca β H (.of o h) Q) : ∃ d, o = some d ∧ PostE K nm ca β H (.ok d h) Q := by
  cases o with
  | some d => exact ⟨d, rfl, p⟩
  | none => exact p.elim
theorem PostT.of {o : Option Bool} {Q : Bool → Hp → Prop} (p : PostT K nm ca β H (.of o h) Q) : ∃ d, o = some d ∧ PostT K nm ca β H (.ok d h) Q := by
  cases o with
  | some d => exact ⟨d, rfl, p⟩
  | none => exact p.elim
theorem PostE.step {r : Res D} {Q : VK} (p : PostE K nm ca β H r Q) (st : Stp β H β1 H1) : PostE K nm ca β1 H1 r Q := by
  cases r with
  | ok d h' => exact fun v H' β' s1 r1 r2 => p v H' β' (st.trans s1) r1 r2
  | ex _ _ => exact p.elim
  | no => exact p.elim
theorem PostA.step {r : Res (List D)} {Q : List V → Hp → Prop} (p : PostA K nm ca β H r Q) (st : Stp β H β1 H1) : PostA K nm ca β1 H1 r Q := by
  cases r with
  | ok d h' => exact fun v H' β' s1 r1 r2 => p v H' β' (st.trans s1) r1 r2
  | ex _ _ => exact p.elim
  | no => exact p.elim
theorem PostT.step {r : Res Bool} {Q : Bool → Hp → Prop} (p : PostT K nm ca β H r Q) (st : Stp β H β1 H1) : PostT K nm ca β1 H1 r Q := by
  cases r with
  | ok d h' => exact fun H' β' s1 r1 => p H' β' (st.trans s1) r1
  | ex _ _ => exact p.elim
  | no => exact p.elim
/-- one expression, then what is wanted of its value -/
theorem re1 {f : Sg → Hs → Res D} {x : D} {h1 : Hs} {R : VK} (rs : RelS K nm ca β H σ τ) (rh : RelH K nm ca β h H) (e : f σ h = .ok x h1)
    (k : ∀ vx H1 β1, Stp β H β1 H1 → RelS K nm ca β1 H1 σ τ → RelH K nm ca β1 h1 H1 → RelD K nm ca β1 H1 x vx → R vx H1) : RE K nm ca f τ H R := by
  refine ⟨σ, h, β, rs, rh, ?_⟩
  rw [e]
  exact fun v H' β' st r1 r2 => k v H' β' st (rs.mono st) r1 r2
theorem ra1 {f : Sg → Hs → Res (List D)} {x : List D} {h1 : Hs} {R : List V → Hp → Prop} (rs : RelS K nm ca β H σ τ) (rh : RelH K nm ca β h H) (e : f σ h = .ok x h1)
    (k : ∀ vx H1 β1, Stp β H β1 H1 → RelS K nm ca β1 H1 σ τ → RelH K nm ca β1 h1 H1 → RelL K nm ca β1 H1 x vx → R vx H1) : RA K nm ca f τ H R := by
  refine ⟨σ, h, β, rs, rh, ?_⟩
  rw [e]
  exact fun v H' β' st r1 r2 => k v H' β' st (rs.mono st) r1 r2
theorem re2 {f g : Sg → Hs → Res D} {x y : D} {h1 h2 : Hs} {R : V → V → Hp → Prop} (rs : RelS K nm ca β H σ τ) (rh : RelH K nm ca β h H) (e1 : f σ h = .ok x h1) (e2 : g σ h1 = .ok y h2)
    (k : ∀ vx vy H2 β2, Stp β H β2 H2 → RelS K nm ca β2 H2 σ τ → RelH K nm ca β2 h2 H2 → RelD K nm ca β2 H2 x vx → RelD K nm ca β2 H2 y vy → R vx vy H2) :
    RE K nm ca f τ H fun vx H1 => RE K nm ca g τ H1 fun vy H2 => R vx vy H2 :=
  re1 rs rh e1 fun vx H1 β1 s1 rs1 rh1 d1 => re1 rs1 rh1 e2 fun vy H2 β2 s2 rs2 rh2 d2 => k vx vy H2 β2 (s1.trans s2) rs2 rh2 (d1.mono s2) d2

/-! ### what data are -/
theorem RelD.int_inv {v : V} {i : Int} (r : RelD K nm ca β H (.int i) v) : v = .int i := by cases r; rfl
theorem RelD.str_inv {v : V} {i : Str} (r : RelD K nm ca β H (.str i) v) : v = .str i := by cases r; rfl
theorem RelD.tup_inv {v : V} {xs : List D} (r : RelD K nm ca β H (.tup xs) v) : ∃ a vs, v = .ref a ∧ SqT K H a vs ∧ RelL K nm ca β H xs vs := by
  cases r with
  | tup h r => exact ⟨_, _, rfl, h, r⟩
theorem RelD.lst_inv {v : V} {xs : List D} (r : RelD K nm ca β H (.lst xs) v) : ∃ a vs, v = .ref a ∧ LsT K β H a vs ∧ RelL K nm ca β H xs vs := by
  cases r with
  | lst h r => exact ⟨_, _, rfl, h, r⟩
theorem RelD.ref_inv {v : V} {n : Nat} (r : RelD K nm ca β H (.ref n) v) : ∃ a, v = .ref a ∧ β[n]? = some a := by
  cases r with
  | ref h => exact ⟨_, rfl, h⟩
theorem lseq_inv {d : D} {xs : List D} {v : V} (rh : RelH K nm ca β h H) (e : d.lseq h = some xs) (r : RelD K nm ca β H d v) : ∃ a vs, v = .ref a ∧ SqL K H a vs ∧ RelL K nm ca β H xs vs := by
  cases d with
  | lst ys =>
    cases e
    obtain ⟨a, vs, e1, e2, e3⟩ := r.lst_inv
    exact ⟨a, vs, e1, e2.sq, e3⟩
  | ref n =>
    obtain ⟨a, e1, e2⟩ := r.ref_inv
    cases q : h[n]? with
    | none => simp [D.lseq, q] at e
    | some o =>
      cases o with
      | lst ys =>
        simp only [D.lseq, q] at e
        cases e
        obtain ⟨vs, e3, e4⟩ := rh.obj n _ a q e2
        exact ⟨a, vs, e1, SqL.of e3, e4⟩
      | ins _ _ => simp [D.lseq, q] at e
      | dct _ => simp [D.lseq, q] at e
      | lkd _ => simp [D.lseq, q] at e
  | _ => cases e
theorem seq_inv {d : D} {xs : List D} {v : V} (rh : RelH K nm ca β h H) (e : d.seq h = some xs) (r : RelD K nm ca β H d v) : ∃ a vs, v = .ref a ∧ (SqL K H a vs ∨ SqT K H a vs) ∧ RelL K nm ca β H xs vs := by
  cases d with
  | tup ys =>
    cases e
    obtain ⟨a, vs, e1, e2, e3⟩ := r.tup_inv
    exact ⟨a, vs, e1, .inr e2, e3⟩
  | lst ys =>
    obtain ⟨a, vs, e1, e2, e3⟩ := lseq_inv rh (show (D.lst ys).lseq h = some xs from e) r
    exact ⟨a, vs, e1, .inl e2, e3⟩
  | ref n =>
    obtain ⟨a, vs, e1, e2, e3⟩ := lseq_inv rh (show (D.ref n).lseq h = some xs from e) r
    exact ⟨a, vs, e1, .inl e2, e3⟩
  | _ => cases e
mutual
theorem pyQ_dp : ∀ {d : D} {v : V} {p : PyData}, RelD K nm ca β H d v → d.pyQ = some p → Dp K H v p
  | .non, _, _, r, e => by cases r; cases e; exact .non
  | .bl _, _, _, r, e => by cases r; cases e; exact .bl _
  | .int _, _, _, r, e => by cases r; cases e; exact .int _
  | .str _, _, _, r, e => by cases r; cases e; exact .str _
  | .tup xs, _, _, r, e => by
    obtain ⟨a, vs, rfl, h1, h2⟩ := r.tup_inv
    unfold D.pyQ at e
    cases q : D.pyP xs with
    | none => rw [q] at e; cases e
    | some ps => rw [q] at e; cases e; exact .tup h1 (pyP_dp h2 q)
  | .lst xs, _, _, r, e => by
    obtain ⟨a, vs, rfl, h1, h2⟩ := r.lst_inv
    unfold D.pyQ at e
    cases q : D.pyP xs with
    | none => rw [q] at e; cases e
    | some ps => rw [q] at e; cases e; exact .lst h1.sq (pyP_dp h2 q)
  | .dct _, _, _, _, e => by cases e
  | .ins _ _, _, _, _, e => by cases e
  | .ref _, _, _, _, e => by cases e
theorem pyP_dp : ∀ {d : List D} {v : List V} {p : List PyData}, RelL K nm ca β H d v → D.pyP d = some p → DpAll K H v p
  | [], _, _, r, e => by cases r; cases e; exact .nil
  | x :: xs, _, _, r, e => by
    cases r with
    | cons r1 r2 =>
      unfold D.pyP at e
      cases q1 : D.pyQ x with
      | none => rw [q1] at e; cases e
      | some a =>
        cases q2 : D.pyP xs with
        | none => rw [q1, q2] at e; cases e
        | some b => rw [q1, q2] at e; cases e; exact .cons (pyQ_dp r1 q1) (pyP_dp r2 q2)
end
theorem py_dp {d : D} {v : V} {p : PyData} (rh : RelH K nm ca β h H) (r : RelD K nm ca β H d v) (e : d.py h = some p) : Dp K H v p := by
  cases d with
  | ref n =>
    cases q : h[n]? with
    | none => simp [D.py, q] at e
    | some o =>
      cases o with
      | lst xs =>
        cases q2 : D.pyP xs with
        | none => simp [D.py, q, q2] at e
        | some b =>
          simp only [D.py, q, q2] at e; cases e
          obtain ⟨a, vs, e1, e2, e3⟩ := lseq_inv rh (show (D.ref n).lseq h = some xs by simp only [D.lseq, q]) r
          subst e1
          exact .lst e2 (pyP_dp e3 q2)
      | ins _ _ => simp [D.py, q] at e
      | dct _ => simp [D.py, q] at e
      | lkd _ => simp [D.py, q] at e
  | _ => exact pyQ_dp r e
end
end MC

set_option Elab.async false
set_option linter.all false
set_option maxRecDepth 100000
set_option maxHeartbeats 4000000
namespace MC
open PySem PySem.Spec PyProof.Rows L2
section
variable {X : Cx}
/-! ### rules of the model that the layer lacks -/
def rCatS (K : PySem.W.Frag) : L2.R2 := fun x y H Q => ∃ l b xs zs, x = .ref l ∧ y = .ref b ∧ SqL K H l xs ∧ SqL K H b zs ∧ xs.length + zs.length ≤ sizeLine ∧ ∀ p, H p = none → Q (.ref p) (upd H p (.lst (xs ++ zs)))
theorem op_catS : OpR X (binaryOp .Add) (rCatS X.K) := by
  intro pins s σ H x y v u Q I rx ry h
  obtain ⟨l, b, xs, zs, rfl, rfl, hH, hB, hz, q⟩ := h
  cases rx
  cases ry
  obtain ⟨its, r, ⟨⟨cls, dd, data, sl⟩, n, ho, hc, hdn, hd⟩, z⟩ := I.list hH
  obtain ⟨its2, r2, ⟨⟨cls2, dd2, data2, sl2⟩, n2, ho2, hc2, hdn2, hd2⟩, z2⟩ := I.list hB
  simp only at hc hd hc2 hd2
  subst hc hd hc2 hd2
  have l1 := r.length
  have l2 := r2.length
  have e : its.toArray ++ its2.toArray = (its ++ its2).toArray := by simp
  refine concat_meets ⟨_, ho, rfl⟩ ⟨_, ho2, rfl⟩ noFill_list_add seq_list_add PySem.F.slot_list_add PySem.F.entry_list_add (PySem.F.args_list_add_2 _ _) (list_addW l b its.toArray its2.toArray n n2 dd dd2 sl sl2 (by simp; omega)) ⟨ho, ho2, ?_⟩
  rw [e]
  exact ⟨.ref _, _, I.lnew (t' := s.toks) (r.append r2) (by rw [List.length_append]; omega), rfl, q _ I.fresh⟩
theorem tuple_mul1 (l : Addr) (items : Array Value) (n : Nat) (dd : Option Addr) (sl : Array (Option Value)) (u : Tok) :
    Meets (Builtin.«tuple.__mul__» ⟨[.ref l, .int 1 u], []⟩) (fun _ R s => s.heap.get? l = some { cls := .type "tuple", dict := dd, data := .seq items n, slots := sl } ∧ R (.ok (.ret (Value.ref l))) s) :=
  .of_wp fun prog w A R s h => by
    obtain ⟨hp, g, d, tk, os⟩ := s
    obtain ⟨hl, h⟩ := h
    have f1 := AutoSeq1.idx_int
    wp_walk using wpAny_loadPart' hl
    exact ⟨_, rfl, h⟩
def rRep1 (K : PySem.W.Frag) : L2.R2 := fun x y H Q => ∃ l xs, x = .ref l ∧ y = .int 1 ∧ SqT K H l xs ∧ Q (.ref l) H
theorem op_rep1 : OpR X (binaryOp .Mult) (rRep1 X.K) := by
  intro pins s σ H x y v u Q I rx ry h
  obtain ⟨l, xs, rfl, rfl, hT, q⟩ := h
  cases rx
  obtain ⟨t, rfl⟩ := ry
  obtain ⟨its, r, ⟨⟨cls, dd, data, sl⟩, ho, hc, n, hd⟩, hs⟩ := I.tuple hT
  simp only at hc hd
  subst hc hd
  refine wpAny_binaryOp_repeat_ref (T := "tuple") (U := "int") (by decide) ⟨_, ho, rfl⟩ (fun s' => typeIs_int s' 1 t) noFill_tuple_mul F.fills_int_mul F.slot_int_rmul repeat_tuple F.slot_int_index.lookup
    (call_meets F.slot_int_rmul (typeIs_int s 1 t) F.entry_int_rmul (F.args_int_rmul_2 _ _) (int_rmul_tuple 1 t l its.toArray n dd sl)
      ⟨ho, rfl, ⟨_, ho, rfl⟩, call_meets F.slot_tuple_mul ⟨_, ho, rfl⟩ F.entry_tuple_mul (F.args_tuple_mul_2 _ _) (tuple_mul1 l its.toArray n dd sl t) ⟨ho, ?_⟩⟩)
  exact ⟨.ref l, H, I, rfl, q⟩

/-! ### two operands -/
variable {nm : Nat → Str} {ca : CaT} {β : List Addr} {H : Hp} {h : Hs}
theorem RelL.rep {xs : List D} {vs : List V} (r : RelL X.K nm ca β H xs vs) : ∀ n : Nat, RelL X.K nm ca β H (List.replicate n xs).flatten (List.replicate n vs).flatten
  | 0 => .nil
  | n + 1 => by
    rw [List.replicate_succ, List.replicate_succ, List.flatten_cons, List.flatten_cons]
    exact r.app (RelL.rep r n)
/-- what M's operation says answers the rule -/
def BinOk (X : Cx) (nm : Nat → Str) (ca : CaT) (f : Hs → D → D → Option D) (r : L2.R2) : Prop :=
  ∀ (β : List Addr) (H : Hp) (h : Hs) (x y d : D) (vx vy : V) (Q : VK), RelH X.K nm ca β h H → RelD X.K nm ca β H x vx → RelD X.K nm ca β H y vy → f h x y = some d → PostE X.K nm ca β H (.ok d h) Q → r vx vy H Q
theorem PostE.here {d : D} {Q : VK} {K : PySem.W.Frag} (p : PostE K nm ca β H (.ok d h) Q) (rh : RelH K nm ca β h H) {v : V} (r : RelD K nm ca β H d v) : Q v H := p v H β (Stp.refl _ _) rh r
/-- a new untracked thing at a free place -/
theorem PostE.laid {d : D} {Q : VK} {K : PySem.W.Frag} {p : Addr} {o : HO} (q : PostE K nm ca β H (.ok d h) Q) (rh : RelH K nm ca β h H) (n : H p = none) (r : RelD K nm ca β (upd H p o) d (.ref p)) : Q (.ref p) (upd H p o) :=
  q _ _ _ (Stp.laid n) (rh.laid n) r
theorem new_tup {K : PySem.W.Frag} {xs : List D} {vs : List V} {p : Addr} (n : H p = none) (r : RelL K nm ca β H xs vs) : RelD K nm ca β (upd H p (.tup vs)) (.tup xs) (.ref p) := .tup (SqT.of upd_same) (r.mono (Stp.laid n))
theorem new_lst {K : PySem.W.Frag} {xs : List D} {vs : List V} {p : Addr} (rh : RelH K nm ca β h H) (n : H p = none) (r : RelL K nm ca β H xs vs) : RelD K nm ca β (upd H p (.lst vs)) (.lst xs) (.ref p) :=
  .lst (.inl ⟨.inl upd_same, rh.notin n⟩) (r.mono (Stp.laid n))
def rAddM (K : PySem.W.Frag) : L2.R2 := fun x y H Q => rI0 (fun i j => .int (i + j)) x y H Q ∨ (∃ i j, x = .str i ∧ y = .str j ∧ i.length + j.length ≤ sizeLine ∧ Q (.str (i ++ j)) H) ∨ rCatA K x y H Q ∨ rCatS K x y H Q
theorem op_addM : OpR X (binaryOp .Add) (rAddM X.K) := op_add.or (op_add_str.or (op_catA.or op_catS))
theorem lst_add {a b d : D} (ha : a.lseq h ≠ none) (e : opAdd h a b = some d) : ∃ xs ys, a.lseq h = some xs ∧ b.lseq h = some ys ∧ xs.length + ys.length ≤ sizeLine ∧ d = .lst (xs ++ ys) := by
  cases a <;> first
    | exact absurd rfl ha
    | (unfold opAdd at e
       simp only at e
       split at e
       · rename_i xs ys e1 e2
         split at e
         · rename_i hz
           cases e
           exact ⟨xs, ys, e1, e2, hz, rfl⟩
         · cases e
       · cases e)
theorem add_ok : BinOk X nm ca opAdd (rAddM X.K) := by
  intro β H h x y d vx vy Q rh rx ry e p
  by_cases hl : x.lseq h = none
  · cases x with
    | int i =>
      cases y with
      | int j =>
        cases e; cases rx; cases ry
        exact .inl ⟨i, j, rfl, rfl, p.here rh (.int _)⟩
      | _ => simp [opAdd, D.lseq] at e
    | str i =>
      cases y with
      | str j =>
        simp only [opAdd] at e
        split at e
        · cases e; cases rx; cases ry
          exact .inr (.inl ⟨i, j, rfl, rfl, by assumption, p.here rh (.str _)⟩)
        · cases e
      | _ => simp [opAdd, D.lseq] at e
    | tup xs =>
      cases y with
      | tup ys =>
        simp only [opAdd] at e
        split at e
        · rename_i hz
          cases e
          obtain ⟨a, vs, rfl, h1, h2⟩ := rx.tup_inv
          obtain ⟨b, ws, rfl, k1, k2⟩ := ry.tup_inv
          refine .inr (.inr (.inl ⟨a, b, vs, ws, rfl, rfl, h1, k1, by rw [← h2.length, ← k2.length]; exact hz, fun z => ?_, fun z z2 => ?_, fun z z2 q hq => ?_⟩))
          · subst z
            have : xs = [] := List.eq_nil_of_length_eq_zero h2.length
            subst this
            exact p.here rh ry
          · subst z2
            have : ys = [] := List.eq_nil_of_length_eq_zero k2.length
            subst this
            rw [List.append_nil] at p
            exact p.here rh rx
          · exact p.laid rh hq (new_tup hq (h2.app k2))
        · cases e
      | _ => simp [opAdd, D.lseq] at e
    | lst xs => simp [D.lseq] at hl
    | ref n => 
      cases y <;> simp [opAdd, hl] at e
    | _ => cases y <;> simp [opAdd, D.lseq] at e
  · obtain ⟨xs, ys, e1, e2, hz, rfl⟩ := lst_add hl e
    obtain ⟨a, vs, rfl, h1, h2⟩ := lseq_inv rh e1 rx
    obtain ⟨b, ws, rfl, k1, k2⟩ := lseq_inv rh e2 ry
    exact .inr (.inr (.inr ⟨a, b, vs, ws, rfl, rfl, h1, k1, by rw [← h2.length, ← k2.length]; exact hz, fun q hq => p.laid rh hq (new_lst rh hq (h2.app k2))⟩))
end
end MC

set_option Elab.async false
set_option linter.all false
set_option maxRecDepth 100000
set_option maxHeartbeats 4000000
namespace MC
open PySem PySem.Spec PyProof.Rows L2
section
variable {X : Cx} {nm : Nat → Str} {ca : CaT} {β : List Addr} {H : Hp} {h : Hs}
theorem log2_lt (j : Int) (h0 : 0 < j) (h1 : j < 2 ^ 1000) : CDivW 0 j := by
  refine ⟨h0, ?_⟩
  have e : j.natAbs < 2 ^ 1000 := by
    have : (j.natAbs : Int) = j := Int.natAbs_of_nonneg (by omega)
    have h2 : ((j.natAbs : Nat) : Int) < ((2 ^ 1000 : Nat) : Int) := by rw [this]; exact_mod_cast h1
    exact_mod_cast h2
  exact Nat.lt_of_lt_of_le (PySem.Flt.log2_lt_of (by decide) e) (by decide)
def rMulM (K : PySem.W.Frag) : L2.R2 := fun x y H Q => rI CMul (fun i j => .int (i * j)) x y H Q ∨ rRepT K x y H Q ∨ rRep1 K x y H Q
theorem op_mulM : OpR X (binaryOp .Mult) (rMulM X.K) := op_mul.or (op_repT.or op_rep1)
theorem small_lt {i : Int} (e : small i = true) : -(2 ^ 64) < i ∧ i < 2 ^ 64 := by
  unfold small at e
  simpa using e
theorem mul_ok : BinOk X nm ca (fun _ => opMul) (rMulM X.K) := by
  intro β H h x y d vx vy Q rh rx ry e p
  cases x with
  | int i =>
    cases y with
    | int j =>
      simp only [opMul] at e
      split at e
      · rename_i hs
        cases e; cases rx; cases ry
        refine .inl ⟨i, j, rfl, rfl, ?_, p.here rh (.int _)⟩
        rcases Bool.or_eq_true_iff.mp hs with z | z
        · exact .inl (small_lt z)
        · exact .inr (small_lt z)
      · cases e
    | _ => simp [opMul] at e
  | tup xs =>
    cases y with
    | int k =>
      simp only [opMul] at e
      split at e
      · rename_i hs
        simp only [Bool.and_eq_true, decide_eq_true_eq] at hs
        obtain ⟨⟨⟨h1, h2⟩, h3⟩, h4⟩ := hs
        cases e; cases ry
        obtain ⟨a, vs, rfl, k1, k2⟩ := rx.tup_inv
        by_cases hk : k = 1
        · subst hk
          refine .inr (.inr ⟨a, vs, rfl, rfl, k1, ?_⟩)
          have : (List.replicate (1 : Int).toNat xs).flatten = xs := by simp
          rw [this] at p
          exact p.here rh rx
        · refine .inr (.inl ⟨a, k, vs, rfl, rfl, k1, ?_, by omega, h2, by rw [← k2.length]; exact h3, fun q hq => p.laid rh hq (new_tup hq (k2.rep _))⟩)
          rintro rfl
          have : xs = [] := List.eq_nil_of_length_eq_zero k2.length
          subst this
          simp at h4
      · cases e
    | _ => simp [opMul] at e
  | _ => cases y <;> simp [opMul] at e
theorem sub_ok : BinOk X nm ca (fun h => opBin h .Sub) (rI0 fun i j => .int (i - j)) := by
  intro β H h x y d vx vy Q rh rx ry e p
  cases x with
  | int i =>
    cases y with
    | int j => cases e; cases rx; cases ry; exact ⟨i, j, rfl, rfl, p.here rh (.int _)⟩
    | _ => simp [opBin] at e
  | _ => cases y <;> simp [opBin] at e
theorem fdiv_ok : BinOk X nm ca (fun h => opBin h .FloorDiv) (rI CDivW fun i j => .int (i / j)) := by
  intro β H h x y d vx vy Q rh rx ry e p
  cases x with
  | int i =>
    cases y with
    | int j =>
      simp only [opBin] at e
      split at e
      · rename_i hs
        simp only [Bool.and_eq_true, decide_eq_true_eq] at hs
        cases e; cases rx; cases ry
        exact ⟨i, j, rfl, rfl, log2_lt j hs.1 hs.2, p.here rh (.int _)⟩
      · cases e
    | _ => simp [opBin] at e
  | _ => cases y <;> simp [opBin] at e
theorem mod_ok : BinOk X nm ca (fun h => opBin h .Mod) (rI (fun _ j => 0 < j) fun i j => .int (i % j)) := by
  intro β H h x y d vx vy Q rh rx ry e p
  cases x with
  | int i =>
    cases y with
    | int j =>
      simp only [opBin] at e
      split at e
      · rename_i hs
        cases e; cases rx; cases ry
        exact ⟨i, j, rfl, rfl, hs, p.here rh (.int _)⟩
      · cases e
    | _ => simp [opBin] at e
  | _ => cases y <;> simp [opBin] at e
theorem pow_ok : BinOk X nm ca (fun h => opBin h .Pow) (rI CPow fun i j => .int (i ^ j.toNat)) := by
  intro β H h x y d vx vy Q rh rx ry e p
  cases x with
  | int i =>
    cases y with
    | int j =>
      simp only [opBin] at e
      split at e
      · rename_i hs
        simp only [Bool.and_eq_true, decide_eq_true_eq] at hs
        cases e; cases rx; cases ry
        exact ⟨i, j, rfl, rfl, ⟨hs.1.1, by omega, hs.2⟩, p.here rh (.int _)⟩
      · cases e
    | _ => simp [opBin] at e
  | _ => cases y <;> simp [opBin] at e
/-- every operator of the core -/
theorem bin_all (op : Operator) : ∃ r, OpR X (binaryOp op) r ∧ BinOk X nm ca (fun h => opBin h op) r := by
  cases op with
  | Add => exact ⟨_, op_addM, add_ok⟩
  | Sub => exact ⟨_, op_sub, sub_ok⟩
  | Mult => exact ⟨_, op_mulM, mul_ok⟩
  | FloorDiv => exact ⟨_, op_fdivW, fdiv_ok⟩
  | Mod => exact ⟨_, op_mod, mod_ok⟩
  | Pow => exact ⟨_, op_pow, pow_ok⟩
  | _ => exact ⟨fun _ _ _ _ => False, fun _ _ _ _ _ _ _ _ _ _ _ _ z => z.elim, fun _ _ _ _ _ _ _ _ _ _ _ _ e _ => by simp [opBin] at e⟩

/-! ### comparisons -/
theorem eq_ok : BinOk X nm ca (fun h => opCmp h .Eq) (rEqD X.K) := by
  intro β H h x y d vx vy Q rh rx ry e p
  simp only [opCmp, eqD] at e
  cases q1 : x.py h with
  | none => simp [q1] at e
  | some a =>
    cases q2 : y.py h with
    | none => simp [q1, q2] at e
    | some b =>
      simp only [q1, q2] at e
      split at e
      · rename_i hs
        rw [Bool.and_eq_true] at hs
        cases e
        exact ⟨a, b, py_dp rh rx q1, py_dp rh ry q2, hs.1, hs.2, p.here rh (.bl _)⟩
      · cases e
theorem ne_ok : BinOk X nm ca (fun h => opCmp h .NotEq) (rNeD X.K) := by
  intro β H h x y d vx vy Q rh rx ry e p
  simp only [opCmp, eqD] at e
  cases q1 : x.py h with
  | none => simp [q1] at e
  | some a =>
    cases q2 : y.py h with
    | none => simp [q1, q2] at e
    | some b =>
      simp only [q1, q2] at e
      split at e
      · rename_i hs
        rw [Bool.and_eq_true] at hs
        cases e
        exact ⟨a, b, py_dp rh rx q1, py_dp rh ry q2, hs.1, hs.2, p.here rh (.bl _)⟩
      · cases e
theorem int_ok {op : CmpOp} {f : Int → Int → Bool} (hf : ∀ h x y d, opCmp h op x y = some d → ∃ i j, x = .int i ∧ y = .int j ∧ d = .bl (f i j)) : BinOk X nm ca (fun h => opCmp h op) (rI0 fun i j => .bl (f i j)) := by
  intro β H h x y d vx vy Q rh rx ry e p
  obtain ⟨i, j, rfl, rfl, rfl⟩ := hf h x y d e
  cases rx; cases ry
  exact ⟨i, j, rfl, rfl, p.here rh (.bl _)⟩
theorem flat_rel {x : D} {v : V} {K : PySem.W.Frag} (r : RelD K nm ca β H x v) (e : x.flat = true) : flatV v = true := by
  cases r <;> first | rfl | cases e
theorem flat_all {xs : List D} {vs : List V} {K : PySem.W.Frag} (r : RelL K nm ca β H xs vs) (e : xs.all D.flat = true) : vs.all flatV = true := by
  induction xs generalizing vs with
  | nil => cases r; rfl
  | cons x xs ih =>
    cases r with
    | cons r1 r2 =>
      simp only [List.all_cons, Bool.and_eq_true] at e ⊢
      exact ⟨flat_rel r1 e.1, ih r2 e.2⟩
theorem eqF_rel {x y : D} {v u : V} {K : PySem.W.Frag} (r : RelD K nm ca β H x v) (q : RelD K nm ca β H y u) (e : x.flat = true) (e' : y.flat = true) : eqF x y = eqV v u := by
  cases r <;> cases q <;> first
    | (exfalso; revert e; simp [D.flat]; done)
    | (exfalso; revert e'; simp [D.flat]; done)
    | rfl
    | (simp only [eqF, eqV]; rename_i a b; cases hd : decide (a = b) <;> simp_all)
theorem any_rel {x : D} {v : V} {K : PySem.W.Frag} (r : RelD K nm ca β H x v) (e : x.flat = true) : ∀ {xs : List D} {vs : List V}, RelL K nm ca β H xs vs → xs.all D.flat = true → (xs.any fun y => eqF y x) = inV v vs
  | _, _, .nil, _ => rfl
  | _, _, .cons h t, a => by
    simp only [List.all_cons, Bool.and_eq_true] at a
    have ih := any_rel r e t a.2
    unfold inV at ih ⊢
    rw [List.any_cons, List.any_cons, ih, eqF_rel h r a.1 e]
theorem in_ok : BinOk X nm ca (fun h => opCmp h .In) (rIn X.K false) := by
  intro β H h x y d vx vy Q rh rx ry e p
  simp only [opCmp, inD] at e
  cases q : y.seq h with
  | none => simp [q] at e
  | some xs =>
    simp only [q] at e
    split at e
    · rename_i hs
      rw [Bool.and_eq_true] at hs
      cases e
      obtain ⟨a, vs, rfl, h1, h2⟩ := seq_inv rh q ry
      refine ⟨a, vs, rfl, h1, flat_rel rx hs.1, flat_all h2 hs.2, ?_⟩
      have := any_rel rx hs.1 h2 hs.2
      show Q (.bl (inV vx vs)) H
      rw [← this]
      exact p.here rh (.bl _)
    · cases e
theorem notin_ok : BinOk X nm ca (fun h => opCmp h .NotIn) (rIn X.K true) := by
  intro β H h x y d vx vy Q rh rx ry e p
  simp only [opCmp, inD] at e
  cases q : y.seq h with
  | none => simp [q] at e
  | some xs =>
    simp only [q] at e
    split at e
    · rename_i hs
      rw [Bool.and_eq_true] at hs
      cases e
      obtain ⟨a, vs, rfl, h1, h2⟩ := seq_inv rh q ry
      refine ⟨a, vs, rfl, h1, flat_rel rx hs.1, flat_all h2 hs.2, ?_⟩
      have := any_rel rx hs.1 h2 hs.2
      show Q (.bl (!inV vx vs)) H
      rw [← this]
      exact p.here rh (.bl _)
    · cases e
def rNever : L2.R2 := fun _ _ _ _ => False
theorem or_never {f : Value → Value → Sem Value} : OpR X f rNever := fun _ _ _ _ _ _ _ _ _ _ _ _ z => z.elim
theorem isN_ok {x : D} {v : V} {K : PySem.W.Frag} (r : RelD K nm ca β H x v) : decide (v = .non) = x.isNon := by
  cases r <;> rfl
/-- every comparison of the core (is with True, False: not yet) -/
theorem cmp_all (hu : X.A.units + 64 < cLine) (op : CmpOp) : ∃ r, OpR X (compareOp op) r ∧ BinOk X nm ca (fun h x y => match op, y with
    | .Is, .bl _ => none
    | .IsNot, .bl _ => none
    | op, y => opCmp h op x y) r := by
  cases op with
  | Eq => exact ⟨_, op_eqD hu, eq_ok⟩
  | NotEq => exact ⟨_, op_neD hu, ne_ok⟩
  | Lt => exact ⟨_, op_lt, int_ok (op := .Lt) fun h x y d e => by
      cases x <;> cases y <;> first | (cases e; exact ⟨_, _, rfl, rfl, rfl⟩) | (simp [opCmp] at e)⟩
  | LtE => exact ⟨_, op_le, int_ok (op := .LtE) fun h x y d e => by
      cases x <;> cases y <;> first | (cases e; exact ⟨_, _, rfl, rfl, rfl⟩) | (simp [opCmp] at e)⟩
  | Gt => exact ⟨_, op_gt, int_ok (op := .Gt) fun h x y d e => by
      cases x <;> cases y <;> first | (cases e; exact ⟨_, _, rfl, rfl, rfl⟩) | (simp [opCmp] at e)⟩
  | GtE => exact ⟨_, op_ge, int_ok (op := .GtE) fun h x y d e => by
      cases x <;> cases y <;> first | (cases e; exact ⟨_, _, rfl, rfl, rfl⟩) | (simp [opCmp] at e)⟩
  | In => exact ⟨_, op_in_seq, in_ok⟩
  | NotIn => exact ⟨_, op_notIn_seq, notin_ok⟩
  | Is =>
    refine ⟨_, op_isN, fun β H h x y d vx vy Q rh rx ry e p => ?_⟩
    cases y with
    | non =>
      cases ry
      simp only [opCmp] at e
      cases e
      refine ⟨rfl, ?_⟩
      rw [isN_ok rx]
      exact p.here rh (.bl _)
    | _ => simp [opCmp] at e
  | IsNot =>
    refine ⟨_, op_notN, fun β H h x y d vx vy Q rh rx ry e p => ?_⟩
    cases y with
    | non =>
      cases ry
      simp only [opCmp] at e
      cases e
      refine ⟨rfl, ?_⟩
      rw [isN_ok rx]
      exact p.here rh (.bl _)
    | _ => simp [opCmp] at e

/-! ### subscripts, slices, truth -/
theorem at_rel {xs : List D} {vs : List V} {i : Int} {d : D} {K : PySem.W.Frag} (r : RelL K nm ca β H xs vs) (e : atD xs i = some d) : ∃ v, atI vs i = some v ∧ RelD K nm ca β H d v := by
  unfold atD at e
  unfold atI
  rw [← r.length]
  cases q : ixN xs.length i with
  | none => rw [q] at e; cases e
  | some j =>
    rw [q] at e
    exact r.get e
def rIxM (K : PySem.W.Frag) : L2.R2 := fun x y H Q => rIxL K x y H Q ∨ rIxT K x y H Q
theorem ix_M : IxR X (rIxM X.K) := ix_list.or ix_tup
theorem idx_ok : BinOk X nm ca idxD (rIxM X.K) := by
  intro β H h x y d vx vy Q rh rx ry e p
  cases x with
  | tup xs =>
    cases y with
    | int i =>
      cases ry
      obtain ⟨a, vs, rfl, h1, h2⟩ := rx.tup_inv
      obtain ⟨v, e1, e2⟩ := at_rel h2 e
      exact .inr ⟨a, vs, i, v, rfl, rfl, h1, e1, p.here rh e2⟩
    | _ => simp [idxD] at e
  | lst xs =>
    cases y with
    | int i =>
      cases ry
      obtain ⟨a, vs, rfl, h1, h2⟩ := rx.lst_inv
      obtain ⟨v, e1, e2⟩ := at_rel h2 e
      exact .inl ⟨a, vs, i, v, rfl, rfl, h1.sq, e1, p.here rh e2⟩
    | _ => simp [idxD] at e
  | ref n =>
    cases q : h[n]? with
    | none => simp [idxD, q] at e
    | some o =>
      cases o with
      | lst xs =>
        cases y with
        | int i =>
          cases ry
          simp only [idxD, q] at e
          obtain ⟨a, vs, rfl, h1, h2⟩ := lseq_inv rh (show (D.ref n).lseq h = some xs by simp only [D.lseq, q]) rx
          obtain ⟨v, e1, e2⟩ := at_rel h2 e
          exact .inl ⟨a, vs, i, v, rfl, rfl, h1, e1, p.here rh e2⟩
        | _ => simp [idxD, q] at e
      | _ => simp [idxD, q] at e
  | _ => simp [idxD] at e
def rSlM (K : PySem.W.Frag) : V → Option Int → Option Int → Hp → VK → Prop := fun x lo hi H Q => rSlL K x lo hi H Q ∨ rSlA K x lo hi H Q
theorem sl_M : L2.SlR X (rSlM X.K) := sl_list.or sl_tupA
theorem cut_rel {xs : List D} {vs : List V} {lo hi : Option Int} {K : PySem.W.Frag} (r : RelL K nm ca β H xs vs) : RelL K nm ca β H (cutD xs lo hi) (cutV vs lo hi) := by
  unfold cutD cutV
  rw [← r.length]
  exact (r.drop _).take _
theorem slc_ok {x d : D} {vx : V} {lo hi : Option Int} {Q : VK} (rh : RelH X.K nm ca β h H) (rx : RelD X.K nm ca β H x vx) (e : slcD h x lo hi = some d) (p : PostE X.K nm ca β H (.ok d h) Q) : rSlM X.K vx lo hi H Q := by
  by_cases hx : ∃ xs, x = .tup xs
  · obtain ⟨xs, rfl⟩ := hx
    cases e
    obtain ⟨a, vs, rfl, h1, h2⟩ := rx.tup_inv
    refine .inr ⟨a, vs, rfl, h1, fun z => ?_, fun z q hq => p.laid rh hq (new_tup hq (cut_rel h2))⟩
    have c : cutD xs lo hi = xs := by
      unfold cutD
      rw [h2.length, z.1, z.2, List.drop_zero, Nat.sub_zero, ← h2.length, List.take_length]
    rw [c] at p
    exact p.here rh rx
  · have e2 : (match x.lseq h with
      | some xs => some (D.lst (cutD xs lo hi))
      | none => none) = some d := by
      cases x <;> first | exact e | exact absurd ⟨_, rfl⟩ hx
    cases q : x.lseq h with
    | none => rw [q] at e2; cases e2
    | some xs =>
      rw [q] at e2
      cases e2
      obtain ⟨a, vs, rfl, h1, h2⟩ := lseq_inv rh q rx
      exact .inl ⟨a, vs, rfl, h1, fun q hq => p.laid rh hq (new_lst rh hq (cut_rel h2))⟩
theorem empty_rel {xs : List D} {vs : List V} {K : PySem.W.Frag} (r : RelL K nm ca β H xs vs) : xs.isEmpty = vs.isEmpty := by
  cases r <;> rfl
theorem tru_rel {x : D} {v : V} {k : Bool} {K : PySem.W.Frag} (rh : RelH K nm ca β h H) (r : RelD K nm ca β H x v) (e : tru h x = some k) : TruV K v H k := by
  cases x with
  | non => cases r; cases e; rfl
  | bl b => cases r; cases e; rfl
  | int i => cases r; cases e; rfl
  | str s =>
    cases r
    simp only [tru] at e
    split at e
    · cases e; exact ⟨by assumption, rfl⟩
    · cases e
  | tup xs =>
    obtain ⟨a, vs, rfl, h1, h2⟩ := r.tup_inv
    cases e
    exact .inr (.inl ⟨vs, h1, by rw [empty_rel h2]⟩)
  | lst xs =>
    obtain ⟨a, vs, rfl, h1, h2⟩ := r.lst_inv
    cases e
    exact .inl ⟨vs, h1.sq, by rw [empty_rel h2]⟩
  | ref n =>
    cases q : h[n]? with
    | none => simp [tru, q] at e
    | some o =>
      cases o with
      | lst xs =>
        simp only [tru, q] at e
        cases e
        obtain ⟨a, vs, rfl, h1, h2⟩ := lseq_inv rh (show (D.ref n).lseq h = some xs by simp only [D.lseq, q]) r
        exact .inl ⟨vs, h1, by rw [empty_rel h2]⟩
      | _ => simp [tru, q] at e
  | _ => simp [tru] at e
end
end MC

set_option Elab.async false
set_option linter.all false
set_option maxRecDepth 100000
set_option maxHeartbeats 4000000
namespace MC
open PySem PySem.Spec PyProof.Rows L2
section
variable {X : Cx} {nm : Nat → Str} {ca : CaT} {T : Tab} {cl : Nat → List D → Hs → Res D}
abbrev SE (X : Cx) (nm : Nat → Str) (ca : CaT) (T : Tab) (cl : Nat → List D → Hs → Res D) (e : Expr) (c : E) : Prop := PE X e (RE X.K nm ca (evE T cl c))
abbrev ST (X : Cx) (nm : Nat → Str) (ca : CaT) (T : Tab) (cl : Nat → List D → Hs → Res D) (e : Expr) (c : E) : Prop := PT X e (RT X.K nm ca fun σ h => (evE T cl c σ h).bind tst)
abbrev SA (X : Cx) (nm : Nat → Str) (ca : CaT) (T : Tab) (cl : Nat → List D → Hs → Res D) (e : List Expr) (c : A) : Prop := PA X e (RA X.K nm ca (evA T cl c))

/-! ### small ones -/
def cstB : D → Const → Bool
  | .non, .none => true
  | .bl a, .bool b => a == b
  | .int a, .int b => decide (a = b)
  | .str a, .str b => decide (a = b)
  | _, _ => false
theorem s_cst {d : D} {c : Const} {k : Nat} {pos : Pos} (e : cstB d c = true) : SE X nm ca T cl (.Constant c k pos) (.cst d) := by
  cases d <;> cases c <;> first
    | (simp [cstB] at e; done)
    | (refine PE.imp pe_non fun τ H Q ⟨σ, h, β, rs, rh, p⟩ => ?_; exact PostE.here p rh .non)
    | (simp only [cstB, beq_iff_eq, decide_eq_true_eq] at e; subst e; first
        | (refine PE.imp pe_bl fun τ H Q ⟨σ, h, β, rs, rh, p⟩ => ?_; exact PostE.here p rh (.bl _))
        | (refine PE.imp pe_int fun τ H Q ⟨σ, h, β, rs, rh, p⟩ => ?_; exact PostE.here p rh (.int _))
        | (refine PE.imp pe_str fun τ H Q ⟨σ, h, β, rs, rh, p⟩ => ?_; exact PostE.here p rh (.str _)))
theorem s_var {i : Nat} {x : Str} {pos : Pos} (hN : X.N[i]? = some x) (hv : Vis X.env.scope x) (hd : (x == ("__debug__" : Str)) = false) (hcd : (x == ("__classdict__" : Str)) = false) : SE X nm ca T cl (.Name x pos) (.var i) := by
  refine PE.imp (pe_var hN hv hd hcd) fun τ H Q ⟨σ, h, β, rs, rh, p⟩ => ?_
  cases q : σ[i]? with
  | none => simp only [evE, q] at p; exact p.elim
  | some o =>
    cases o with
    | none => simp only [evE, q] at p; exact p.elim
    | some d =>
      simp only [evE, q] at p
      obtain ⟨v, e1, e2⟩ := rs.2 i d q
      exact ⟨v, e1, PostE.here p rh e2⟩
theorem s_glo {g : Nat} {d : D} {x : Str} {v : V} {u : Value} {pos : Pos} (hg : Gl X x) (hm : X.mg x = some u) (r : RelV v u) (rd : ∀ β H, RelD X.K nm ca β H d v) (hd : (x == ("__debug__" : Str)) = false) : SE X nm ca T cl (.Name x pos) (.glo g d) := by
  refine PE.imp (pe_glob hg hm r hd) fun τ H Q ⟨σ, h, β, rs, rh, p⟩ => ?_
  exact PostE.here p rh (rd β H)
theorem s_bin {a b : Expr} {ca' cb' : E} {op : Operator} {pos : Pos} (ha : SE X nm ca T cl a ca') (hb : SE X nm ca T cl b cb') : SE X nm ca T cl (.BinOp a op b pos) (.bin op ca' cb') := by
  obtain ⟨r, o, ok⟩ := bin_all (X := X) (nm := nm) (ca := ca) op
  refine PE.imp (pe_op o ha hb) fun τ H Q ⟨σ, h, β, rs, rh, p⟩ => ?_
  simp only [evE] at p
  obtain ⟨x, h1, e1, p⟩ := p.bind
  obtain ⟨y, h2, e2, p⟩ := p.bind
  obtain ⟨d, e3, p⟩ := p.of
  exact re2 rs rh e1 e2 fun vx vy H2 β2 st rs2 rh2 rx ry => ok β2 H2 h2 x y d vx vy Q rh2 rx ry e3 (p.step st)
theorem s_neg {a : Expr} {c : E} {pos : Pos} (ha : SE X nm ca T cl a c) : SE X nm ca T cl (.UnaryOp .USub a pos) (.neg c) := by
  refine PE.imp (pe_un un_neg ha) fun τ H Q ⟨σ, h, β, rs, rh, p⟩ => ?_
  simp only [evE] at p
  obtain ⟨x, h1, e1, p⟩ := p.bind
  cases x with
  | int i =>
    refine re1 rs rh e1 fun vx H1 β1 st rs1 rh1 rx => ?_
    cases rx
    exact ⟨i, rfl, PostE.here (p.step st) rh1 (.int _)⟩
  | _ => exact p.elim
theorem s_not {a : Expr} {c : E} {pos : Pos} (ha : SE X nm ca T cl a c) : SE X nm ca T cl (.UnaryOp .Not a pos) (.not c) := by
  refine PE.imp (pe_notT ha) fun τ H Q ⟨σ, h, β, rs, rh, p⟩ => ?_
  simp only [evE] at p
  obtain ⟨x, h1, e1, p⟩ := p.bind
  cases q : tru h1 x with
  | none => simp only [q] at p; exact p.elim
  | some k =>
    simp only [q] at p
    exact re1 rs rh e1 fun vx H1 β1 st rs1 rh1 rx => ⟨k, tru_rel rh1 rx q, PostE.here (p.step st) rh1 (.bl _)⟩
theorem s_and {a b : Expr} {rest : List Expr} {c c' : E} {pos : Pos} (ha : SE X nm ca T cl a c) (hb : SE X nm ca T cl (.BoolOp .And (b :: rest) pos) c') : SE X nm ca T cl (.BoolOp .And (a :: b :: rest) pos) (.and c c') := by
  refine PE.imp (pe_andT ha hb) fun τ H Q ⟨σ, h, β, rs, rh, p⟩ => ?_
  simp only [evE] at p
  obtain ⟨x, h1, e1, p⟩ := p.bind
  cases q : tru h1 x with
  | none => simp only [q] at p; exact p.elim
  | some k =>
    refine re1 rs rh e1 fun vx H1 β1 st rs1 rh1 rx => ⟨k, tru_rel rh1 rx q, ?_⟩
    cases k with
    | true => rw [if_pos rfl]; simp only [q] at p; exact ⟨σ, h1, β1, rs1, rh1, p.step st⟩
    | false => rw [if_neg (by decide)]; simp only [q] at p; exact PostE.here (p.step st) rh1 rx
theorem s_or {a b : Expr} {rest : List Expr} {c c' : E} {pos : Pos} (ha : SE X nm ca T cl a c) (hb : SE X nm ca T cl (.BoolOp .Or (b :: rest) pos) c') : SE X nm ca T cl (.BoolOp .Or (a :: b :: rest) pos) (.or c c') := by
  refine PE.imp (pe_orT ha hb) fun τ H Q ⟨σ, h, β, rs, rh, p⟩ => ?_
  simp only [evE] at p
  obtain ⟨x, h1, e1, p⟩ := p.bind
  cases q : tru h1 x with
  | none => simp only [q] at p; exact p.elim
  | some k =>
    refine re1 rs rh e1 fun vx H1 β1 st rs1 rh1 rx => ⟨k, tru_rel rh1 rx q, ?_⟩
    cases k with
    | false => rw [if_neg (by decide)]; simp only [q] at p; exact ⟨σ, h1, β1, rs1, rh1, p.step st⟩
    | true => rw [if_pos rfl]; simp only [q] at p; exact PostE.here (p.step st) rh1 rx
theorem s_one {a : Expr} {op : BoolOp} {c : E} {pos : Pos} (ha : SE X nm ca T cl a c) : SE X nm ca T cl (.BoolOp op [a] pos) c := pe_one ha
/-- not is with True, False -/
def cmpOk : CmpOp → E → Bool
  | .Is, .cst (.bl _) => false
  | .IsNot, .cst (.bl _) => false
  | .Is, .cst .non => true
  | .IsNot, .cst .non => true
  | .Is, _ => false
  | .IsNot, _ => false
  | _, _ => true
theorem cmpOk_non {op : CmpOp} {c : E} (hc : cmpOk op c = true) (h : op = .Is ∨ op = .IsNot) : c = .cst .non := by
  rcases h with rfl | rfl
  · cases c with
    | cst d => cases d <;> first | rfl | cases hc
    | _ => cases hc
  · cases c with
    | cst d => cases d <;> first | rfl | cases hc
    | _ => cases hc
def isSetE : Expr → Bool
  | .Set .. => true
  | _ => false
theorem nomarkS {op : CmpOp} {b : Expr} (h : isSetE b = false) : behindInMarks op b = false := by
  cases b <;> first | rfl | (cases h)
theorem cmp_use {hu : X.A.units + 64 < cLine} {op : CmpOp} : ∃ r, OpR X (compareOp op) r ∧ ∀ (β : List Addr) (H : Hp) (h : Hs) (x y d : D) (vx vy : V) (Q : VK), (op = .Is ∨ op = .IsNot → y = .non) → RelH X.K nm ca β h H → RelD X.K nm ca β H x vx → RelD X.K nm ca β H y vy → opCmp h op x y = some d → PostE X.K nm ca β H (.ok d h) Q → r vx vy H Q := by
  obtain ⟨r, o, ok⟩ := cmp_all (X := X) (nm := nm) (ca := ca) hu op
  refine ⟨r, o, fun β H h x y d vx vy Q hy rh rx ry e p => ok β H h x y d vx vy Q rh rx ry ?_ p⟩
  cases op <;> first
    | exact e
    | (have z := hy (by simp); subst z; exact e)
theorem s_cmp {a b : Expr} {c c' : E} {op : CmpOp} {pos : Pos} (hu : X.A.units + 64 < cLine) (ha : SE X nm ca T cl a c) (hb : SE X nm ca T cl b c') (hs : isSetE b = false) (hc : cmpOk op c' = true) : SE X nm ca T cl (.Compare a [op] [b] pos) (.cmp op c c') := by
  obtain ⟨r, o, ok⟩ := cmp_use (X := X) (nm := nm) (ca := ca) (hu := hu) (op := op)
  refine PE.imp (pe_cmpR o ha hb (nomarkS hs)) fun τ H Q ⟨σ, h, β, rs, rh, p⟩ => ?_
  simp only [evE] at p
  obtain ⟨x, h1, e1, p⟩ := p.bind
  obtain ⟨y, h2, e2, p⟩ := p.bind
  obtain ⟨d, e3, p⟩ := p.of
  refine re2 rs rh e1 e2 fun vx vy H2 β2 st rs2 rh2 rx ry => ok β2 H2 h2 x y d vx vy Q ?_ rh2 rx ry e3 (p.step st)
  intro hop
  have := cmpOk_non hc hop
  subst this
  simp only [evE] at e2
  cases e2
  rfl
theorem opCmp_bl {h : Hs} {op : CmpOp} {x y d : D} (e : opCmp h op x y = some d) : ∃ k, d = .bl k := by
  cases op <;> simp only [opCmp] at e
  all_goals first
    | (cases q : eqD h x y with
        | none => rw [q] at e; cases e
        | some k => rw [q] at e; cases e; exact ⟨_, rfl⟩)
    | (cases q : inD h x y with
        | none => rw [q] at e; cases e
        | some k => rw [q] at e; cases e; exact ⟨_, rfl⟩)
    | (split at e <;> first | (cases e; exact ⟨_, rfl⟩) | (cases e; done) | (split at e <;> (cases e; exact ⟨_, rfl⟩)))
theorem s_chn {a b c : Expr} {ka kb kc : E} {o1 o2 : CmpOp} {pos : Pos} (hu : X.A.units + 64 < cLine) (ha : SE X nm ca T cl a ka) (hb : SE X nm ca T cl b kb) (hc : SE X nm ca T cl c kc) (hs : isSetE b = false) (hs2 : isSetE c = false)
    (h1 : o1 ≠ .Is ∧ o1 ≠ .IsNot) (h2 : o2 ≠ .Is ∧ o2 ≠ .IsNot)
    (hrule : ∀ {r r' : L2.R2}, OpR X (compareOp o1) r → OpR X (compareOp o2) r' → ∀ {ta tb tc : TE}, PE X a ta → PE X b tb → PE X c tc → PE X (.Compare a [o1, o2] [b, c] pos) (tChain r r' ta tb tc)) : SE X nm ca T cl (.Compare a [o1, o2] [b, c] pos) (.chn o1 o2 ka kb kc) := by
  obtain ⟨r, o, ok⟩ := cmp_use (X := X) (nm := nm) (ca := ca) (hu := hu) (op := o1)
  obtain ⟨r', o', ok'⟩ := cmp_use (X := X) (nm := nm) (ca := ca) (hu := hu) (op := o2)
  refine PE.imp (hrule o o' ha hb hc) fun τ H Q ⟨σ, h, β, rs, rh, p⟩ => ?_
  simp only [evE] at p
  obtain ⟨x, g1, e1, p⟩ := p.bind
  obtain ⟨y, g2, e2, p⟩ := p.bind
  cases q : opCmp g2 o1 x y with
  | none => simp only [q] at p; exact p.elim
  | some d =>
    obtain ⟨k, rfl⟩ := opCmp_bl q
    refine re2 rs rh e1 e2 fun vx vy H2 β2 st rs2 rh2 rx ry => ok β2 H2 g2 x y (.bl k) vx vy _ (fun z => (z.elim h1.1 h1.2).elim) rh2 rx ry q ?_
    intro v H3 β3 st3 rh3 rd
    cases rd
    refine ⟨k, rfl, ?_⟩
    cases k with
    | true =>
      rw [if_pos rfl]
      simp only [q] at p
      obtain ⟨z, g3, e3, p⟩ := p.bind
      obtain ⟨d, e4, p⟩ := p.of
      refine re1 (rs2.mono st3) rh3 e3 fun vz H4 β4 st4 rs4 rh4 rz => ?_
      exact ok' β4 H4 g3 y z d vy vz Q (fun z => (z.elim h2.1 h2.2).elim) rh4 ((ry.mono st3).mono st4) rz e4 (((p.step st).step st3).step st4)
    | false =>
      rw [if_neg (by decide)]
      simp only [q] at p
      exact PostE.here ((p.step st).step st3) rh3 (.bl _)
theorem RT.k {f : Sg → Hs → Res Bool} {τ : L2.St} {H : Hp} {β : List Addr} {σ : Sg} {h h1 : Hs} {k : Bool} {R : Bool → Hp → Prop} (rs : RelS X.K nm ca β H σ τ) (rh : RelH X.K nm ca β h H) (e : f σ h = .ok k h1)
    (c : ∀ H1 β1, Stp β H β1 H1 → RelS X.K nm ca β1 H1 σ τ → RelH X.K nm ca β1 h1 H1 → R k H1) : RT X.K nm ca f τ H R := by
  refine ⟨σ, h, β, rs, rh, ?_⟩
  rw [e]
  exact fun H' β' st r1 => c H' β' st (rs.mono st) r1
theorem s_ite {t a b : Expr} {kt ka kb : E} {pos : Pos} (ht : ST X nm ca T cl t kt) (ha : SE X nm ca T cl a ka) (hb : SE X nm ca T cl b kb) : SE X nm ca T cl (.IfExp t a b pos) (.ite kt ka kb) := by
  refine PE.imp (pe_ifExp ht ha hb) fun τ H Q ⟨σ, h, β, rs, rh, p⟩ => ?_
  simp only [evE] at p
  obtain ⟨k, h1, e1, p⟩ := p.bind
  refine RT.k rs rh e1 fun H1 β1 st rs1 rh1 => ?_
  cases k with
  | true => rw [if_pos rfl] at p ⊢; exact ⟨σ, h1, β1, rs1, rh1, p.step st⟩
  | false => rw [if_neg (by decide)] at p ⊢; exact ⟨σ, h1, β1, rs1, rh1, p.step st⟩

/-! ### tests -/
theorem t_val {e : Expr} {c : E} (h : SE X nm ca T cl e c) (he : ∀ whole, isTrue e X.env whole = (do let v ← whole; standAt e.pos; holding [v] (truthy v))) : ST X nm ca T cl e c := by
  refine PT.imp (pt_truth h he) fun τ H Q ⟨σ, h, β, rs, rh, p⟩ => ?_
  obtain ⟨x, h1, e1, p⟩ := p.bind
  obtain ⟨k, e2, p⟩ := PostT.of (show PostT X.K nm ca β H (.of (tru h1 x) h1) Q from p)
  exact re1 rs rh e1 fun vx H1 β1 st rs1 rh1 rx => ⟨k, tru_rel rh1 rx e2, p H1 β1 st rh1⟩
theorem t_not {a : Expr} {c : E} {pos : Pos} (ha : ST X nm ca T cl a c) : ST X nm ca T cl (.UnaryOp .Not a pos) (.not c) := by
  refine PT.imp (pt_not ha) fun τ H Q ⟨σ, h, β, rs, rh, p⟩ => ?_
  obtain ⟨x, h1, e1, p⟩ := p.bind
  simp only [evE] at e1
  cases q : evE T cl c σ h with
  | ok y h2 =>
    rw [q] at e1
    cases q2 : tru h2 y with
    | none => simp only [Res.bind, q2] at e1; cases e1
    | some k =>
      simp only [Res.bind, q2] at e1
      cases e1
      exact RT.k rs rh (k := k) (h1 := h1) (show (evE T cl c σ h).bind tst = .ok k h1 by rw [q]; simp [Res.bind, tst, q2, Res.of]) fun H1 β1 st rs1 rh1 => p H1 β1 st rh1
  | ex _ _ => rw [q] at e1; cases e1
  | no => rw [q] at e1; cases e1
abbrev SW (X : Cx) (nm : Nat → Str) (ca : CaT) (T : Tab) (cl : Nat → List D → Hs → Res D) (e : Expr) (c : E) : Prop := PW X e (RT X.K nm ca fun σ h => (evE T cl c σ h).bind tst)
theorem PW.imp {X : Cx} {e : Expr} {t t' : TT} (h : PW X e t) (i : ∀ σ H Q, t' σ H Q → t σ H Q) : PW X e t' := ⟨fun wh pins s σ H Q I q => h.run wh pins s σ H Q I (i σ H Q q)⟩
theorem tst_of {x : D} {h h1 : Hs} {k : Bool} (e : tst x h = .ok k h1) : tru h x = some k ∧ h1 = h := by
  unfold tst at e
  cases q : tru h x with
  | none => rw [q] at e; cases e
  | some b => rw [q] at e; cases e; exact ⟨rfl, rfl⟩
theorem t_and {a b : Expr} {rest : List Expr} {c c' : E} {pos : Pos} (ha : ST X nm ca T cl a c) (hb : SW X nm ca T cl (.BoolOp .And (b :: rest) pos) c') : SW X nm ca T cl (.BoolOp .And (a :: b :: rest) pos) (.and c c') := by
  refine PW.imp (pw_and ha hb) fun τ H Q ⟨σ, h, β, rs, rh, p⟩ => ?_
  obtain ⟨x, h1, e1, p⟩ := p.bind
  simp only [evE] at e1
  cases q : evE T cl c σ h with
  | ok y h2 =>
    rw [q] at e1
    cases q2 : tru h2 y with
    | none => simp only [Res.bind, q2] at e1; cases e1
    | some k =>
      refine RT.k rs rh (k := k) (h1 := h2) (show (evE T cl c σ h).bind tst = .ok k h2 by rw [q]; simp [Res.bind, tst, q2, Res.of]) fun H1 β1 st rs1 rh1 => ?_
      cases k with
      | true =>
        rw [if_pos rfl]
        simp only [Res.bind, q2] at e1
        refine ⟨σ, h2, β1, rs1, rh1, ?_⟩
        show PostT X.K nm ca β1 H1 ((evE T cl c' σ h2).bind tst) Q
        rw [e1]
        exact p.step st
      | false =>
        rw [if_neg (by decide)]
        simp only [Res.bind, q2] at e1
        cases e1
        obtain ⟨d, e2, p⟩ := PostT.of (show PostT X.K nm ca β H (.of (tru h1 x) h1) Q from p)
        rw [q2] at e2
        cases e2
        exact p H1 β1 st rh1
  | ex _ _ => rw [q] at e1; cases e1
  | no => rw [q] at e1; cases e1
theorem t_or {a b : Expr} {rest : List Expr} {c c' : E} {pos : Pos} (ha : ST X nm ca T cl a c) (hb : SW X nm ca T cl (.BoolOp .Or (b :: rest) pos) c') : SW X nm ca T cl (.BoolOp .Or (a :: b :: rest) pos) (.or c c') := by
  refine PW.imp (pw_or ha hb) fun τ H Q ⟨σ, h, β, rs, rh, p⟩ => ?_
  obtain ⟨x, h1, e1, p⟩ := p.bind
  simp only [evE] at e1
  cases q : evE T cl c σ h with
  | ok y h2 =>
    rw [q] at e1
    cases q2 : tru h2 y with
    | none => simp only [Res.bind, q2] at e1; cases e1
    | some k =>
      refine RT.k rs rh (k := k) (h1 := h2) (show (evE T cl c σ h).bind tst = .ok k h2 by rw [q]; simp [Res.bind, tst, q2, Res.of]) fun H1 β1 st rs1 rh1 => ?_
      cases k with
      | false =>
        rw [if_neg (by decide)]
        simp only [Res.bind, q2] at e1
        refine ⟨σ, h2, β1, rs1, rh1, ?_⟩
        show PostT X.K nm ca β1 H1 ((evE T cl c' σ h2).bind tst) Q
        rw [e1]
        exact p.step st
      | true =>
        rw [if_pos rfl]
        simp only [Res.bind, q2] at e1
        cases e1
        obtain ⟨d, e2, p⟩ := PostT.of (show PostT X.K nm ca β H (.of (tru h1 x) h1) Q from p)
        rw [q2] at e2
        cases e2
        exact p H1 β1 st rh1
  | ex _ _ => rw [q] at e1; cases e1
  | no => rw [q] at e1; cases e1
/-- from a value's rule to a test's, for comparisons -/
theorem t_cmp {a b : Expr} {c c' : E} {op : CmpOp} {pos : Pos} (hu : X.A.units + 64 < cLine) (ha : SE X nm ca T cl a c) (hb : SE X nm ca T cl b c') (hs : isSetE b = false) (hc : cmpOk op c' = true) : ST X nm ca T cl (.Compare a [op] [b] pos) (.cmp op c c') := by
  obtain ⟨r, o, ok⟩ := cmp_use (X := X) (nm := nm) (ca := ca) (hu := hu) (op := op)
  refine PT.imp (pt_cmpR o ha hb (nomarkS hs)) fun τ H Q ⟨σ, h, β, rs, rh, p⟩ => ?_
  obtain ⟨d, h3, e3, p⟩ := p.bind
  simp only [evE] at e3
  cases q1 : evE T cl c σ h with
  | ok x h1 =>
    rw [q1] at e3
    cases q2 : evE T cl c' σ h1 with
    | ok y h2 =>
      simp only [Res.bind, q2] at e3
      cases q3 : opCmp h2 op x y with
      | none => rw [q3] at e3; cases e3
      | some d' =>
        rw [q3] at e3
        cases e3
        obtain ⟨k, rfl⟩ := opCmp_bl q3
        refine re2 rs rh q1 q2 fun vx vy H2 β2 st rs2 rh2 rx ry => ok β2 H2 h3 x y (.bl k) vx vy _ ?_ rh2 rx ry q3 ?_
        · intro hop
          have := cmpOk_non hc hop
          subst this
          simp only [evE] at q2
          cases q2
          rfl
        · intro v H3 β3 st3 rh3 rd
          cases rd
          obtain ⟨k', e5, p⟩ := PostT.of (show PostT X.K nm ca β H (.of (tru h3 (.bl k)) h3) Q from p)
          cases e5
          exact ⟨k, rfl, p H3 β3 (st.trans st3) rh3⟩
    | ex _ _ => simp only [Res.bind, q2] at e3; cases e3
    | no => simp only [Res.bind, q2] at e3; cases e3
  | ex _ _ => rw [q1] at e3; cases e3
  | no => rw [q1] at e3; cases e3

/-! ### argument lists, displays -/
def isSt : Expr → Bool
  | .Starred .. => true
  | _ => false
theorem starEach_plain {e : Expr} {es : List Expr} {env : Env} (h : isSt e = false) : starEach (e :: es) env = (false, eval e env) :: starEach es env := by
  cases e <;> first | rfl | cases h
theorem a_nil : SA X nm ca T cl [] .nil := PA.imp pa_nil fun τ H Q ⟨σ, h, β, rs, rh, p⟩ => p [] H β (Stp.refl _ _) rh .nil
theorem a_cons {e : Expr} {es : List Expr} {c : E} {r : A} (he : SE X nm ca T cl e c) (hr : SA X nm ca T cl es r) (hs : isSt e = false) : SA X nm ca T cl (e :: es) (.cons c r) := by
  refine PA.imp (pa_cons he hr (starEach_plain hs)) fun τ H Q ⟨σ, h, β, rs, rh, p⟩ => ?_
  simp only [evA] at p
  obtain ⟨x, h1, e1, p⟩ := p.bind
  obtain ⟨xs, h2, e2, p⟩ := p.bind
  exact re1 rs rh e1 fun vx H1 β1 st rs1 rh1 rx => ra1 rs1 rh1 e2 fun vxs H2 β2 st2 rs2 rh2 rxs => p _ H2 β2 (st.trans st2) rh2 (.cons (rx.mono st2) rxs)
theorem a_star {e : Expr} {es : List Expr} {c : E} {r : A} {p' : Pos} (he : SE X nm ca T cl e c) (hr : SA X nm ca T cl es r) : SA X nm ca T cl (.Starred e p' :: es) (.star c r) := by
  refine PA.imp (StX.pa_star he hr rfl) fun τ H Q ⟨σ, h, β, rs, rh, p⟩ => ?_
  simp only [evA] at p
  obtain ⟨x, h1, e1, p⟩ := p.bind
  cases q : x.seq h1 with
  | none => simp only [q] at p; exact p.elim
  | some ys =>
    simp only [q] at p
    obtain ⟨xs, h2, e2, p⟩ := p.bind
    refine re1 rs rh e1 fun vx H1 β1 st rs1 rh1 rx => ?_
    obtain ⟨a, vs, rfl, k1, k2⟩ := seq_inv rh1 q rx
    exact ⟨a, vs, rfl, k1.symm, ra1 rs1 rh1 e2 fun vxs H2 β2 st2 rs2 rh2 rxs => p _ H2 β2 (st.trans st2) rh2 ((k2.mono st2).app rxs)⟩
theorem s_tup {es : List Expr} {c : A} {k : Nat} {pos : Pos} (h : SA X nm ca T cl es c) : SE X nm ca T cl (.Tuple es k pos) (.tup c) := by
  refine PE.imp (pe_tup h) fun τ H Q ⟨σ, h, β, rs, rh, p⟩ => ?_
  simp only [evE] at p
  obtain ⟨xs, h1, e1, p⟩ := p.bind
  split at p
  · rename_i hz
    refine ra1 rs rh e1 fun vxs H1 β1 st rs1 rh1 rx => ⟨by rw [← rx.length]; exact hz, fun q hq => ?_⟩
    exact PostE.laid (p.step st) rh1 hq (new_tup hq rx)
  · exact p.elim
/-- a new object of the M-heap -/
theorem PostE.push {d : D} {Q : VK} {K : PySem.W.Frag} {β : List Addr} {H : Hp} {h : Hs} {p : Addr} {o : HO} {m : O} (q : PostE K nm ca β H (.ok (.ref h.length) (h ++ [m])) Q) (rh : RelH K nm ca β h H) (n : H p = none) (r : RelO K nm ca (β ++ [p]) (upd H p o) p m) : Q (.ref p) (upd H p o) :=
  q _ _ _ (Stp.push n) (rh.push n r) (.ref (by rw [← rh.len, List.getElem?_append_right (Nat.le_refl _)]; simp))
theorem s_lst {es : List Expr} {c : A} {fz : Bool} {pos : Pos} (h : SA X nm ca T cl es c) : SE X nm ca T cl (.List es pos) (.lst fz c) := by
  refine PE.imp (pe_lst h) fun τ H Q ⟨σ, h, β, rs, rh, p⟩ => ?_
  simp only [evE] at p
  obtain ⟨xs, h1, e1, p⟩ := p.bind
  split at p
  · rename_i hz
    refine ra1 rs rh e1 fun vxs H1 β1 st rs1 rh1 rx => ⟨by rw [← rx.length]; exact hz, fun q hq => ?_⟩
    cases fz with
    | true => exact PostE.laid (p.step st) rh1 hq (new_lst rh1 hq rx)
    | false => exact PostE.push (d := .non) (p.step st) rh1 hq ⟨vxs, upd_same, rx.mono (Stp.push hq)⟩
  · exact p.elim
/-! ### subscripts -/
def isSl : Expr → Bool
  | .Slice .. => true
  | _ => false
theorem plainIx {b : Expr} (h : isSl b = false) : PlainIx b := fun o i => by
  cases b <;> first | rfl | cases h
theorem s_idx {a b : Expr} {c c' : E} {pos : Pos} (ha : SE X nm ca T cl a c) (hb : SE X nm ca T cl b c') (hs : isSl b = false) : SE X nm ca T cl (.Subscript a b pos) (.idx c c') := by
  refine PE.imp (pe_ix ix_M ha hb (plainIx hs)) fun τ H Q ⟨σ, h, β, rs, rh, p⟩ => ?_
  simp only [evE] at p
  obtain ⟨x, h1, e1, p⟩ := p.bind
  obtain ⟨y, h2, e2, p⟩ := p.bind
  obtain ⟨d, e3, p⟩ := p.of
  refine re2 rs rh e1 e2 fun vx vy H2 β2 st rs2 rh2 rx ry => idx_ok (nm := nm) (ca := ca) β2 H2 h2 x y d vx vy Q rh2 rx ry e3 (p.step st)
abbrev SO (X : Cx) (nm : Nat → Str) (ca : CaT) (T : Tab) (cl : Nat → List D → Hs → Res D) : Option Expr → OE → Prop
  | none, .none => True
  | some e, .some c => SE X nm ca T cl e c
  | _, _ => False
theorem s_slc {a : Expr} {lo hi : Option Expr} {c : E} {l u : OE} {p2 pos : Pos} (ha : SE X nm ca T cl a c) (hl : SO X nm ca T cl lo l) (hu : SO X nm ca T cl hi u) : SE X nm ca T cl (.Subscript a (.Slice lo hi none p2) pos) (.slc c l u) := by
  cases lo with
  | none =>
    cases l with
    | some _ => exact hl.elim
    | none =>
      cases hi with
      | none =>
        cases u with
        | some _ => exact hu.elim
        | none =>
          refine PE.imp (pe_slice sl_M ha po_none po_none) fun τ H Q ⟨σ, h, β, rs, rh, p⟩ => ?_
          simp only [evE, evOE] at p
          obtain ⟨x, h1, e1, p⟩ := p.bind
          obtain ⟨d, e3, p⟩ := PostE.of (show PostE X.K nm ca β H (.of (slcD h1 x none none) h1) Q from p)
          exact re1 rs rh e1 fun vx H1 β1 st rs1 rh1 rx => slc_ok rh1 rx e3 (p.step st)
      | some eh =>
        cases u with
        | none => exact hu.elim
        | some cu =>
          refine PE.imp (pe_slice sl_M ha po_none (po_some hu)) fun τ H Q ⟨σ, h, β, rs, rh, p⟩ => ?_
          simp only [evE, evOE] at p
          obtain ⟨x, h1, e1, p⟩ := p.bind
          obtain ⟨y0, h2, e2, p⟩ := p.bind
          cases e2
          obtain ⟨y1, h3, e3, p⟩ := p.bind
          cases q : evE T cl cu σ h1 with
          | ok y h4 =>
            rw [q] at e3
            cases e3
            cases y with
            | int j =>
              obtain ⟨d, e4, p⟩ := PostE.of (show PostE X.K nm ca β H (.of (slcD h3 x none (some j)) h3) Q from p)
              refine re2 rs rh e1 q fun vx vy H2 β2 st rs2 rh2 rx ry => ?_
              cases ry
              exact ⟨j, rfl, slc_ok rh2 rx e4 (p.step st)⟩
            | _ => exact p.elim
          | ex _ _ => rw [q] at e3; cases e3
          | no => rw [q] at e3; cases e3
  | some el =>
    cases l with
    | none => exact hl.elim
    | some kl =>
      cases hi with
      | none =>
        cases u with
        | some _ => exact hu.elim
        | none =>
          refine PE.imp (pe_slice sl_M ha (po_some hl) po_none) fun τ H Q ⟨σ, h, β, rs, rh, p⟩ => ?_
          simp only [evE, evOE] at p
          obtain ⟨x, h1, e1, p⟩ := p.bind
          obtain ⟨y1, h3, e3, p⟩ := p.bind
          cases q : evE T cl kl σ h1 with
          | ok y h4 =>
            rw [q] at e3
            cases e3
            cases y with
            | int j =>
              obtain ⟨d, e4, p⟩ := PostE.of (show PostE X.K nm ca β H (.of (slcD h3 x (some j) none) h3) Q from p)
              refine re2 rs rh e1 q fun vx vy H2 β2 st rs2 rh2 rx ry => ?_
              cases ry
              exact ⟨j, rfl, slc_ok rh2 rx e4 (p.step st)⟩
            | _ => exact p.elim
          | ex _ _ => rw [q] at e3; cases e3
          | no => rw [q] at e3; cases e3
      | some eh =>
        cases u with
        | none => exact hu.elim
        | some cu =>
          refine PE.imp (pe_slice sl_M ha (po_some hl) (po_some hu)) fun τ H Q ⟨σ, h, β, rs, rh, p⟩ => ?_
          simp only [evE, evOE] at p
          obtain ⟨x, h1, e1, p⟩ := p.bind
          obtain ⟨y1, h3, e3, p⟩ := p.bind
          obtain ⟨z1, h5, e5, p⟩ := p.bind
          cases q : evE T cl kl σ h1 with
          | ok y h4 =>
            rw [q] at e3
            cases e3
            cases q2 : evE T cl cu σ h3 with
            | ok z h6 =>
              rw [q2] at e5
              cases e5
              cases y with
              | int j =>
                cases z with
                | int k =>
                  obtain ⟨d, e4, p⟩ := PostE.of (show PostE X.K nm ca β H (.of (slcD h5 x (some j) (some k)) h5) Q from p)
                  refine re2 rs rh e1 q fun vx vy H2 β2 st rs2 rh2 rx ry => ?_
                  cases ry
                  refine ⟨j, rfl, re1 rs2 rh2 q2 fun vz H3 β3 st3 rs3 rh3 rz => ?_⟩
                  cases rz
                  exact ⟨k, rfl, slc_ok rh3 (rx.mono st3) e4 ((p.step st).step st3)⟩
                | _ => exact p.elim
              | _ => cases z <;> exact p.elim
            | ex _ _ => rw [q2] at e5; cases e5
            | no => rw [q2] at e5; cases e5
          | ex _ _ => rw [q] at e3; cases e3
          | no => rw [q] at e3; cases e3
end
end MC

set_option Elab.async false
set_option linter.all false
set_option maxRecDepth 100000
set_option maxHeartbeats 4000000
namespace MC
open PySem PySem.Spec PyProof.Rows L2
mutual
theorem D.eqb_eq : ∀ {a b : D}, D.eqb a b = true → a = b
  | .non, b, h => by cases b <;> first | rfl | (simp [D.eqb] at h)
  | .bl x, b, h => by cases b <;> simp [D.eqb] at h ⊢; exact h
  | .int x, b, h => by cases b <;> simp [D.eqb] at h ⊢; exact h
  | .str x, b, h => by cases b <;> simp [D.eqb] at h ⊢; exact h
  | .tup x, b, h => by cases b <;> simp [D.eqb] at h ⊢; exact D.eqbL_eq h
  | .lst x, b, h => by cases b <;> simp [D.eqb] at h ⊢; exact D.eqbL_eq h
  | .dct x, b, h => by cases b <;> simp [D.eqb] at h ⊢; exact D.eqbK_eq h
  | .ins c x, b, h => by cases b <;> simp [D.eqb] at h ⊢; exact ⟨h.1, D.eqbF_eq h.2⟩
  | .ref x, b, h => by cases b <;> simp [D.eqb] at h ⊢; exact h
theorem D.eqbL_eq : ∀ {a b : List D}, D.eqbL a b = true → a = b
  | [], b, h => by cases b <;> first | rfl | (simp [D.eqbL] at h)
  | x :: xs, b, h => by cases b <;> simp [D.eqbL] at h ⊢; exact ⟨D.eqb_eq h.1, D.eqbL_eq h.2⟩
theorem D.eqbK_eq : ∀ {a b : List (D × D)}, D.eqbK a b = true → a = b
  | [], b, h => by cases b <;> first | rfl | (simp [D.eqbK] at h)
  | (x, y) :: xs, b, h => by
    cases b with
    | nil => simp [D.eqbK] at h
    | cons q r =>
      obtain ⟨u, v⟩ := q
      simp [D.eqbK] at h ⊢
      exact ⟨⟨D.eqb_eq h.1.1, D.eqb_eq h.1.2⟩, D.eqbK_eq h.2⟩
theorem D.eqbF_eq : ∀ {a b : List (Nat × D)}, D.eqbF a b = true → a = b
  | [], b, h => by cases b <;> first | rfl | (simp [D.eqbF] at h)
  | (x, y) :: xs, b, h => by
    cases b with
    | nil => simp [D.eqbF] at h
    | cons q r =>
      obtain ⟨u, v⟩ := q
      simp [D.eqbF] at h ⊢
      exact ⟨⟨h.1.1, D.eqb_eq h.1.2⟩, D.eqbF_eq h.2⟩
end
theorem O.eqb_eq {a b : O} (h : O.eqb a b = true) : a = b := by
  cases a <;> cases b <;> simp [O.eqb] at h ⊢
  · exact D.eqbL_eq h
  · exact D.eqbK_eq h
  · exact ⟨h.1, D.eqbF_eq h.2⟩
  · exact D.eqbK_eq h
theorem Hs.eqb_eq : ∀ {a b : Hs}, Hs.eqb a b = true → a = b
  | [], b, h => by cases b <;> first | rfl | (simp [Hs.eqb] at h)
  | x :: xs, b, h => by cases b <;> simp [Hs.eqb] at h ⊢; exact ⟨O.eqb_eq h.1, Hs.eqb_eq h.2⟩
section
variable {K : PySem.W.Frag} {nm : Nat → Str} {ca : CaT} {β r : List Addr} {H H' : Hp}
theorem LsT.back {a : Addr} {vs : List V} (h : LsT K (β ++ r) H' a vs) : LsT K β H' a vs := by
  rcases h with ⟨h, n⟩ | h
  · exact .inl ⟨h, fun m => n (List.mem_append_left _ m)⟩
  · exact .inr h
mutual
/-- what was told at β already -/
theorem RelD.back : ∀ {d : D} {v v0 : V}, RelD K nm ca β H d v0 → RelD K nm ca (β ++ r) H' d v → RelD K nm ca β H' d v
  | _, _, _, .non, q => by cases q; exact .non
  | _, _, _, .bl _, q => by cases q; exact .bl _
  | _, _, _, .int _, q => by cases q; exact .int _
  | _, _, _, .str _, q => by cases q; exact .str _
  | _, _, _, .tup h l, q => by cases q with | tup h' l' => exact .tup h' (RelL.back l l')
  | _, _, _, .lst h l, q => by cases q with | lst h' l' => exact .lst h'.back (RelL.back l l')
  | _, _, _, .ins h n l, q => by cases q with | ins h' n' l' => exact .ins h' (fun m => n' (List.mem_append_left _ m)) (RelF.back l l')
  | _, _, _, .ref h, q => by
    cases q with
    | ref h' =>
      rw [List.getElem?_append_left (List.getElem?_eq_some_iff.mp h).1] at h'
      exact .ref h'
  | _, _, _, .dct h n l, q => by cases q with | dct h' n' l' => exact .dct h' (fun m => n' (List.mem_append_left _ m)) (RelK.back l l')
theorem RelK.back : ∀ {d : List (D × D)} {v v0 : List (NestedKey × Addr × V)}, RelK K nm ca β H d v0 → RelK K nm ca (β ++ r) H' d v → RelK K nm ca β H' d v
  | _, _, _, .nil, q => by cases q; exact .nil
  | _, _, _, .cons _ h h2 t, q => by cases q with | cons e' h' h2' t' => exact .cons e' (RelD.back h h') (RelD.back h2 h2') (RelK.back t t')
theorem RelL.back : ∀ {d : List D} {v v0 : List V}, RelL K nm ca β H d v0 → RelL K nm ca (β ++ r) H' d v → RelL K nm ca β H' d v
  | _, _, _, .nil, q => by cases q; exact .nil
  | _, _, _, .cons h t, q => by cases q with | cons h' t' => exact .cons (RelD.back h h') (RelL.back t t')
theorem RelF.back : ∀ {d : List (Nat × D)} {v v0 : List (Str × V)}, RelF K nm ca β H d v0 → RelF K nm ca (β ++ r) H' d v → RelF K nm ca β H' d v
  | _, _, _, .nil, q => by cases q; exact .nil
  | _, _, _, .cons h t, q => by cases q with | cons h' t' => exact .cons (RelD.back h h') (RelF.back t t')
end
mutual
theorem RelD.nr : ∀ {d : D} {v : V}, RelD K nm ca (β ++ r) H d v → d.nr = true → RelD K nm ca β H d v
  | _, _, .non, _ => .non
  | _, _, .bl b, _ => .bl b
  | _, _, .int i, _ => .int i
  | _, _, .str x, _ => .str x
  | _, _, .tup h l, e => .tup h (RelL.nr l (by simpa [D.nr] using e))
  | _, _, .lst h l, e => .lst h.back (RelL.nr l (by simpa [D.nr] using e))
  | _, _, .ins h n l, e => .ins h (fun m => n (List.mem_append_left _ m)) (RelF.nr l (by simpa [D.nr] using e))
  | _, _, .dct h n l, e => .dct h (fun m => n (List.mem_append_left _ m)) (RelK.nr l (by simpa [D.nr] using e))
  | _, _, .ref _, e => by simp [D.nr] at e
theorem RelK.nr : ∀ {d : List (D × D)} {v : List (NestedKey × Addr × V)}, RelK K nm ca (β ++ r) H d v → D.nrK d = true → RelK K nm ca β H d v
  | _, _, .nil, _ => .nil
  | _, _, .cons k h h2 t, e => by
    simp only [D.nrK, Bool.and_eq_true] at e
    exact .cons k (RelD.nr h e.1.1) (RelD.nr h2 e.1.2) (RelK.nr t e.2)
theorem RelL.nr : ∀ {d : List D} {v : List V}, RelL K nm ca (β ++ r) H d v → D.nrL d = true → RelL K nm ca β H d v
  | _, _, .nil, _ => .nil
  | _, _, .cons h t, e => by
    simp only [D.nrL, Bool.and_eq_true] at e
    exact .cons (RelD.nr h e.1) (RelL.nr t e.2)
theorem RelF.nr : ∀ {d : List (Nat × D)} {v : List (Str × V)}, RelF K nm ca (β ++ r) H d v → D.nrF d = true → RelF K nm ca β H d v
  | _, _, .nil, _ => .nil
  | _, _, .cons h t, e => by
    simp only [D.nrF, Bool.and_eq_true] at e
    exact .cons (RelD.nr h e.1) (RelF.nr t e.2)
end
theorem frzL_rel {f : D → Option D} (ih : ∀ d d' v, f d = some d' → RelD K nm ca (β ++ r) H d v → RelD K nm ca β H d' v) : ∀ {xs ys : List D} {vs : List V}, xs.mapM f = some ys → RelL K nm ca (β ++ r) H xs vs → RelL K nm ca β H ys vs
  | [], ys, _, e, .nil => by simp at e; subst e; exact .nil
  | x :: xs, ys, _, e, .cons h t => by
    rw [List.mapM_cons] at e
    cases q : f x with
    | none => simp [q] at e
    | some a =>
      cases q2 : xs.mapM f with
      | none => simp [q, q2] at e
      | some b =>
        simp [q, q2] at e
        subst e
        exact .cons (ih _ _ _ q h) (frzL_rel ih q2 t)
mutual
theorem key_nr : ∀ {d : D} {k : NestedKey}, d.key = some k → d.nr = true
  | .non, _, _ => rfl
  | .bl _, _, _ => rfl
  | .int _, _, _ => rfl
  | .str _, _, _ => rfl
  | .tup xs, _, e => by
    simp only [D.key, Option.map_eq_some_iff] at e
    obtain ⟨ks, e1, _⟩ := e
    simpa [D.nr] using keys_nr e1
  | .lst _, _, e => by simp [D.key] at e
  | .dct _, _, e => by simp [D.key] at e
  | .ins _ _, _, e => by simp [D.key] at e
  | .ref _, _, e => by simp [D.key] at e
theorem keys_nr : ∀ {d : List D} {k : List NestedKey}, D.keys d = some k → D.nrL d = true
  | [], _, _ => rfl
  | x :: xs, _, e => by
    simp only [D.keys] at e
    split at e
    · rename_i e1 e2
      simp [D.nrL, key_nr e1, keys_nr e2]
    · cases e
end
theorem tkey_key {d : D} {k : NestedKey} (e : d.tkey = some k) : d.key = some k ∧ k.depth ≤ 8 ∧ ∃ xs, d = .tup xs := by
  cases d with
  | tup xs =>
    simp only [D.tkey] at e
    split at e
    · rename_i k' e1
      split at e
      · rename_i h
        cases e
        exact ⟨e1, h, xs, rfl⟩
      · cases e
    · cases e
  | _ => cases e
theorem frzK_rel {f : D → Option D} (ih : ∀ d d' v, f d = some d' → RelD K nm ca (β ++ r) H d v → RelD K nm ca β H d' v) : ∀ {xs ys : List (D × D)} {vs : List (NestedKey × Addr × V)}, xs.mapM (m := Option) (β := D × D) (fun (p : D × D) => (f p.2).map fun b => (p.1, b)) = some ys → RelK K nm ca (β ++ r) H xs vs → RelK K nm ca β H ys vs
  | [], ys, _, e, .nil => by simp at e; subst e; exact .nil
  | (n, x) :: xs, ys, _, e, .cons k h1 h t => by
    rw [List.mapM_cons] at e
    cases q : f x with
    | none => simp [q] at e
    | some a =>
      cases q2 : xs.mapM (m := Option) (β := D × D) (fun (p : D × D) => (f p.2).map fun b => (p.1, b)) with
      | none => simp [q, q2] at e
      | some b =>
        simp [q, q2] at e
        subst e
        exact .cons k (h1.nr (key_nr (tkey_key k).1)) (ih _ _ _ q h) (frzK_rel ih q2 t)
theorem frzF_rel {f : D → Option D} (ih : ∀ d d' v, f d = some d' → RelD K nm ca (β ++ r) H d v → RelD K nm ca β H d' v) : ∀ {xs ys : List (Nat × D)} {vs : List (Str × V)}, xs.mapM (m := Option) (β := Nat × D) (fun (p : Nat × D) => (f p.2).map fun b => (p.1, b)) = some ys → RelF K nm ca (β ++ r) H xs vs → RelF K nm ca β H ys vs
  | [], ys, _, e, .nil => by simp at e; subst e; exact .nil
  | (n, x) :: xs, ys, _, e, .cons h t => by
    rw [List.mapM_cons] at e
    cases q : f x with
    | none => simp [q] at e
    | some a =>
      cases q2 : xs.mapM (m := Option) (β := Nat × D) (fun (p : Nat × D) => (f p.2).map fun b => (p.1, b)) with
      | none => simp [q, q2] at e
      | some b =>
        simp [q, q2] at e
        subst e
        exact .cons (ih _ _ _ q h) (frzF_rel ih q2 t)
theorem frz_rel {h : Hs} {b : Nat} (rh : RelH K nm ca (β ++ r) h H) (hb : b = β.length) : ∀ (k : Nat) (d d' : D) (v : V), frzD (h.drop b) b k d = some d' → RelD K nm ca (β ++ r) H d v → RelD K nm ca β H d' v
  | 0, _, _, _, e, _ => by simp [frzD] at e
  | k + 1, d, d', v, e, q => by
    have ih := frz_rel rh hb k
    unfold frzD at e
    split at e
    · cases e
      exact q.nr (by assumption)
    · cases d with
      | ref n =>
        simp only at e
        split at e
        · rename_i hlt
          cases e
          cases q with
          | ref q =>
            rw [List.getElem?_append_left (by omega)] at q
            exact .ref q
        · rename_i hge
          have hn : ¬ n < β.length := by omega
          cases q with
          | @ref _ a q =>
            have na : a ∉ β := fun m => by
              obtain ⟨i, ei⟩ := List.getElem?_of_mem m
              have hi := (List.getElem?_eq_some_iff.mp ei).1
              have ei' : (β ++ r)[i]? = some a := by rw [List.getElem?_append_left hi]; exact ei
              obtain ⟨h1, x1⟩ := List.getElem?_eq_some_iff.mp ei'
              obtain ⟨h2, x2⟩ := List.getElem?_eq_some_iff.mp q
              have := (List.getElem_inj rh.nd).mp (x1.trans x2.symm)
              omega
            cases qo : h[n]? with
            | none =>
              have : (h.drop b)[n - b]? = none := by rw [List.getElem?_drop]; rw [show b + (n - b) = n by omega]; exact qo
              rw [this] at e
              cases e
            | some o =>
              have : (h.drop b)[n - b]? = some o := by rw [List.getElem?_drop]; rw [show b + (n - b) = n by omega]; exact qo
              rw [this] at e
              have ro := rh.obj n o a qo q
              cases o with
              | lst xs =>
                obtain ⟨vs, e1, e2⟩ := ro
                simp only at e
                cases q2 : xs.mapM (frzD (h.drop b) b k) with
                | none => rw [q2] at e; cases e
                | some ys =>
                  rw [q2] at e
                  cases e
                  exact .lst (.inl ⟨.inl e1, na⟩) (frzL_rel ih q2 e2)
              | ins c fs =>
                obtain ⟨dx, gs, e1, e2⟩ := ro
                simp only at e
                cases q2 : fs.mapM (m := Option) (β := Nat × D) (fun (p : Nat × D) => (frzD (h.drop b) b k p.2).map fun b => (p.1, b)) with
                | none => rw [q2] at e; cases e
                | some ys =>
                  rw [q2] at e
                  cases e
                  exact .ins e1 na (frzF_rel ih q2 e2)
              | dct kvs =>
                obtain ⟨ob, gs, e1, e2⟩ := ro
                simp only at e
                cases q2 : kvs.mapM (m := Option) (β := D × D) (fun (p : D × D) => (frzD (h.drop b) b k p.2).map fun b => (p.1, b)) with
                | none => rw [q2] at e; cases e
                | some ys =>
                  rw [q2] at e
                  cases e
                  exact .dct (.inl e1) na (frzK_rel ih q2 e2)
              | lkd kvs =>
                obtain ⟨ob, gs, e1, e2⟩ := ro
                simp only at e
                cases q2 : kvs.mapM (m := Option) (β := D × D) (fun (p : D × D) => (frzD (h.drop b) b k p.2).map fun b => (p.1, b)) with
                | none => rw [q2] at e; cases e
                | some ys =>
                  rw [q2] at e
                  cases e
                  exact .dct (.inr e1) na (frzK_rel ih q2 e2)
      | tup xs =>
        simp only at e
        cases q with
        | tup h1 h2 =>
          cases q2 : xs.mapM (frzD (h.drop b) b k) with
          | none => rw [q2] at e; cases e
          | some ys =>
            rw [q2] at e
            cases e
            exact .tup h1 (frzL_rel ih q2 h2)
      | lst xs =>
        simp only at e
        cases q with
        | lst h1 h2 =>
          cases q2 : xs.mapM (frzD (h.drop b) b k) with
          | none => rw [q2] at e; cases e
          | some ys =>
            rw [q2] at e
            cases e
            exact .lst h1.back (frzL_rel ih q2 h2)
      | ins c fs =>
        simp only at e
        cases q with
        | ins h1 h2 h3 =>
          cases q2 : fs.mapM (m := Option) (β := Nat × D) (fun (p : Nat × D) => (frzD (h.drop b) b k p.2).map fun b => (p.1, b)) with
          | none => rw [q2] at e; cases e
          | some ys =>
            rw [q2] at e
            cases e
            exact .ins h1 (fun m => h2 (List.mem_append_left _ m)) (frzF_rel ih q2 h3)
      | dct kvs =>
        simp only at e
        cases q with
        | dct h1 h2 h3 =>
          cases q2 : kvs.mapM (m := Option) (β := D × D) (fun (p : D × D) => (frzD (h.drop b) b k p.2).map fun b => (p.1, b)) with
          | none => rw [q2] at e; cases e
          | some ys =>
            rw [q2] at e
            cases e
            exact .dct h1 (fun m => h2 (List.mem_append_left _ m)) (frzK_rel ih q2 h3)
      | _ => exact absurd rfl (by assumption)
/-- behind a def -/
theorem back_ok {fz : Bool} {h0 h' : Hs} {d : D} {β' : List Addr} {v : V} {Q : VK} (rh0 : RelH K nm ca β h0 H) (st : Stp β H β' H') (rh' : RelH K nm ca β' h' H') (rd : RelD K nm ca β' H' d v) (p : PostE K nm ca β H (back fz h0 d h') Q) : Q v H' := by
  unfold back at p
  split at p
  · exact p v H' β' st rh' rd
  · split at p
    · rename_i hc
      rw [Bool.and_eq_true] at hc
      have et := Hs.eqb_eq hc.2
      obtain ⟨r, er⟩ := st.ext
      subst er
      cases q : frzD (h'.drop h0.length) h0.length 6 d with
      | none => rw [q] at p; exact p v H' _ st rh' rd
      | some d' =>
        rw [q] at p
        have hl : h0.length = β.length := rh0.len.symm
        have rd' := frz_rel rh' hl 6 d d' v q rd
        refine p v H' β ⟨st.tup, st.frz, st.oth, ⟨[], by simp⟩, fun _ m => .inl m⟩ ⟨rh0.len, rh0.nd, fun i o a e1 e2 => ?_⟩ rd'
        have hi := (List.getElem?_eq_some_iff.mp e1).1
        have e1' : h'[i]? = some o := by
          rw [← et, List.getElem?_take] at e1
          simpa [hi] using e1
        have e2' : (β ++ r)[i]? = some a := by rw [List.getElem?_append_left (by omega)]; exact e2
        have o1 := rh0.obj i o a e1 e2
        have o2 := rh'.obj i o a e1' e2'
        cases o with
        | lst xs =>
          obtain ⟨vs, _, k2⟩ := o1
          obtain ⟨ws, j1, j2⟩ := o2
          exact ⟨ws, j1, k2.back j2⟩
        | ins c fs =>
          obtain ⟨_, _, _, k2⟩ := o1
          obtain ⟨dx, gs, j1, j2⟩ := o2
          exact ⟨dx, gs, j1, k2.back j2⟩
        | dct kvs =>
          obtain ⟨_, vs, _, k2⟩ := o1
          obtain ⟨ob, ws, j1, j2⟩ := o2
          exact ⟨ob, ws, j1, k2.back j2⟩
        | lkd kvs =>
          obtain ⟨_, vs, _, k2⟩ := o1
          obtain ⟨ob, ws, j1, j2⟩ := o2
          exact ⟨ob, ws, j1, k2.back j2⟩
    · exact p v H' β' st rh' rd
end
end MC

set_option Elab.async false
set_option linter.all false
set_option maxRecDepth 100000
set_option maxHeartbeats 4000000
namespace MC
open PySem PySem.Spec PyProof.Rows L2
/-- a def's promise, by M -/
def spM (K : PySem.W.Frag) (nm : Nat → Str) (ca : CaT) (c : List D → Hs → Res D) : Sp := fun vs H Q _ => ∃ xs h β, RelL K nm ca β H xs vs ∧ RelH K nm ca β h H ∧ PostE K nm ca β H (c xs h) Q
section
variable {X : Cx} {nm : Nat → Str} {ca : CaT} {T : Tab} {cl : Nat → List D → Hs → Res D}
/-! ### fields -/
theorem getF_rel (inj : ∀ i j, nm i = nm j → i = j) {f : Nat} {d : D} {β : List Addr} {H : Hp} {K : PySem.W.Frag} : ∀ {fs : List (Nat × D)} {gs : List (Str × V)}, RelF K nm ca β H fs gs → getF f fs = some d → ∃ v, gs.lookup (nm f) = some v ∧ RelD K nm ca β H d v
  | _, _, .nil, e => by cases e
  | (g, x) :: fs, (_, v) :: gs, .cons h t, e => by
    unfold getF at e
    rw [List.lookup_cons]
    by_cases hg : g = f
    · subst hg
      simp at e
      subst e
      simp
      exact h
    · have n1 : (g == f) = false := beq_eq_false_iff_ne.mpr hg
      rw [n1] at e
      have n2 : (nm f == nm g) = false := beq_eq_false_iff_ne.mpr fun z => hg (inj _ _ z).symm
      rw [n2]
      exact getF_rel inj t e
theorem getF_none (inj : ∀ i j, nm i = nm j → i = j) {f : Nat} {β : List Addr} {H : Hp} {K : PySem.W.Frag} : ∀ {fs : List (Nat × D)} {gs : List (Str × V)}, RelF K nm ca β H fs gs → getF f fs = none → gs.lookup (nm f) = none
  | _, _, .nil, e => rfl
  | (g, x) :: fs, (_, v) :: gs, .cons h t, e => by
    unfold getF at e
    rw [List.lookup_cons]
    by_cases hg : g = f
    · subst hg
      simp at e
    · have n1 : (g == f) = false := beq_eq_false_iff_ne.mpr hg
      rw [n1] at e
      have n2 : (nm f == nm g) = false := beq_eq_false_iff_ne.mpr fun z => hg (inj _ _ z).symm
      rw [n2]
      exact getF_none inj t e
theorem putF_rel (inj : ∀ i j, nm i = nm j → i = j) {f : Nat} {d : D} {v : V} {β : List Addr} {H : Hp} {K : PySem.W.Frag} (q : RelD K nm ca β H d v) : ∀ {fs : List (Nat × D)} {gs : List (Str × V)}, RelF K nm ca β H fs gs → RelF K nm ca β H (MC.putF f d fs) (L2.putF (nm f) v gs)
  | _, _, .nil => .cons q .nil
  | (g, x) :: fs, (_, w) :: gs, .cons h t => by
    unfold MC.putF L2.putF
    by_cases hg : g = f
    · subst hg
      simp
      exact .cons q t
    · have n1 : (g == f) = false := beq_eq_false_iff_ne.mpr hg
      have n2 : ¬ nm g = nm f := fun z => hg (inj _ _ z)
      simp only [n1, n2]
      exact .cons h (putF_rel inj q t)
theorem RelF.length {β : List Addr} {H : Hp} {K : PySem.W.Frag} : ∀ {fs : List (Nat × D)} {gs : List (Str × V)}, RelF K nm ca β H fs gs → fs.length = gs.length
  | _, _, .nil => rfl
  | _, _, .cons _ t => by simp [RelF.length t]
theorem fields_rel {x : D} {v : V} {c : Nat} {fs : List (Nat × D)} {β : List Addr} {H : Hp} {h : Hs} {K : PySem.W.Frag} (rh : RelH K nm ca β h H) (r : RelD K nm ca β H x v) (e : x.fields h = some (c, fs)) : ∃ a dx gs, v = .ref a ∧ H a = some (.ins (ca c) dx gs) ∧ RelF K nm ca β H fs gs := by
  cases x with
  | ins c' fs' =>
    cases e
    cases r with
    | ins h1 h2 h3 => exact ⟨_, _, _, rfl, h1, h3⟩
  | ref n =>
    cases q : h[n]? with
    | none => simp [D.fields, q] at e
    | some o =>
      cases o with
      | ins c' fs' =>
        simp only [D.fields, q] at e
        cases e
        obtain ⟨a, rfl, ea⟩ := r.ref_inv
        obtain ⟨dx, gs, e1, e2⟩ := rh.obj n _ a q ea
        exact ⟨a, dx, gs, rfl, e1, e2⟩
      | _ => simp [D.fields, q] at e
  | _ => cases e
/-- a receiver that is not super() -/
def plainO : Expr → Bool
  | .Call _ [] [] _ => false
  | _ => true
theorem base_ok {o : Expr} {f : Str} {env : Env} {w : Sem Value} (h : plainO o = true) : attributeBase o f env w = w := by
  cases o with
  | Call fn args kws pos =>
    cases args with
    | nil =>
      cases kws with
      | nil => cases h
      | cons _ _ => cases fn <;> rfl
    | cons _ _ => cases fn <;> rfl
  | _ => rfl
theorem s_fld {a : Expr} {c : E} {f : Nat} {pos : Pos} (inj : ∀ i j, nm i = nm j → i = j) (hf : ∀ c, T.fok c f = true → Cls X.K (ca c) ∧ NoAttr X.K (ca c) (nm f)) (ha : SE X nm ca T cl a c) (hb : plainO a = true) : SE X nm ca T cl (.Attribute a (nm f) pos) (.fld c f) := by
  refine PE.imp (pe_fld ha (base_ok hb)) fun τ H Q ⟨σ, h, β, rs, rh, p⟩ => ?_
  simp only [evE] at p
  obtain ⟨x, h1, e1, p⟩ := p.bind
  cases q : x.fields h1 with
  | none => simp only [q] at p; exact p.elim
  | some cf =>
    obtain ⟨k, fs⟩ := cf
    simp only [q] at p
    split at p
    · rename_i hk
      obtain ⟨d, e2, p⟩ := p.of
      refine re1 rs rh e1 fun vx H1 β1 st rs1 rh1 rx => ?_
      obtain ⟨ad, dx, gs, rfl, k1, k2⟩ := fields_rel rh1 rx q
      obtain ⟨v, k3, k4⟩ := getF_rel inj k2 e2
      exact ⟨ad, ca k, dx, gs, v, rfl, k1, (hf k hk).1, (hf k hk).2, k3, PostE.here (p.step st) rh1 k4⟩
    · exact p.elim
/-! ### calls of defs -/
/-- a def of the module at a -/
def FnF (X : Cx) (nm : Nat → Str) (ca : CaT) (n : Nat) (cf : List D → Hs → Res D) (a : Addr) : Prop := ∃ fd ps, Binds X.K fd ps [] ∧ FnOk X.prog X.w X.K X.mg X.base CX0 n a fd ps (spM X.K nm ca cf)
theorem noStar {es : List Expr} {env : Env} {pos : Pos} (h : es.all (fun e => !isSt e) = true) : (backTo pos (starEach es env)).any (·.1) = false := by
  induction es with
  | nil => rfl
  | cons e es ih =>
    simp only [List.all_cons, Bool.and_eq_true, Bool.not_eq_true'] at h
    rw [starEach_plain h.1]
    exact ih h.2
theorem s_fn {f n : Nat} {x : Str} {ad : Addr} {es : List Expr} {c : A} {p pos : Pos} (F : FnF X nm ca n (cl f) ad) (hr : Room n X.A) (hg : Gl X x) (hm : X.mg x = some (.ref ad)) (hk : PySem.W.keepIn X.K (.ref ad) = true) (hdb : (x == ("__debug__" : Str)) = false)
    (ha : SA X nm ca T cl es c) (hs : es.all (fun e => !isSt e) = true) (hc : es = [] → c = .nil) : SE X nm ca T cl (.Call (.Name x p) es [] pos) (.fn f c) := by
  obtain ⟨fd, ps, hb, F⟩ := F
  cases es with
  | nil =>
    refine PE.imp (pe_call0 F hr hg hm hk hb .nil pass0 hdb) fun τ H Q ⟨σ, h, β, rs, rh, q⟩ => ?_
    have := hc rfl
    subst this
    simp only [evE, evA] at q
    exact ⟨[], h, β, .nil, rh, q⟩
  | cons e es =>
    have hs0 := hs
    simp only [List.all_cons, Bool.and_eq_true, Bool.not_eq_true'] at hs0
    refine PE.imp (pe_call F hr hg hm hk hb .nil pass0 ha hdb (starEach_plain hs0.1) (noStar hs0.2)) fun τ H Q ⟨σ, h, β, rs, rh, q⟩ => ?_
    simp only [evE] at q
    obtain ⟨xs, h1, e1, q⟩ := q.bind
    refine ra1 rs rh e1 fun vxs H1 β1 st rs1 rh1 rx => ?_
    rw [List.append_nil]
    exact ⟨xs, h1, β1, rx, rh1, q.step st⟩
/-! ### methods, properties: the class is found when the receiver is there -/
/-- a method's facts -/
def MthF (X : Cx) (nm : Nat → Str) (ca : CaT) (n : Nat) (cf : List D → Hs → Res D) (c m : Nat) : Prop := Cls X.K (ca c) ∧ ∃ a, Meth X.K (ca c) (nm m) a ∧ FnF X nm ca n cf a
def tMD (X : Cx) (m : Str) (n : Nat) (ta : TE) (t : TA) : TE := fun σ H Q => ta σ H fun x H1 => ∃ a dx fs C f fd ps sp, x = .ref a ∧ H1 a = some (.ins C dx fs) ∧ fs.lookup m = none ∧ Cls X.K C ∧ Meth X.K C m f ∧ Binds X.K fd ps [] ∧ FnOk X.prog X.w X.K X.mg X.base CX0 n f fd ps sp ∧
  t σ H1 fun vs H2 => sp (x :: vs) H2 Q E0
theorem pe_methD {n : Nat} {o e : Expr} {es : List Expr} {m : Str} {ta : TE} {t : TA} {pos apos : Pos} {pl : Sem Bool} (he : PE X o ta) (hr : Room n X.A) (ha : PA X (e :: es) t) (hst : starEach (e :: es) X.env = (false, eval e X.env) :: starEach es X.env) (hpl : (backTo pos (starEach es X.env)).any (·.1) = false)
    (ht : eval (.Call (.Attribute o m apos) (e :: es) [] pos) X.env = (do
      let ov ← eval o X.env
      standAt apos.atName
      let (f, first) ← holding [ov] (getMethod ov m pl)
      callWith pos f first (backTo pos (starEach (e :: es) X.env)) (backToKw pos (keywordEach [] X.env)))) : PE X (.Call (.Attribute o m apos) (e :: es) [] pos) (tMD X m n ta t) := by
  refine ⟨fun pins s σ H Q I h => ?_⟩
  refine PySem.W.methodCall_KW (pl := pl) (thn (he.run pins s σ H _ I h) fun u s1 ⟨x, H1, I1, rx, a, dx, fs, C, f, fd, ps, sp, ex, ea, l, c, hm, hb, F, q⟩ => ?_) ht
  subst ex
  obtain rfl : u = Value.ref a := rx
  refine getmeth_ok I1 ea c hm l ?_
  refine PySem.W.callWith_K (first := [.ref a]) (h₀ := X.base) I.ok.mod.kin hm.kp (thn (ha.run pos pins s1 σ H1 _ I1 q) fun us s2 ⟨vs, H2, I2, r, q2⟩ => ⟨I2.kIn, ?_⟩) hst hpl
  exact run_fn (us := .ref a :: us) (vs := .ref a :: vs) F hr hb .nil pass0 I2 (.cons rfl r) (by rw [List.append_nil]; exact q2)
theorem pe_methD0 {n : Nat} {o : Expr} {m : Str} {ta : TE} {pos apos : Pos} {pl : Sem Bool} (he : PE X o ta) (hr : Room n X.A)
    (ht : eval (.Call (.Attribute o m apos) [] [] pos) X.env = (do
      let ov ← eval o X.env
      standAt apos.atName
      let (f, first) ← holding [ov] (getMethod ov m pl)
      callWith pos f first (backTo pos (starEach [] X.env)) (backToKw pos (keywordEach [] X.env)))) : PE X (.Call (.Attribute o m apos) [] [] pos) (tMD X m n ta tNil) := by
  refine ⟨fun pins s σ H Q I h => ?_⟩
  refine PySem.W.methodCall_KW (pl := pl) (thn (he.run pins s σ H _ I h) fun u s1 ⟨x, H1, I1, rx, a, dx, fs, C, f, fd, ps, sp, ex, ea, l, c, hm, hb, F, q⟩ => ?_) ht
  subst ex
  obtain rfl : u = Value.ref a := rx
  refine getmeth_ok I1 ea c hm l ?_
  exact PySem.W.callWith_K0 (first := [.ref a]) I1.kIn hm.kp (run_fn (us := [.ref a]) (vs := [.ref a]) F hr hb .nil pass0 I1 (.cons rfl .nil) q)
theorem star_all {es : List Expr} {env : Env} {pos : Pos} (h : es.all (fun e => !isSt e) = true) : (backTo pos (starEach es env)).all (fun x => !x.1) = true := by
  induction es with
  | nil => rfl
  | cons e es ih =>
    simp only [List.all_cons, Bool.and_eq_true, Bool.not_eq_true'] at h
    rw [starEach_plain h.1]
    exact ih h.2
/-- what stands at a method's call, whatever the receiver -/
theorem meth_tree {o : Expr} {m : Str} {args : List Expr} {apos pos : Pos} {env : Env} (h : plainO o = true) (hs : args.all (fun e => !isSt e) = true) (hl : args.length < 30) (hline : (apos.endLine == pos.line) = true) : ∃ pl : Sem Bool, eval (.Call (.Attribute o m apos) args [] pos) env = (do
      let ov ← eval o env
      standAt apos.atName
      let (f, first) ← holding [ov] (getMethod ov m pl)
      callWith pos f first (backTo pos (starEach args env)) (backToKw pos (keywordEach [] env))) := by
  refine ⟨(do return (← importBound o env).getD true), ?_⟩
  have hf : methodCallForm (args.length + ([] : List Keyword).length) (backTo pos (starEach args env)) (backToKw pos (keywordEach [] env)) = true := by
    unfold methodCallForm
    rw [star_all hs]
    simp [keywordEach, backToKw, hl]
  show (attributeBase o m env (eval o env) >>= fun ov => standAt apos.atName >>= fun _ => methodCall o m apos pos env ov (args.length + ([] : List Keyword).length) (backTo pos (starEach args env)) (backToKw pos (keywordEach [] env))) = _
  rw [base_ok h]
  unfold methodCall calleeOf methodCallPos
  rw [hf, hline]
  rfl
theorem s_mth {a : Expr} {c : E} {m n : Nat} {es : List Expr} {k : A} {apos pos : Pos} (inj : ∀ i j, nm i = nm j → i = j) (hm : ∀ c f, T.meth c m = some f → MthF X nm ca n (cl f) c m) (hr : Room n X.A) (ha : SE X nm ca T cl a c) (hb : plainO a = true) (hA : SA X nm ca T cl es k) (hs : es.all (fun e => !isSt e) = true) (hl : es.length < 30) (hline : (apos.endLine == pos.line) = true) (hc : es = [] → k = .nil) : SE X nm ca T cl (.Call (.Attribute a (nm m) apos) es [] pos) (.mth m c k) := by
  have key : ∀ (t : TA), (∀ τ H Q, RA X.K nm ca (evA T cl k) τ H Q → t τ H Q) → ∀ τ H Q, RE X.K nm ca (evE T cl (.mth m c k)) τ H Q → tMD X (nm m) n (RE X.K nm ca (evE T cl c)) t τ H Q := by
    intro t ht τ H Q ⟨σ, h, β, rs, rh, p⟩
    simp only [evE] at p
    obtain ⟨x, h1, e1, p⟩ := p.bind
    cases q : x.fields h1 with
    | none => simp only [q] at p; exact p.elim
    | some cf =>
      obtain ⟨ci, fs⟩ := cf
      simp only [q] at p
      cases q2 : getF m fs with
      | some _ => simp only [q2] at p; exact p.elim
      | none =>
        cases q3 : T.meth ci m with
        | none => simp only [q2, q3] at p; exact p.elim
        | some f =>
          simp only [q2, q3] at p
          obtain ⟨xs, h2, e2, p⟩ := p.bind
          obtain ⟨cc, ad, hmt, fd, ps, hbn, F⟩ := hm ci f q3
          refine re1 rs rh e1 fun vx H1 β1 st rs1 rh1 rx => ?_
          obtain ⟨a1, dx, gs, rfl, k1, k2⟩ := fields_rel rh1 rx q
          refine ⟨a1, dx, gs, ca ci, ad, fd, ps, _, rfl, k1, getF_none inj k2 q2, cc, hmt, hbn, F, ht _ _ _ ?_⟩
          refine ra1 rs1 rh1 e2 fun vxs H2 β2 st2 rs2 rh2 rxs => ?_
          cases q4 : x.fields h2 with
          | none => simp only [q4] at p; exact p.elim
          | some cf2 =>
            simp only [q4] at p
            split at p
            · exact ⟨x :: xs, h2, β2, .cons (rx.mono st2) rxs, rh2, (p.step st).step st2⟩
            · exact p.elim
  obtain ⟨pl, ht⟩ := meth_tree (o := a) (m := nm m) (args := es) (apos := apos) (pos := pos) (env := X.env) hb hs hl hline
  cases es with
  | nil =>
    have := hc rfl
    subst this
    refine PE.imp (pe_methD0 (pl := pl) ha hr ht) (key tNil fun τ H Q ⟨σ, h, β, rs, rh, p⟩ => ?_)
    exact p [] H β (Stp.refl _ _) rh .nil
  | cons e es =>
    have hs0 := hs
    simp only [List.all_cons, Bool.and_eq_true, Bool.not_eq_true'] at hs0
    exact PE.imp (pe_methD (pl := pl) ha hr hA (starEach_plain hs0.1) (noStar hs0.2) ht) (key _ fun _ _ _ q => q)
/-- a property -/
def PrpF (X : Cx) (nm : Nat → Str) (ca : CaT) (n : Nat) (cf : List D → Hs → Res D) (c m : Nat) : Prop := Cls X.K (ca c) ∧ ∃ p a, PropOf X.K (ca c) (nm m) p a ∧ FnF X nm ca n cf a
def tPD (X : Cx) (f : Str) (n : Nat) (ta : TE) : TE := fun σ H Q => ta σ H fun x H1 => ∃ a dx fs C p g fd ps sp, x = .ref a ∧ H1 a = some (.ins C dx fs) ∧ Cls X.K C ∧ PropOf X.K C f p g ∧ Binds X.K fd ps [] ∧ FnOk X.prog X.w X.K X.mg X.base CX0 n g fd ps sp ∧ sp [.ref a] H1 Q E0
theorem pe_propD {n : Nat} {e : Expr} {f : Str} {ta : TE} {pos : Pos} (he : PE X e ta) (hr : Room (n + 1) X.A) (hab : attributeBase e f X.env (eval e X.env) = eval e X.env) : PE X (.Attribute e f pos) (tPD X f n ta) := by
  refine ⟨fun pins s σ H Q I h => ?_⟩
  refine attr_of hab (thn (he.run pins s σ H _ I h) fun u s1 ⟨x, H1, I1, rx, a, dx, fs, C, p, g, fd, ps, sp, ex, ea, c, hp, hb, F, q⟩ => ?_)
  subst ex
  obtain rfl : u = Value.ref a := rx
  exact getprop_ok I1 ea c hp F hr hb .nil pass0 q
theorem s_prp {a : Expr} {c : E} {m n : Nat} {pos : Pos} (hm : ∀ c f, T.meth c m = some f → PrpF X nm ca n (cl f) c m) (hr : Room (n + 1) X.A) (ha : SE X nm ca T cl a c) (hb : plainO a = true) : SE X nm ca T cl (.Attribute a (nm m) pos) (.prp m c) := by
  refine PE.imp (pe_propD ha hr (base_ok hb)) fun τ H Q ⟨σ, h, β, rs, rh, p⟩ => ?_
  simp only [evE] at p
  obtain ⟨x, h1, e1, p⟩ := p.bind
  cases q : x.fields h1 with
  | none => simp only [q] at p; exact p.elim
  | some cf =>
    obtain ⟨ci, fs⟩ := cf
    simp only [q] at p
    cases q3 : T.meth ci m with
    | none => simp only [q3] at p; exact p.elim
    | some f =>
      simp only [q3] at p
      obtain ⟨cc, pa, ad, hmt, fd, ps, hbn, F⟩ := hm ci f q3
      refine re1 rs rh e1 fun vx H1 β1 st rs1 rh1 rx => ?_
      obtain ⟨a1, dx, gs, rfl, k1, k2⟩ := fields_rel rh1 rx q
      exact ⟨a1, dx, gs, ca ci, pa, ad, fd, ps, _, rfl, k1, cc, hmt, hbn, F, [x], h1, β1, .cons rx .nil, rh1, p.step st⟩
/-! ### a new instance -/
def MkF (X : Cx) (nm : Nat → Str) (ca : CaT) (n : Nat) (cf : List D → Hs → Res D) (c : Nat) (x : Str) (np : Nat) (ks : List Str) (sh : List D → List D → Option (List D)) : Prop :=
  ∃ a fd ps g gV, Mk X.K (ca c) a ∧ X.mg x = some (.ref (ca c)) ∧ KBn X.K fd ps (np + 1) ks g gV ∧ FnOk X.prog X.w X.K X.mg X.base CX0 n a fd ps (spM X.K nm ca cf) ∧
    ∀ (β : List Addr) (H : Hp) (d : D) (v : V) (xs ys ws : List D) (vs zs : List V), RelD X.K nm ca β H d v → RelL X.K nm ca β H xs vs → RelL X.K nm ca β H ys zs → sh xs ys = some ws → xs.length = np ∧ ys.length = ks.length ∧ RelL X.K nm ca β H (d :: ws) (gV (v :: vs) zs)
abbrev SK (X : Cx) (nm : Nat → Str) (ca : CaT) (T : Tab) (cl : Nat → List D → Hs → Res D) (ks : List Keyword) (c : A) : Prop := PK X ks (RA X.K nm ca (evA T cl c))
theorem PK.imp {X : Cx} {e : List Keyword} {t t' : TA} (h : PK X e t) (i : ∀ σ H Q, t' σ H Q → t σ H Q) : PK X e t' := ⟨fun pos pins s σ H Q I q => h.run pos pins s σ H Q I (i σ H Q q)⟩
theorem k_nil : SK X nm ca T cl [] .nil := PK.imp pk_nil fun τ H Q ⟨σ, h, β, rs, rh, p⟩ => p [] H β (Stp.refl _ _) rh .nil
theorem k_cons {e : Expr} {x : Option Str} {kp : Pos} {es : List Keyword} {c : E} {r : A} (he : SE X nm ca T cl e c) (hr : SK X nm ca T cl es r) : SK X nm ca T cl (⟨x, e, kp⟩ :: es) (.cons c r) := by
  refine PK.imp (pk_cons he hr) fun τ H Q ⟨σ, h, β, rs, rh, p⟩ => ?_
  simp only [evA] at p
  obtain ⟨x, h1, e1, p⟩ := p.bind
  obtain ⟨xs, h2, e2, p⟩ := p.bind
  exact re1 rs rh e1 fun vx H1 β1 st rs1 rh1 rx => ra1 rs1 rh1 e2 fun vxs H2 β2 st2 rs2 rh2 rxs => p _ H2 β2 (st.trans st2) rh2 (.cons (rx.mono st2) rxs)
def kwNames : List Keyword → Option (List Str)
  | [] => some []
  | ⟨some x, _, _⟩ :: r => (kwNames r).map (x :: ·)
  | ⟨none, _, _⟩ :: _ => none
theorem kw_all {kws : List Keyword} {ks : List Str} {env : Env} {pos : Pos} (h : kwNames kws = some ks) : (backToKw pos (keywordEach kws env)).all (·.1.isSome) = true ∧ (backToKw pos (keywordEach kws env)).filterMap (·.1) = ks ∧ (backToKw pos (keywordEach kws env)).any (·.1.isNone) = false := by
  induction kws generalizing ks with
  | nil => cases h; exact ⟨rfl, rfl, rfl⟩
  | cons k r ih =>
    obtain ⟨x, e, p⟩ := k
    cases x with
    | none => cases h
    | some x =>
      unfold kwNames at h
      cases q : kwNames r with
      | none => rw [q] at h; cases h
      | some rs =>
        rw [q] at h
        cases h
        obtain ⟨h1, h2, h3⟩ := ih q
        have e0 : backToKw pos (keywordEach (⟨some x, e, p⟩ :: r) env) = (some x, (do let v ← eval e env; standAt pos; pure v)) :: backToKw pos (keywordEach r env) := rfl
        rw [e0, List.all_cons, List.filterMap_cons, List.any_cons, h1, h2, h3]
        exact ⟨rfl, rfl, rfl⟩
theorem s_mk {c sh n np : Nat} {x : Str} {ks : List Str} {e : Expr} {es : List Expr} {kws : List Keyword} {ka kk : A} {p pos : Pos} {f : Nat} {fz : Bool} (hi : T.init c = some (f, fz)) (M : MkF X nm ca n (cl f) c x np ks (T.shape sh)) (hr : Room (n + 1) X.A) (hg : Gl X x) (hdb : (x == ("__debug__" : Str)) = false)
    (ha : SA X nm ca T cl (e :: es) ka) (hs : (e :: es).all (fun e => !isSt e) = true) (hk : SK X nm ca T cl kws kk) (hks : kwNames kws = some ks) : SE X nm ca T cl (.Call (.Name x p) (e :: es) kws pos) (.mk c sh ka kk) := by
  obtain ⟨ad, fd, ps, g, gV, mk, hm, kb, F, hsh⟩ := M
  obtain ⟨w1, w2, w3⟩ := kw_all (env := X.env) (pos := pos) hks
  have hs0 := hs
  simp only [List.all_cons, Bool.and_eq_true, Bool.not_eq_true'] at hs0
  refine PE.imp (pe_makeK (E := E0) mk F hr hg hm kb pass0 ha hk w1 w2 hdb (starEach_plain hs0.1) (by rw [noStar hs, w3]; rfl)) fun τ H Q ⟨σ, h, β, rs, rh, q⟩ => ?_
  simp only [evE] at q
  obtain ⟨xs, h1, e1, q⟩ := q.bind
  obtain ⟨ys, h2, e2, q⟩ := q.bind
  rw [hi] at q
  cases q2 : T.shape sh xs ys with
  | none => simp only [q2] at q; exact q.elim
  | some zs =>
    simp only [q2] at q
    refine ra1 rs rh e1 fun vxs H1 β1 st rs1 rh1 rx => ra1 rs1 rh1 e2 fun vys H2 β2 st2 rs2 rh2 ry => ?_
    have hh := hsh β2 H2 .non .non xs ys zs vxs vys .non (rx.mono st2) ry q2
    refine ⟨by rw [← rx.length]; exact hh.1, by rw [← ry.length]; exact hh.2.1, fun px dx nx nd ne => ?_⟩
    have nx' : upd H2 dx (.own px) px = none := by rw [upd_ne (Ne.symm ne)]; exact nx
    have rh3 : RelH X.K nm ca β2 h2 (upd H2 dx (.own px)) := rh2.laid nd
    have st3 : Stp β2 H2 (β2 ++ [px]) (upd (upd H2 dx (.own px)) px (.ins (ca c) dx [])) := (Stp.laid nd).trans (Stp.push nx')
    have rh4 : RelH X.K nm ca (β2 ++ [px]) (h2 ++ [.ins c []]) (upd (upd H2 dx (.own px)) px (.ins (ca c) dx [])) := rh3.push nx' ⟨dx, [], upd_same, .nil⟩
    have rself : RelD X.K nm ca (β2 ++ [px]) (upd (upd H2 dx (.own px)) px (.ins (ca c) dx [])) (.ref h2.length) (.ref px) := .ref (by rw [← rh2.len, List.getElem?_append_right (Nat.le_refl _)]; simp)
    have hh2 := (hsh (β2 ++ [px]) _ (.ref h2.length) (.ref px) xs ys zs vxs vys rself ((rx.mono st2).mono st3) (ry.mono st3) q2).2.2
    refine ⟨_, _, _, hh2, rh4, ?_⟩
    obtain ⟨d, h5, e5, q⟩ := q.bind
    rw [e5]
    intro v H5 β5 st5 rh5 rd5
    cases d with
    | non =>
      cases rd5
      refine ⟨rfl, ?_⟩
      exact back_ok rh2 (st3.trans st5) rh5 (rself.mono st5) (((q.step st).step st2))
    | _ => exact q.elim
end
end MC

set_option Elab.async false
set_option linter.all false
set_option maxRecDepth 100000
set_option maxHeartbeats 4000000
namespace MC
open PySem PySem.Spec PyProof.Rows L2
section
variable {X : Cx} {nm : Nat → Str} {ca : CaT} {T : Tab} {cl : Nat → List D → Hs → Res D}
/-! ### built-ins -/
def BiOk (X : Cx) (nm : Nat → Str) (ca : CaT) (b : Bi) (r : List V → Hp → VK → Prop) : Prop :=
  ∀ (β : List Addr) (H : Hp) (h : Hs) (xs : List D) (d : D) (vs : List V) (Q : VK), RelH X.K nm ca β h H → RelL X.K nm ca β H xs vs → biD h b xs = some d → PostE X.K nm ca β H (.ok d h) Q → r vs H Q
theorem bools_rel {β : List Addr} {H : Hp} {K : PySem.W.Frag} : ∀ {xs : List D} {vs : List V} {bs : List Bool}, RelL K nm ca β H xs vs → boolsOf xs = some bs → vs = bs.map V.bl
  | [], _, _, r, e => by cases r; cases e; rfl
  | x :: xs, _, _, r, e => by
    cases r with
    | cons r1 r2 =>
      cases x with
      | bl b =>
        cases r1
        unfold boolsOf at e
        cases q : boolsOf xs with
        | none => rw [q] at e; cases e
        | some cs => rw [q] at e; cases e; rw [bools_rel r2 q]; rfl
      | _ => cases e
theorem one_rel {β : List Addr} {H : Hp} {K : PySem.W.Frag} {x : D} {vs : List V} (r : RelL K nm ca β H [x] vs) : ∃ v, vs = [v] ∧ RelD K nm ca β H x v := by
  cases r with
  | cons r1 r2 => cases r2; exact ⟨_, rfl, r1⟩
theorem len_ok : BiOk X nm ca .len (fun xs H Q => ∃ x n, xs = [x] ∧ LenV X.K x H n ∧ Q (.int n) H) := by
  intro β H h xs d vs Q rh r e p
  match xs, e with
  | [], e => cases e
  | [x], e =>
    obtain ⟨v, rfl, rx⟩ := one_rel r
    by_cases hx : ∃ z, x = .str z
    · obtain ⟨z, rfl⟩ := hx
      cases rx
      simp only [biD] at e
      split at e
      · cases e
        exact ⟨_, _, rfl, ⟨by assumption, rfl⟩, p.here rh (.int _)⟩
      · cases e
    · have e2 : (x.seq h).map (fun xs => D.int xs.length) = some d := by
        cases x <;> first | exact e | exact absurd ⟨_, rfl⟩ hx
      cases q : x.seq h with
      | none => rw [q] at e2; cases e2
      | some ys =>
        rw [q] at e2
        cases e2
        obtain ⟨a, vs, rfl, k1, k2⟩ := seq_inv rh q rx
        refine ⟨_, ys.length, rfl, ?_, p.here rh (.int _)⟩
        rcases k1 with k1 | k1
        · exact .inl ⟨vs, k1, k2.length⟩
        · exact .inr ⟨vs, k1, k2.length⟩
  | _ :: _ :: _, e => cases e
theorem tuple_ok : BiOk X nm ca .tuple (fun xs H Q => ∃ p ys, xs = [.ref p] ∧ ((SqL X.K H p ys ∧ ∀ l, H l = none → Q (.ref l) (upd H l (.tup ys))) ∨ (SqT X.K H p ys ∧ Q (.ref p) H))) := by
  intro β H h xs d vs Q rh r e p
  match xs, e with
  | [], e => cases e
  | [x], e =>
    obtain ⟨v, rfl, rx⟩ := one_rel r
    simp only [biD] at e
    cases q : x.seq h with
    | none => rw [q] at e; cases e
    | some ys =>
      rw [q] at e
      cases e
      by_cases ht : ∃ zs, x = .tup zs
      · obtain ⟨zs, rfl⟩ := ht
        cases q
        obtain ⟨a, ws, rfl, k1, k2⟩ := rx.tup_inv
        exact ⟨a, ws, rfl, .inr ⟨k1, p.here rh rx⟩⟩
      · have q2 : x.lseq h = some ys := by
          cases x <;> first | exact q | exact absurd ⟨_, rfl⟩ ht
        obtain ⟨a, ws, rfl, k1, k2⟩ := lseq_inv rh q2 rx
        exact ⟨a, ws, rfl, .inl ⟨k1, fun l hl => p.laid rh hl (new_tup hl k2)⟩⟩
  | _ :: _ :: _, e => cases e
theorem list_ok : BiOk X nm ca .list (fun xs H Q => ∃ p ys, xs = [.ref p] ∧ (SqL X.K H p ys ∨ SqT X.K H p ys) ∧ ∀ l, H l = none → Q (.ref l) (upd H l (.lst ys))) := by
  intro β H h xs d vs Q rh r e p
  match xs, e with
  | [], e => cases e
  | [x], e =>
    obtain ⟨v, rfl, rx⟩ := one_rel r
    simp only [biD] at e
    cases q : x.seq h with
    | none => rw [q] at e; cases e
    | some ys =>
      rw [q] at e
      cases e
      obtain ⟨a, ws, rfl, k1, k2⟩ := seq_inv rh q rx
      exact ⟨a, ws, rfl, k1, fun l hl => p.laid rh hl (new_lst rh hl k2)⟩
  | _ :: _ :: _, e => cases e
theorem all_ok : BiOk X nm ca .all (rAll X.K) := by
  intro β H h xs d vs Q rh r e p
  match xs, e with
  | [], e => cases e
  | [x], e =>
    obtain ⟨v, rfl, rx⟩ := one_rel r
    simp only [biD] at e
    cases q : x.lseq h with
    | none => rw [q] at e; cases e
    | some ys =>
      simp only [q, Option.bind_some] at e
      cases q2 : boolsOf ys with
      | none => rw [q2] at e; cases e
      | some bs =>
        rw [q2] at e
        cases e
        obtain ⟨a, ws, rfl, k1, k2⟩ := lseq_inv rh q rx
        refine ⟨a, bs, rfl, ?_, p.here rh (.bl _)⟩
        rw [← bools_rel k2 q2]
        exact k1
  | _ :: _ :: _, e => cases e
theorem any_ok : BiOk X nm ca .any (rAny X.K) := by
  intro β H h xs d vs Q rh r e p
  match xs, e with
  | [], e => cases e
  | [x], e =>
    obtain ⟨v, rfl, rx⟩ := one_rel r
    simp only [biD] at e
    cases q : x.lseq h with
    | none => rw [q] at e; cases e
    | some ys =>
      simp only [q, Option.bind_some] at e
      cases q2 : boolsOf ys with
      | none => rw [q2] at e; cases e
      | some bs =>
        rw [q2] at e
        cases e
        obtain ⟨a, ws, rfl, k1, k2⟩ := lseq_inv rh q rx
        refine ⟨a, bs, rfl, ?_, p.here rh (.bl _)⟩
        rw [← bools_rel k2 q2]
        exact k1
  | _ :: _ :: _, e => cases e
theorem max2_ok : BiOk X nm ca .max2 (fun xs H Q => ∃ i j, xs = [.int i, .int j] ∧ Q (.int (if j > i then j else i)) H) := by
  intro β H h xs d vs Q rh r e p
  unfold biD at e
  split at e <;> first
    | (rename_i hb; cases hb; done)
    | (cases r with
       | cons r1 r2 => cases r2 with
         | cons r3 r4 => cases r4; cases r1; cases r3; cases e; exact ⟨_, _, rfl, p.here rh (.int _)⟩)
    | cases e
theorem min2_ok : BiOk X nm ca .min2 (fun xs H Q => ∃ i j, xs = [.int i, .int j] ∧ Q (.int (if j < i then j else i)) H) := by
  intro β H h xs d vs Q rh r e p
  unfold biD at e
  split at e <;> first
    | (rename_i hb; cases hb; done)
    | (cases r with
       | cons r1 r2 => cases r2 with
         | cons r3 r4 => cases r4; cases r1; cases r3; cases e; exact ⟨_, _, rfl, p.here rh (.int _)⟩)
    | cases e
theorem int1_ok : BiOk X nm ca .int (fun xs H Q => (∃ i, xs = [.int i] ∧ Q (.int i) H) ∨ ∃ k, xs = [.bl k] ∧ Q (.int (if k then 1 else 0)) H) := by
  intro β H h xs d vs Q rh r e p
  match xs, e with
  | [], e => cases e
  | [x], e =>
    obtain ⟨v, rfl, rx⟩ := one_rel r
    cases x with
    | int i => cases rx; cases e; exact .inl ⟨i, rfl, p.here rh (.int _)⟩
    | bl k => cases rx; cases e; exact .inr ⟨k, rfl, p.here rh (.int _)⟩
    | _ => cases e
  | a :: b :: c, e => simp [biD] at e
theorem abs_ok : BiOk X nm ca .abs (fun xs H Q => ∃ i, xs = [.int i] ∧ Q (.int (if i < 0 then -i else i)) H) := by
  intro β H h xs d vs Q rh r e p
  match xs, e with
  | [], e => cases e
  | [x], e =>
    obtain ⟨v, rfl, rx⟩ := one_rel r
    cases x with
    | int i => cases rx; cases e; exact ⟨i, rfl, p.here rh (.int _)⟩
    | _ => cases e
  | a :: b :: c, e => simp [biD] at e
def biName : Bi → Str
  | .len => "len" | .tuple => "tuple" | .list => "list" | .all => "all" | .any => "any" | .max1 => "max" | .max2 => "max" | .min1 => "min" | .min2 => "min" | .sum => "sum" | .int => "int" | .abs => "abs"
def biHere : Bi → Bool
  | .max1 => false | .min1 => false | .sum => false | _ => true
theorem bi_all {e : Expr} {es : List Expr} {c : A} {b : Bi} {p pos : Pos} (hc : X.calm = true) (hb : biHere b = true) (hg : Gl X (biName b)) (hm : X.mg (biName b) = none) (ha : SA X nm ca T cl (e :: es) c) (hs : (e :: es).all (fun e => !isSt e) = true) : SE X nm ca T cl (.Call (.Name (biName b) p) (e :: es) [] pos) (.bi b c) := by
  have hs0 := hs
  simp only [List.all_cons, Bool.and_eq_true, Bool.not_eq_true'] at hs0
  have h1 := starEach_plain (es := es) (env := X.env) hs0.1
  have h2 := noStar (env := X.env) (pos := pos) hs0.2
  have key : ∀ {r : List V → Hp → VK → Prop}, BiOk X nm ca b r → ∀ τ H Q, RE X.K nm ca (evE T cl (.bi b c)) τ H Q → tCB r (RA X.K nm ca (evA T cl c)) τ H Q := by
    intro r ok τ H Q ⟨σ, h, β, rs, rh, p⟩
    simp only [evE] at p
    obtain ⟨xs, h1, e1, p⟩ := p.bind
    obtain ⟨d, e2, p⟩ := p.of
    exact ra1 rs rh e1 fun vxs H1 β1 st rs1 rh1 rx => ok β1 H1 h1 xs d vxs Q rh1 rx e2 (p.step st)
  cases b with
  | len => exact PE.imp (pe_callB call_len hg hm PySem.boot_len ha (by decide) (by decide) h1 h2) (key len_ok)
  | tuple => exact PE.imp (pe_callTy call_tuple_of hg hm (by decide +kernel) ha (by decide) (by decide) h1 h2) (key tuple_ok)
  | list => exact PE.imp (pe_callTy call_list_of hg hm (by decide +kernel) ha (by decide) (by decide) h1 h2) (key list_ok)
  | all => exact PE.imp (pe_callB (cr_all hc) hg hm (by decide +kernel) ha (by decide) (by decide) h1 h2) (key all_ok)
  | any => exact PE.imp (pe_callB (cr_any hc) hg hm (by decide +kernel) ha (by decide) (by decide) h1 h2) (key any_ok)
  | max2 => exact PE.imp (pe_callB (call_max2 hc) hg hm (by decide +kernel) ha (by decide) (by decide) h1 h2) (key max2_ok)
  | min2 => exact PE.imp (pe_callB (call_min2 hc) hg hm (by decide +kernel) ha (by decide) (by decide) h1 h2) (key min2_ok)
  | int => exact PE.imp (pe_callTy call_int1 hg hm (by decide +kernel) ha (by decide) (by decide) h1 h2) (key int1_ok)
  | abs => exact PE.imp (pe_callB call_abs hg hm (by decide +kernel) ha (by decide) (by decide) h1 h2) (key abs_ok)
  | _ => cases hb
/-- list(e), a new list of the heap -/
theorem s_nls {e : Expr} {c : E} {p pos : Pos} (hg : Gl X "list") (hm : X.mg "list" = none) (ha : SE X nm ca T cl e c) (hs : isSt e = false) : SE X nm ca T cl (.Call (.Name "list" p) [e] [] pos) (.nls c) := by
  refine PE.imp (pe_callTy call_list_of hg hm (by decide +kernel) (a_cons ha a_nil hs) (by decide) (by decide) (starEach_plain hs) rfl) fun τ H Q ⟨σ, h, β, rs, rh, p⟩ => ?_
  simp only [evE] at p
  obtain ⟨x, h1, e1, p⟩ := p.bind
  cases q : x.seq h1 with
  | none => simp only [q] at p; exact p.elim
  | some xs =>
    simp only [q] at p
    refine ra1 (x := [x]) (h1 := h1) rs rh (by simp [evA, e1, Res.bind]) fun vxs H1 β1 st rs1 rh1 rx => ?_
    obtain ⟨v, rfl, ry⟩ := one_rel rx
    obtain ⟨a, ws, rfl, k1, k2⟩ := seq_inv rh1 q ry
    exact ⟨a, ws, rfl, k1, fun l hl => PostE.push (d := .non) (p.step st) rh1 hl ⟨ws, upd_same, k2.mono (Stp.push hl)⟩⟩
/-- xs.append(e) -/
theorem s_app {o e : Expr} {c k : E} {apos pos : Pos} (ha : SE X nm ca T cl o c) (he : SE X nm ca T cl e k) (hb : plainO o = true) (hs : isSt e = false) (hline : (apos.endLine == pos.line) = true) : SE X nm ca T cl (.Call (.Attribute o "append" apos) [e] [] pos) (.bm .append c (.cons k .nil)) := by
  refine PE.imp (pe_bm PySem.F.plainAttrs_list PySem.F.slot_list_append PySem.F.type_list_append mt_append ha (a_cons he a_nil hs) (base_ok hb) (by
    have : (backTo pos (starEach [e] X.env)).all (fun x => !x.1) = true := star_all (by simp [hs])
    rw [this]; rfl) hline (starEach_plain hs) rfl) fun τ H Q ⟨σ, h, β, rs, rh, p⟩ => ?_
  simp only [evE] at p
  obtain ⟨x, h1, e1, p⟩ := p.bind
  cases q : x.lseq h1 with
  | none => simp only [q] at p; exact p.elim
  | some ys =>
    simp only [q] at p
    obtain ⟨xs, h2, e2, p⟩ := p.bind
    refine re1 rs rh e1 fun vx H1 β1 st rs1 rh1 rx => ?_
    obtain ⟨a, ws, rfl, k1, k2⟩ := lseq_inv rh1 q rx
    refine ⟨.inl ⟨rfl, ws, k1⟩, ra1 rs1 rh1 e2 fun vxs H2 β2 st2 rs2 rh2 rxs => ?_⟩
    obtain ⟨n, y, rfl, rfl⟩ : ∃ n y, x = .ref n ∧ xs = [y] := by
      cases x with
      | ref n =>
        match xs, p with
        | [y], _ => exact ⟨n, y, rfl, rfl⟩
        | [], p => exact p.elim
        | _ :: _ :: _, p => exact p.elim
      | _ => exact p.elim
    obtain ⟨v, rfl, ry⟩ := one_rel rxs
    simp only [bmD] at p
    cases q3 : h2[n]? with
    | none => simp only [q3] at p; exact p.elim
    | some o =>
      cases o with
      | lst zs =>
        simp only [q3] at p
        split at p
        · rename_i hz
          obtain ⟨a', e', hβ⟩ := (rx.mono st2).ref_inv
          cases e'
          obtain ⟨us, j1, j2⟩ := rh2.obj n _ a q3 hβ
          have sw : Stp β2 H2 β2 (upd H2 a (.lst (us ++ [v]))) := Stp.write (List.mem_of_getElem? hβ) j1 (fun _ z => nomatch z) (fun _ _ z => nomatch z)
          refine ⟨a, us, v, rfl, rfl, j1, by rw [← j2.length]; exact hz, ?_⟩
          refine ((p.step st).step st2) .non _ _ sw (rh2.write hβ sw ⟨us ++ [v], upd_same, ?_⟩) .non
          exact (j2.mono sw).app (.cons (ry.mono sw) .nil)
        · exact p.elim
      | _ => simp only [q3] at p; exact p.elim
end
end MC

set_option Elab.async false
set_option linter.all false
set_option maxRecDepth 100000
set_option maxHeartbeats 4000000
namespace MC
open PySem PySem.Spec PyProof.Rows L2
/-! ### targets -/
mutual
def G.slots : G → List Nat
  | .nm i => [i]
  | .tup gs => gs.slots
  | .att _ _ => []
  | .sub _ _ => []
  | .dsub _ _ => []
def GL.slots : GL → List Nat
  | .nil => []
  | .cons g r => g.slots ++ r.slots
end
section
variable (K : PySem.W.Frag) (nm : Nat → Str) (ca : CaT)
/-- only these slots change -/
def Chg (vs : List Nat) (τ τ' : L2.St) : Prop := τ'.length = τ.length ∧ ∀ (i : Nat), i ∉ vs → τ'[i]? = τ[i]?
def PostG (vs : List Nat) (β : List Addr) (H : Hp) (τ : L2.St) (r : Res Sg) (Q : L2.St → Hp → Prop) : Prop := match r with
  | .ok σ' h' => ∀ τ' H' β', Stp β H β' H' → RelS K nm ca β' H' σ' τ' → RelH K nm ca β' h' H' → Chg vs τ τ' → Q τ' H'
  | _ => False
def RG (vs : List Nat) (ev : D → Sg → Hs → Res Sg) : TG := fun v τ H Q => ∃ d σ h β, RelS K nm ca β H σ τ ∧ RelH K nm ca β h H ∧ RelD K nm ca β H d v ∧ PostG K nm ca vs β H τ (ev d σ h) Q
def RGL (vs : List Nat) (ev : List D → Sg → Hs → Res Sg) : TGs := fun ws τ H Q => ∃ ds σ h β, RelS K nm ca β H σ τ ∧ RelH K nm ca β h H ∧ RelL K nm ca β H ds ws ∧ PostG K nm ca vs β H τ (ev ds σ h) Q
end
theorem Chg.refl (vs : List Nat) (τ : L2.St) : Chg vs τ τ := ⟨rfl, fun _ _ => rfl⟩
theorem Chg.trans {vs ws : List Nat} {τ τ1 τ2 : L2.St} (p : Chg vs τ τ1) (q : Chg ws τ1 τ2) : Chg (vs ++ ws) τ τ2 := ⟨q.1.trans p.1, fun i hi => by
  rw [List.mem_append, not_or] at hi
  rw [q.2 i hi.2, p.2 i hi.1]⟩
theorem Chg.set {τ : L2.St} {i : Nat} {v : Option V} : Chg [i] τ (τ.set i v) := ⟨by simp, fun j hj => by
  rw [List.getElem?_set_ne]
  intro e
  exact hj (by simp [e])⟩
theorem PG.imp {X : Cx} {e : Expr} {t t' : TG} (h : PG X e t) (i : ∀ v σ H Q, t' v σ H Q → t v σ H Q) : PG X e t' := ⟨fun pins s σ H v u Q I r q => h.run pins s σ H v u Q I r (i v σ H Q q)⟩
theorem PGs.imp {X : Cx} {e : List Expr} {t t' : TGs} (h : PGs X e t) (i : ∀ v σ H Q, t' v σ H Q → t v σ H Q) : PGs X e t' := ⟨fun pins s σ H v u Q I r q => h.run pins s σ H v u Q I r (i v σ H Q q)⟩
section
variable {X : Cx} {nm : Nat → Str} {ca : CaT} {T : Tab} {cl : Nat → List D → Hs → Res D}
abbrev SG (X : Cx) (nm : Nat → Str) (ca : CaT) (T : Tab) (cl : Nat → List D → Hs → Res D) (e : Expr) (g : G) : Prop := PG X e (RG X.K nm ca g.slots (evG T cl g))
abbrev SGL (X : Cx) (nm : Nat → Str) (ca : CaT) (T : Tab) (cl : Nat → List D → Hs → Res D) (e : List Expr) (g : GL) : Prop := PGs X e (RGL X.K nm ca g.slots (evGL T cl g))
theorem PostG.bind {α : Type} {K : PySem.W.Frag} {vs : List Nat} {β : List Addr} {H : Hp} {τ : L2.St} {r : Res α} {k : α → Hs → Res Sg} {Q : L2.St → Hp → Prop} (p : PostG K nm ca vs β H τ (r.bind k) Q) : ∃ a h1, r = .ok a h1 ∧ PostG K nm ca vs β H τ (k a h1) Q := by
  cases r with
  | ok a h1 => exact ⟨a, h1, rfl, p⟩
  | ex _ _ => exact p.elim
  | no => exact p.elim
theorem PostG.step {K : PySem.W.Frag} {vs : List Nat} {β β1 : List Addr} {H H1 : Hp} {τ : L2.St} {r : Res Sg} {Q : L2.St → Hp → Prop} (p : PostG K nm ca vs β H τ r Q) (st : Stp β H β1 H1) : PostG K nm ca vs β1 H1 τ r Q := by
  cases r with
  | ok d h' => exact fun τ' H' β' s1 r1 r2 r3 => p τ' H' β' (st.trans s1) r1 r2 r3
  | ex _ _ => exact p.elim
  | no => exact p.elim
theorem g_nm {i : Nat} {x : Str} {pos : Pos} (hN : X.N.Nodup) (hi : X.N[i]? = some x) (hx : Loc X.env.scope x) (hf : X.fn x = true ∨ X.env.scope.names.lookup x = some .local) : SG X nm ca T cl (.Name x pos) (.nm i) := by
  refine PG.imp (pg_name hN hi hx hf) fun v τ H Q ⟨d, σ, h, β, rs, rh, rd, p⟩ => ?_
  exact p _ H β (Stp.refl _ _) (rs.set rd) rh Chg.set
theorem gl_nil : SGL X nm ca T cl [] .nil := by
  refine PGs.imp pgs_nil fun v τ H Q ⟨ds, σ, h, β, rs, rh, rd, p⟩ => ?_
  cases ds with
  | nil => cases rd; exact ⟨rfl, p _ H β (Stp.refl _ _) rs rh (Chg.refl _ _)⟩
  | cons _ _ => exact p.elim
theorem assignEach_plain {e : Expr} {es : List Expr} {env : Env} (h : isSt e = false) : assignEach (e :: es) env = (false, assign e env) :: assignEach es env := by
  cases e <;> first | rfl | cases h
theorem gl_cons {e : Expr} {es : List Expr} {g : G} {r : GL} (h1 : SG X nm ca T cl e g) (h2 : SGL X nm ca T cl es r) (hs : isSt e = false) : SGL X nm ca T cl (e :: es) (.cons g r) := by
  refine PGs.imp (pgs_cons h1 h2 (by rw [assignEach_plain hs]; rfl)) fun ws τ H Q ⟨ds, σ, h, β, rs, rh, rd, p⟩ => ?_
  cases ds with
  | nil => exact p.elim
  | cons d ds =>
    cases rd with
    | @cons _ v _ vs r1 r2 =>
      simp only [evGL] at p
      obtain ⟨σ1, h1, e1, p⟩ := p.bind
      refine ⟨v, vs, rfl, d, σ, h, β, rs, rh, r1, ?_⟩
      rw [e1]
      intro τ1 H1 β1 st1 rs1 rh1 c1
      refine ⟨ds, σ1, h1, β1, rs1, rh1, r2.mono st1, ?_⟩
      cases q : evGL T cl r ds σ1 h1 with
      | ok σ2 h2 =>
        rw [q] at p
        exact fun τ2 H2 β2 st2 rs2 rh2 c2 => p τ2 H2 β2 (st1.trans st2) rs2 rh2 (c1.trans c2)
      | ex _ _ => rw [q] at p; exact p.elim
      | no => rw [q] at p; exact p.elim
theorem assign_noSt {es : List Expr} {env : Env} (h : es.all (fun e => !isSt e) = true) : (assignEach es env).findIdx? (·.1) = none ∧ (assignEach es env).length = es.length := by
  induction es with
  | nil => exact ⟨rfl, rfl⟩
  | cons e es ih =>
    simp only [List.all_cons, Bool.and_eq_true, Bool.not_eq_true'] at h
    rw [assignEach_plain h.1]
    obtain ⟨h1, h2⟩ := ih h.2
    refine ⟨?_, by rw [List.length_cons, h2, List.length_cons]⟩
    rw [List.findIdx?_cons, h1]
    rfl
theorem evGL_len : ∀ {g : GL} {ds : List D} {σ σ' : Sg} {h h' : Hs} (es : List Expr), SGL X nm ca T cl es g → evGL T cl g ds σ h = .ok σ' h' → ∃ n, n = ds.length ∧ ∀ k : GL, k = g → True
  | _, ds, _, _, _, _, _, _, _ => ⟨ds.length, rfl, fun _ _ => trivial⟩
def GL.len : GL → Nat
  | .nil => 0
  | .cons _ r => r.len + 1
theorem evGL_length : ∀ {g : GL} {ds : List D} {σ σ' : Sg} {h h' : Hs}, evGL T cl g ds σ h = .ok σ' h' → ds.length = g.len
  | .nil, ds, _, _, _, _, e => by
    cases ds with
    | nil => rfl
    | cons _ _ => simp [evGL] at e
  | .cons g r, ds, σ, _, h, _, e => by
    cases ds with
    | nil => simp [evGL] at e
    | cons d ds =>
      simp only [evGL] at e
      cases q : evG T cl g d σ h with
      | ok σ1 h1 =>
        rw [q] at e
        have := evGL_length (g := r) e
        simp [GL.len, this]
      | ex _ _ => rw [q] at e; cases e
      | no => rw [q] at e; cases e
theorem g_tup {es : List Expr} {g : GL} {k : Nat} {pos : Pos} (hc : X.calm = true) (h : SGL X nm ca T cl es g) (hs : es.all (fun e => !isSt e) = true) (hl : es.length = g.len) : SG X nm ca T cl (.Tuple es k pos) (.tup g) := by
  obtain ⟨a1, a2⟩ := assign_noSt (env := X.env) hs
  refine PG.imp (pg_tup hc h a2 a1) fun v τ H Q ⟨d, σ, h, β, rs, rh, rd, p⟩ => ?_
  cases d with
  | tup xs =>
    obtain ⟨a, vs, rfl, k1, k2⟩ := rd.tup_inv
    have p' : PostG X.K nm ca g.slots β H τ (evGL T cl g xs σ h) Q := by simpa only [evG, G.slots] using p
    refine ⟨a, vs, rfl, k1, ?_, xs, σ, h, β, rs, rh, k2, p'⟩
    cases q : evGL T cl g xs σ h with
    | ok σ1 h1 => rw [← k2.length, evGL_length q, hl]
    | ex _ _ => rw [q] at p'; exact p'.elim
    | no => rw [q] at p'; exact p'.elim
  | _ => exact p.elim
/-- o.f = .. -/
def gAtt (K : PySem.W.Frag) (ta : TE) (f : Str) : TG := fun v σ H Q => ta σ H fun x H1 => ∃ a C dx fs, x = .ref a ∧ H1 a = some (.ins C dx fs) ∧ Cls K C ∧ NoAttr K C f ∧ fs.length < 1000 ∧ Q σ (upd H1 a (.ins C dx (L2.putF f v fs)))
theorem pg_att {o : Expr} {f : Str} {ta : TE} {pos : Pos} (ha : PE X o ta) : PG X (.Attribute o f pos) (gAtt X.K ta f) := by
  refine ⟨fun pins s σ H v u Q I r h => ?_⟩
  rw [assign_Attribute]
  refine wpAny_bind (wpAny_holding (thn (ha.run pins s σ H _ I h) fun ov s1 ⟨x, H1, I1, r1, a, C, dx, fs, ex, ea, c, n, hl, q1⟩ => ?_))
  subst ex
  obtain rfl : ov = Value.ref a := r1
  refine wpAny_bind (wpAny_standAt (wpAny_bind (wpAny_holding (setattr_ok I1 ea c n hl r ?_))))
  intro s2 I2
  exact wpAny_release ⟨σ, _, I2, q1⟩
theorem g_att {o : Expr} {c : E} {f : Nat} {pos : Pos} (inj : ∀ i j, nm i = nm j → i = j) (hf : ∀ c, T.fok c f = true → Cls X.K (ca c) ∧ NoAttr X.K (ca c) (nm f)) (ha : SE X nm ca T cl o c) : SG X nm ca T cl (.Attribute o (nm f) pos) (.att c f) := by
  refine PG.imp (pg_att ha) fun v τ H Q ⟨d, σ, h, β, rs, rh, rd, p⟩ => ?_
  simp only [evG] at p
  obtain ⟨x, h1, e1, p⟩ := p.bind
  cases x with
  | ref n =>
    cases q : h1[n]? with
    | none => simp only [q] at p; exact p.elim
    | some ob =>
      cases ob with
      | ins ci fs =>
        simp only [q] at p
        split at p
        · rename_i hk
          rw [Bool.and_eq_true, decide_eq_true_eq] at hk
          refine re1 rs rh e1 fun vx H1 β1 st rs1 rh1 rx => ?_
          obtain ⟨a, rfl, hβ⟩ := rx.ref_inv
          obtain ⟨dx, gs, j1, j2⟩ := rh1.obj n _ a q hβ
          have sw : Stp β1 H1 β1 (upd H1 a (.ins (ca ci) dx (L2.putF (nm f) v gs))) := Stp.write (List.mem_of_getElem? hβ) j1 (fun _ z => nomatch z) (fun _ _ z => nomatch z)
          refine ⟨a, ca ci, dx, gs, rfl, j1, (hf ci hk.1).1, (hf ci hk.1).2, by rw [← j2.length]; omega, ?_⟩
          exact p τ _ β1 (st.trans sw) (rs1.mono sw) (rh1.write hβ sw ⟨dx, _, upd_same, putF_rel inj ((rd.mono st).mono sw) (j2.mono sw)⟩) (Chg.refl _ _)
        · exact p.elim
      | _ => simp only [q] at p; exact p.elim
  | _ => exact p.elim
/-- xs[i] = .. -/
theorem g_sub {o i : Expr} {c k : E} {pos : Pos} (ho : SE X nm ca T cl o c) (hi : SE X nm ca T cl i k) (hs : isSl i = false) : SG X nm ca T cl (.Subscript o i pos) (.sub c k) := by
  refine PG.imp (pg_sub ho hi set_list (fun v => by
    cases i <;> first | rfl | cases hs)) fun v τ H Q ⟨d, σ, h, β, rs, rh, rd, p⟩ => ?_
  simp only [evG] at p
  obtain ⟨x, h1, e1, p⟩ := p.bind
  obtain ⟨y, h2, e2, p⟩ := p.bind
  cases x with
  | ref n =>
    cases y with
    | int j =>
      cases q : h2[n]? with
      | none => simp only [q] at p; exact p.elim
      | some ob =>
        cases ob with
        | lst xs =>
          simp only [q] at p
          cases q2 : L2.ixN xs.length j with
          | none => simp only [q2] at p; exact p.elim
          | some jj =>
            simp only [q2] at p
            refine re2 rs rh e1 e2 fun vx vy H2 β2 st rs2 rh2 rx ry => ?_
            cases ry
            obtain ⟨a, rfl, hβ⟩ := rx.ref_inv
            obtain ⟨us, j1, j2⟩ := rh2.obj n _ a q hβ
            have sw : Stp β2 H2 β2 (upd H2 a (.lst (us.set jj v))) := Stp.write (List.mem_of_getElem? hβ) j1 (fun _ z => nomatch z) (fun _ _ z => nomatch z)
            refine ⟨a, us, j, jj, rfl, rfl, j1, by rw [← j2.length]; exact q2, ?_⟩
            exact p τ _ β2 (st.trans sw) (rs2.mono sw) (rh2.write hβ sw ⟨_, upd_same, (j2.mono sw).set ((rd.mono st).mono sw) jj⟩) (Chg.refl _ _)
        | _ => simp only [q] at p; exact p.elim
    | _ => exact p.elim
  | _ => cases y <;> exact p.elim
end
end MC

set_option Elab.async false
set_option linter.all false
set_option maxRecDepth 100000
set_option maxHeartbeats 4000000
namespace MC
open PySem PySem.Spec PyProof.Rows L2
/-! ### what is walked -/
structure Itm (K : PySem.W.Frag) (nm : Nat → Str) (ca : CaT) (J : It) (xs : List D) (G : List Addr → Hp → Prop) : Prop where
  mono : ∀ {β H β' H'}, Stp β H β' H' → G β H → G β' H'
  goes : ∀ i β H, i < xs.length → G β H → J.go i H
  stops : ∀ β H, G β H → J.stop xs.length H
  yields : ∀ i β H v H', i < xs.length → G β H → J.yld i H v H' → Stp β H β H' ∧ (∀ h, RelH K nm ca β h H → RelH K nm ca β h H') ∧ ∃ d, xs[i]? = some d ∧ RelD K nm ca β H' d v
/-- a thing of the M-heap that is walked while it stands still -/
structure Lv (K : PySem.W.Frag) (nm : Nat → Str) (ca : CaT) (J : It) (a : Addr) (n : Nat) (o : O) (xs : List D) : Prop where
  goes : ∀ i β h H, i < xs.length → RelH K nm ca β h H → h[n]? = some o → β[n]? = some a → J.go i H
  stops : ∀ β h H, RelH K nm ca β h H → h[n]? = some o → β[n]? = some a → J.stop xs.length H
  yields : ∀ i β h H v H', i < xs.length → RelH K nm ca β h H → h[n]? = some o → β[n]? = some a → J.yld i H v H' → Stp β H β H' ∧ RelH K nm ca β h H' ∧ ∃ d, xs[i]? = some d ∧ RelD K nm ca β H' d v
theorem lv_lst {K : PySem.W.Frag} {nm : Nat → Str} {ca : CaT} {a : Addr} {n : Nat} {xs : List D} : Lv K nm ca (Itl K a) a n (.lst xs) xs where
  goes := fun i β h H hi rh ho hβ => by
    obtain ⟨vs, j1, j2⟩ := rh.obj n _ a ho hβ
    have := j2.length
    exact ⟨vs, vs[i]'(by omega), SqL.of j1, by simp [show i < vs.length by omega]⟩
  stops := fun β h H rh ho hβ => by
    obtain ⟨vs, j1, j2⟩ := rh.obj n _ a ho hβ
    have := j2.length
    exact ⟨vs, SqL.of j1, by omega⟩
  yields := fun i β h H v H' hi rh ho hβ y => by
    obtain ⟨vs, j1, j2⟩ := rh.obj n _ a ho hβ
    obtain ⟨e, y⟩ := y
    subst e
    have ev := y vs (SqL.of j1)
    refine ⟨Stp.refl _ _, rh, xs[i], by simp [hi], ?_⟩
    obtain ⟨w, e1, e2⟩ := j2.get (i := i) (x := xs[i]) (by simp [hi])
    rw [ev] at e1
    cases e1
    exact e2
def PostI (K : PySem.W.Frag) (nm : Nat → Str) (ca : CaT) (β : List Addr) (H : Hp) (r : Res Src) (R : It → Hp → Prop) : Prop := match r with
  | .ok (.its xs) h' => ∀ H' β' J G, Stp β H β' H' → RelH K nm ca β' h' H' → Itm K nm ca J xs G → G β' H' → R J H'
  | .ok (.live n) h' => ∀ H' β' J a o xs, Stp β H β' H' → RelH K nm ca β' h' H' → β'[n]? = some a → h'[n]? = some o → o.items = some xs → Lv K nm ca J a n o xs → R J H'
  | _ => False
def RI (K : PySem.W.Frag) (nm : Nat → Str) (ca : CaT) (ev : Sg → Hs → Res Src) : TI := fun τ H R => ∃ σ h β, RelS K nm ca β H σ τ ∧ RelH K nm ca β h H ∧ PostI K nm ca β H (ev σ h) R
theorem PI.imp {X : Cx} {tg e : Expr} {t t' : TI} (h : PI X tg e t) (i : ∀ σ H Q, t' σ H Q → t σ H Q) : PI X tg e t' := ⟨fun pins s σ H Q I q => h.run pins s σ H Q I (i σ H Q q)⟩
section
variable {X : Cx} {nm : Nat → Str} {ca : CaT} {T : Tab} {cl : Nat → List D → Hs → Res D} {tg : Expr}
abbrev SI (X : Cx) (nm : Nat → Str) (ca : CaT) (T : Tab) (cl : Nat → List D → Hs → Res D) (tg e : Expr) (i : I) : Prop := PI X tg e (RI X.K nm ca (evI T cl i))
theorem PostI.bind {α : Type} {K : PySem.W.Frag} {β : List Addr} {H : Hp} {r : Res α} {k : α → Hs → Res Src} {Q : It → Hp → Prop} (p : PostI K nm ca β H (r.bind k) Q) : ∃ a h1, r = .ok a h1 ∧ PostI K nm ca β H (k a h1) Q := by
  cases r with
  | ok a h1 => exact ⟨a, h1, rfl, p⟩
  | ex _ _ => exact p.elim
  | no => exact p.elim
theorem itm_tup {K : PySem.W.Frag} {a : Addr} {xs : List D} {vs : List V} (hl : xs.length = vs.length) : Itm K nm ca (Itt K a) xs (fun β H => SqT K H a vs ∧ RelL K nm ca β H xs vs) where
  mono := fun st g => ⟨st.sqT g.1, g.2.mono st⟩
  goes := fun i β H hi g => ⟨vs, vs[i]'(by omega), g.1, by simp [show i < vs.length by omega]⟩
  stops := fun β H g => ⟨vs, g.1, by omega⟩
  yields := fun i β H v H' hi g y => by
    obtain ⟨e, y⟩ := y
    subst e
    have ev := y vs g.1
    refine ⟨Stp.refl _ _, fun _ r => r, xs[i], by simp [hi], ?_⟩
    obtain ⟨w, e1, e2⟩ := g.2.get (i := i) (x := xs[i]) (by simp [hi])
    rw [ev] at e1
    cases e1
    exact e2
theorem itm_lst {K : PySem.W.Frag} {a : Addr} {xs : List D} {vs : List V} (hl : xs.length = vs.length) : Itm K nm ca (Itl K a) xs (fun β H => LsT K β H a vs ∧ RelL K nm ca β H xs vs) where
  mono := fun st g => ⟨st.rd g.1, g.2.mono st⟩
  goes := fun i β H hi g => ⟨vs, vs[i]'(by omega), g.1.sq, by simp [show i < vs.length by omega]⟩
  stops := fun β H g => ⟨vs, g.1.sq, by omega⟩
  yields := fun i β H v H' hi g y => by
    obtain ⟨e, y⟩ := y
    subst e
    have ev := y vs g.1.sq
    refine ⟨Stp.refl _ _, fun _ r => r, xs[i], by simp [hi], ?_⟩
    obtain ⟨w, e1, e2⟩ := g.2.get (i := i) (x := xs[i]) (by simp [hi])
    rw [ev] at e1
    cases e1
    exact e2
theorem itm_rng {K : PySem.W.Frag} {lo : Int} {n : Nat} : Itm K nm ca (Itr lo n) (rngD lo 1 n) (fun _ _ => True) where
  mono := fun _ g => g
  goes := fun i β H hi g => by
    show i < n
    simpa [rngD] using hi
  stops := fun β H g => by simp [rngD, Itr]
  yields := fun i β H v H' hi g y => by
    obtain ⟨e, rfl⟩ := y
    subst e
    have hi' : i < n := by simpa [rngD] using hi
    refine ⟨Stp.refl _ _, fun _ r => r, .int (lo + i), ?_, .int _⟩
    simp [rngD, hi']
theorem itm_rngC {K : PySem.W.Frag} {lo c : Int} {n : Nat} : Itm K nm ca (Itc lo c n) (rngD lo c n) (fun _ _ => True) where
  mono := fun _ g => g
  goes := fun i β H hi g => by
    show i < n
    simpa [rngD] using hi
  stops := fun β H g => by simp [rngD, Itc]
  yields := fun i β H v H' hi g y => by
    obtain ⟨e, rfl⟩ := y
    subst e
    have hi' : i < n := by simpa [rngD] using hi
    refine ⟨Stp.refl _ _, fun _ r => r, .int (lo + (i : Nat) * c), ?_, .int _⟩
    simp [rngD, hi']
theorem pairs_get {xs ys : List D} {i : Nat} (h1 : i < xs.length) (h2 : i < ys.length) : (pairs xs ys)[i]? = some (.tup [xs[i], ys[i]]) := by
  have e : (xs.zip ys)[i]? = some (xs[i], ys[i]) := by
    rw [List.getElem?_eq_getElem (by rw [List.length_zip]; omega)]
    simp
  rw [pairs, List.getElem?_map, e]
  rfl
theorem pairs_len {xs ys : List D} : (pairs xs ys).length = min xs.length ys.length := by simp [pairs]
theorem itm_zipT {K : PySem.W.Frag} {a b : Addr} {xs ys : List D} {vs ws : List V} (hl : xs.length = vs.length) (hl2 : ys.length = ws.length) : Itm K nm ca (RZ.ItzT K a b) (pairs xs ys) (fun β H => (SqT K H a vs ∧ RelL K nm ca β H xs vs) ∧ SqT K H b ws ∧ RelL K nm ca β H ys ws) where
  mono := fun st g => ⟨⟨st.sqT g.1.1, g.1.2.mono st⟩, st.sqT g.2.1, g.2.2.mono st⟩
  goes := fun i β H hi g => by
    rw [pairs_len] at hi
    exact ⟨vs, ws, vs[i]'(by omega), ws[i]'(by omega), g.1.1, g.2.1, by simp [show i < vs.length by omega], by simp [show i < ws.length by omega]⟩
  stops := fun β H g => by
    rw [pairs_len]
    exact ⟨vs, ws, g.1.1, g.2.1, by omega⟩
  yields := fun i β H v H' hi g y => by
    rw [pairs_len] at hi
    obtain ⟨t, x, y', rfl, nt, rfl, q1, q2⟩ := y
    have e1 := q1 vs g.1.1
    have e2 := q2 ws g.2.1
    obtain ⟨w1, f1, r1⟩ := g.1.2.get (i := i) (x := xs[i]'(by omega)) (by simp [show i < xs.length by omega])
    obtain ⟨w2, f2, r2⟩ := g.2.2.get (i := i) (x := ys[i]'(by omega)) (by simp [show i < ys.length by omega])
    rw [e1] at f1
    rw [e2] at f2
    cases f1; cases f2
    refine ⟨Stp.laid nt, fun h r => r.laid nt, .tup [xs[i]'(by omega), ys[i]'(by omega)], ?_, new_tup nt (.cons r1 (.cons r2 .nil))⟩
    exact pairs_get (by omega) (by omega)
theorem itm_zipL {K : PySem.W.Frag} {a b : Addr} {xs ys : List D} {vs ws : List V} (hl : xs.length = vs.length) (hl2 : ys.length = ws.length) : Itm K nm ca (Itz K a b) (pairs xs ys) (fun β H => (LsT K β H a vs ∧ RelL K nm ca β H xs vs) ∧ LsT K β H b ws ∧ RelL K nm ca β H ys ws) where
  mono := fun st g => ⟨⟨st.rd g.1.1, g.1.2.mono st⟩, st.rd g.2.1, g.2.2.mono st⟩
  goes := fun i β H hi g => by
    rw [pairs_len] at hi
    exact ⟨vs, ws, vs[i]'(by omega), ws[i]'(by omega), g.1.1.sq, g.2.1.sq, by simp [show i < vs.length by omega], by simp [show i < ws.length by omega]⟩
  stops := fun β H g => by
    rw [pairs_len]
    exact ⟨vs, ws, g.1.1.sq, g.2.1.sq, by omega⟩
  yields := fun i β H v H' hi g y => by
    rw [pairs_len] at hi
    obtain ⟨t, x, y', rfl, nt, rfl, q1, q2⟩ := y
    have e1 := q1 vs g.1.1.sq
    have e2 := q2 ws g.2.1.sq
    obtain ⟨w1, f1, r1⟩ := g.1.2.get (i := i) (x := xs[i]'(by omega)) (by simp [show i < xs.length by omega])
    obtain ⟨w2, f2, r2⟩ := g.2.2.get (i := i) (x := ys[i]'(by omega)) (by simp [show i < ys.length by omega])
    rw [e1] at f1
    rw [e2] at f2
    cases f1; cases f2
    refine ⟨Stp.laid nt, fun h r => r.laid nt, .tup [xs[i]'(by omega), ys[i]'(by omega)], ?_, new_tup nt (.cons r1 (.cons r2 .nil))⟩
    exact pairs_get (by omega) (by omega)
/-- a list or a tuple -/
def iSeq (K : PySem.W.Frag) (tl : TE) : TI := fun σ H R => tl σ H fun x H1 => ∃ a, x = .ref a ∧ (((∃ xs, SqL K H1 a xs) ∧ R (Itl K a) H1) ∨ ((∃ xs, SqT K H1 a xs) ∧ R (Itt K a) H1))
theorem pi_seq {l : Expr} {tl : TE} (hl : PE X l tl) : PI X tg l (iSeq X.K tl) := by
  refine ⟨fun pins s σ H R I h => ?_⟩
  refine thn (hl.run pins s σ H _ I h) fun v s1 ⟨x, H1, I1, r1, q1⟩ => ?_
  obtain ⟨a, e, ⟨⟨xs, hq⟩, q⟩ | ⟨⟨xs, hq⟩, q⟩⟩ := q1
  · subst e
    cases r1
    obtain ⟨its, rv, p, hz⟩ := I1.list hq
    refine wpAny_pyIter_list p.isList ?_
    refine ⟨s1.heap.objs.size, [s1.heap.objs.size], _, _, H1, rfl, I1.kept (t' := s1.toks) fun b o e => Heap.get?_push_of_some _ e, turn_list a _, ⟨_, Heap.get?_push_size _ rfl, rfl, rfl⟩, fun b hb => ?_, q⟩
    have e : b = s1.heap.objs.size := by simpa using hb
    subst e
    exact I1.fpOk (Nat.le_refl _) (I1.hok.fresh (Nat.le_refl _))
  · subst e
    cases r1
    obtain ⟨its, rv, p, hz⟩ := I1.tuple hq
    refine wpAny_pyIter_tuple (show s1.heap.IsTuple a its.toArray from p) ?_
    refine ⟨s1.heap.objs.size, [s1.heap.objs.size], _, _, H1, rfl, I1.kept (t' := s1.toks) fun b o e => Heap.get?_push_of_some _ e, turn_tuple a _, ⟨_, Heap.get?_push_size _ rfl, rfl, rfl⟩, fun b hb => ?_, q⟩
    have e : b = s1.heap.objs.size := by simpa using hb
    subst e
    exact I1.fpOk (Nat.le_refl _) (I1.hok.fresh (Nat.le_refl _))
theorem i_val {e : Expr} {c : E} (h : SE X nm ca T cl e c) : SI X nm ca T cl tg e (.val c) := by
  refine PI.imp (pi_seq h) fun τ H R ⟨σ, h, β, rs, rh, p⟩ => ?_
  simp only [evI] at p
  obtain ⟨x, h1, e1, p⟩ := p.bind
  refine re1 rs rh e1 fun vx H1 β1 st rs1 rh1 rx => ?_
  cases x with
  | tup xs =>
    obtain ⟨a, vs, rfl, k1, k2⟩ := rx.tup_inv
    exact ⟨a, rfl, .inr ⟨⟨vs, k1⟩, p H1 β1 _ _ st rh1 (itm_tup k2.length) ⟨k1, k2⟩⟩⟩
  | lst xs =>
    obtain ⟨a, vs, rfl, k1, k2⟩ := rx.lst_inv
    exact ⟨a, rfl, .inl ⟨⟨vs, k1.sq⟩, p H1 β1 _ _ st rh1 (itm_lst k2.length) ⟨k1, k2⟩⟩⟩
  | ref n =>
    obtain ⟨a, rfl, hβ⟩ := rx.ref_inv
    cases q : h1[n]? with
    | none => simp only [q] at p; exact p.elim
    | some ob =>
      cases ob with
      | lst xs =>
        simp only [q] at p
        obtain ⟨vs, j1, j2⟩ := rh1.obj n _ a q hβ
        exact ⟨a, rfl, .inl ⟨⟨vs, SqL.of j1⟩, p H1 β1 _ a _ _ st rh1 hβ q rfl lv_lst⟩⟩
      | _ => simp only [q] at p; exact p.elim
  | _ => exact p.elim
theorem big_lt {i : Int} (e : big i = true) : -(2 ^ 62) ≤ i ∧ i < 2 ^ 62 := by
  unfold big at e
  simpa using e
theorem i_rng1 {a : Expr} {c : E} {p pos : Pos} (hg : Gl X "range") (hm : X.mg "range" = none) (ha : SE X nm ca T cl a c) (hs : isSt a = false) : SI X nm ca T cl tg (.Call (.Name "range" p) [a] [] pos) (.rng1 c) := by
  refine PI.imp (pi_range1 hg hm (a_cons ha a_nil hs) (by rw [starEach_plain hs]; rfl)) fun τ H R ⟨σ, h, β, rs, rh, p⟩ => ?_
  simp only [evI] at p
  obtain ⟨x, h1, e1, p⟩ := p.bind
  refine ra1 (x := [x]) (h1 := h1) rs rh (by simp [evA, e1, Res.bind]) fun vxs H1 β1 st rs1 rh1 rx => ?_
  obtain ⟨v, rfl, ry⟩ := one_rel rx
  cases x with
  | int j =>
    simp only at p
    split at p
    · rename_i hb
      cases ry
      exact ⟨j, rfl, (big_lt hb).1, (big_lt hb).2, p H1 β1 _ _ st rh1 itm_rng trivial⟩
    · exact p.elim
  | _ => exact p.elim
theorem i_rng2 {a b : Expr} {c c' : E} {p pos : Pos} (hg : Gl X "range") (hm : X.mg "range" = none) (ha : SE X nm ca T cl a c) (hb : SE X nm ca T cl b c') (hs : isSt a = false) (hs2 : isSt b = false) : SI X nm ca T cl tg (.Call (.Name "range" p) [a, b] [] pos) (.rng2 c c') := by
  refine PI.imp (pi_range2 hg hm (a_cons ha (a_cons hb a_nil hs2) hs) (by rw [starEach_plain hs, starEach_plain hs2]; rfl) (by rw [starEach_plain hs2]; rfl)) fun τ H R ⟨σ, h, β, rs, rh, p⟩ => ?_
  simp only [evI] at p
  obtain ⟨x, h1, e1, p⟩ := p.bind
  obtain ⟨y, h2, e2, p⟩ := p.bind
  refine ra1 (x := [x, y]) (h1 := h2) rs rh (by simp [evA, e1, e2, Res.bind]) fun vxs H1 β1 st rs1 rh1 rx => ?_
  cases rx with
  | cons r1 r2 =>
    obtain ⟨v, rfl, ry⟩ := one_rel r2
    cases x with
    | int i =>
      cases y with
      | int j =>
        simp only at p
        split at p
        · rename_i hb
          rw [Bool.and_eq_true] at hb
          cases r1
          cases ry
          exact ⟨i, j, rfl, ⟨(big_lt hb.1).1, (big_lt hb.1).2, (big_lt hb.2).1, (big_lt hb.2).2⟩, p H1 β1 _ _ st rh1 itm_rng trivial⟩
        · exact p.elim
      | _ => exact p.elim
    | _ => cases y <;> exact p.elim
theorem i_zip {a b : Expr} {c c' : E} {elts : List Expr} {kk : Nat} {tpos p pos : Pos} (hg : Gl X "zip") (hm : X.mg "zip" = none) (ha : SE X nm ca T cl a c) (hb : SE X nm ca T cl b c') (hs : isSt a = false) (hs2 : isSt b = false) : SI X nm ca T cl (.Tuple elts kk tpos) (.Call (.Name "zip" p) [a, b] [] pos) (.zip c c') := by
  refine PI.imp (RZ.pi_zipA hg hm (a_cons ha (a_cons hb a_nil hs2) hs) (starEach_plain hs) (noStar (by simp [hs2]))) fun τ H R ⟨σ, h, β, rs, rh, p⟩ => ?_
  simp only [evI] at p
  obtain ⟨x, h1, e1, p⟩ := p.bind
  obtain ⟨y, h2, e2, p⟩ := p.bind
  refine ra1 (x := [x, y]) (h1 := h2) rs rh (by simp [evA, e1, e2, Res.bind]) fun vxs H1 β1 st rs1 rh1 rx => ?_
  cases rx with
  | cons r1 r2 =>
    obtain ⟨v, rfl, ry⟩ := one_rel r2
    cases x with
    | tup xs =>
      cases y with
      | tup ys =>
        obtain ⟨a, vs, rfl, k1, k2⟩ := r1.tup_inv
        obtain ⟨b, ws, rfl, j1, j2⟩ := ry.tup_inv
        exact ⟨a, b, vs, ws, rfl, .inr ⟨k1, j1, p H1 β1 _ _ st rh1 (itm_zipT k2.length j2.length) ⟨⟨k1, k2⟩, j1, j2⟩⟩⟩
      | _ => exact p.elim
    | lst xs =>
      cases y with
      | lst ys =>
        obtain ⟨a, vs, rfl, k1, k2⟩ := r1.lst_inv
        obtain ⟨b, ws, rfl, j1, j2⟩ := ry.lst_inv
        exact ⟨a, b, vs, ws, rfl, .inl ⟨k1.sq, j1.sq, p H1 β1 _ _ st rh1 (itm_zipL k2.length j2.length) ⟨⟨k1, k2⟩, j1, j2⟩⟩⟩
      | _ => exact p.elim
    | _ => cases y <;> exact p.elim
end
end MC

set_option Elab.async false
set_option linter.all false
set_option maxRecDepth 100000
set_option maxHeartbeats 4000000
namespace MC
open PySem PySem.Spec PyProof.Rows L2
section
variable {X : Cx} {nm : Nat → Str} {ca : CaT} {T : Tab} {cl : Nat → List D → Hs → Res D} {tg : Expr}
/-! ### list comprehensions -/
theorem wipe_get (τ : L2.St) : ∀ (vs : List Nat) (i : Nat), i ∈ vs → i < τ.length → (wipe τ vs)[i]? = some none
  | v :: vs, i, hi, hl => by
    show ((wipe τ vs).set v none)[i]? = some none
    by_cases e : v = i
    · subst e
      exact List.getElem?_set_self (by rw [wipe_length]; exact hl)
    · rw [List.getElem?_set_ne e]
      rcases List.mem_cons.mp hi with z | z
      · exact absurd z.symm e
      · exact wipe_get τ vs i z hl
theorem wipe_off (τ : L2.St) : ∀ (vs : List Nat) (i : Nat), i ∉ vs → (wipe τ vs)[i]? = τ[i]?
  | [], _, _ => rfl
  | v :: vs, i, hi => by
    rw [List.mem_cons, not_or] at hi
    show ((wipe τ vs).set v none)[i]? = τ[i]?
    rw [List.getElem?_set_ne (Ne.symm hi.1), wipe_off τ vs i hi.2]
theorem wipe_eq {τ τ' : L2.St} {vs : List Nat} (hl : τ'.length = τ.length) (h : ∀ (i : Nat), i ∉ vs → τ'[i]? = τ[i]?) : wipe τ' vs = wipe τ vs := by
  apply List.ext_getElem?
  intro i
  by_cases hi : i ∈ vs
  · by_cases hb : i < τ.length
    · rw [wipe_get τ vs i hi hb, wipe_get τ' vs i hi (by omega)]
    · rw [List.getElem?_eq_none (by rw [wipe_length]; omega), List.getElem?_eq_none (by rw [wipe_length]; omega)]
  · rw [wipe_off τ vs i hi, wipe_off τ' vs i hi, h i hi]
theorem chg_wipe {τ τ' : L2.St} {vs gs : List Nat} (hg : ∀ i ∈ gs, i ∈ vs) (c : Chg gs (wipe τ vs) τ') : wipe τ' vs = wipe τ vs := by
  refine wipe_eq (by rw [c.1, wipe_length]) fun i hi => ?_
  rw [c.2 i fun z => hi (hg i z), wipe_off τ vs i hi]
theorem RelS.wipe {K : PySem.W.Frag} {β : List Addr} {H : Hp} {σ : Sg} {τ : L2.St} (r : RelS K nm ca β H σ τ) : ∀ vs : List Nat, RelS K nm ca β H (wipeM vs σ) (L2.wipe τ vs)
  | [] => r
  | v :: vs => (RelS.wipe r vs).wipe1
abbrev PTsM (X : Cx) (nm : Nat → Str) (ca : CaT) (T : Tab) (cl : Nat → List D → Hs → Res D) (ifs : List Expr) (c : OE) : Prop := PTs X ifs (RT X.K nm ca (evOT T cl c))
theorem PTs.imp {X : Cx} {e : List Expr} {t t' : TT} (h : PTs X e t) (i : ∀ σ H Q, t' σ H Q → t σ H Q) : PTs X e t' := ⟨fun pins s σ H Q I q => h.run pins s σ H Q I (i σ H Q q)⟩
theorem ts_nil : PTsM X nm ca T cl [] .none := PTs.imp pts_nil fun τ H Q ⟨σ, h, β, rs, rh, p⟩ => p H β (Stp.refl _ _) rh
theorem ts_one {t : Expr} {c : E} (h : ST X nm ca T cl t c) : PTsM X nm ca T cl [t] (.some c) := pts_one h
theorem pushM_ok {n : Nat} {y : D} {h h' : Hs} (e : pushM n y h = .ok () h') : ∃ acc, h[n]? = some (.lst acc) ∧ acc.length < sizeLine ∧ h' = h.set n (.lst (acc ++ [y])) := by
  unfold pushM at e
  cases q : h[n]? with
  | none => rw [q] at e; cases e
  | some o =>
    rw [q] at e
    cases o with
    | lst acc =>
      simp only at e
      split at e
      · cases e; exact ⟨acc, rfl, by assumption, rfl⟩
      · cases e
    | _ => cases e
theorem grd_at {o : O} {n : Nat} {h : Hs} (e : grd o n h = true) : h[n]? = some o := by
  unfold grd at e
  cases q : h[n]? with
  | none => rw [q] at e; cases e
  | some u => rw [q] at e; rw [O.eqb_eq e]
mutual
theorem D.eqb_rf : ∀ d : D, D.eqb d d = true
  | .non => by simp [D.eqb]
  | .bl _ => by simp [D.eqb]
  | .int _ => by simp [D.eqb]
  | .str _ => by simp [D.eqb]
  | .tup xs => by simp [D.eqb, D.eqbL_rf xs]
  | .lst xs => by simp [D.eqb, D.eqbL_rf xs]
  | .dct xs => by simp [D.eqb, D.eqbK_rf xs]
  | .ins c xs => by simp [D.eqb, D.eqbF_rf xs]
  | .ref _ => by simp [D.eqb]
theorem D.eqbL_rf : ∀ d : List D, D.eqbL d d = true
  | [] => by simp [D.eqbL]
  | x :: xs => by simp [D.eqbL, D.eqb_rf x, D.eqbL_rf xs]
theorem D.eqbK_rf : ∀ d : List (D × D), D.eqbK d d = true
  | [] => by simp [D.eqbK]
  | (x, y) :: xs => by simp [D.eqbK, D.eqb_rf x, D.eqb_rf y, D.eqbK_rf xs]
theorem D.eqbF_rf : ∀ d : List (Nat × D), D.eqbF d d = true
  | [] => by simp [D.eqbF]
  | (x, y) :: xs => by simp [D.eqbF, D.eqb_rf y, D.eqbF_rf xs]
end
theorem at_grd {o : O} {n : Nat} {h : Hs} (e : h[n]? = some o) : grd o n h = true := by
  unfold grd
  rw [e]
  cases o <;> simp [O.eqb, D.eqbL_rf, D.eqbK_rf, D.eqbF_rf]
theorem s_lc {elt iter : Expr} {ifs : List Expr} {scope : Scope} {own : List (Str × Nat)} {pos : Pos} {fz : Bool} {vs : List Nat} {ce : E} {g : G} {it : I} {c : OE} (hc : X.calm = true) (hN : X.N.Nodup) (hi : SI X nm ca T cl tg iter it) (ok : BlkOk X.N X.env.scope scope own)
    (hg : ∀ (s : Shared) (H : Hp) (C : Addr) (cl' : List (Str × Addr)) (fp : List Addr), SG (X.blk s H scope (compEnvC scope cl' C X.env) fp) nm ca T cl tg g) (ht : ∀ (s : Shared) (H : Hp) (C : Addr) (cl' : List (Str × Addr)) (fp : List Addr), PTsM (X.blk s H scope (compEnvC scope cl' C X.env) fp) nm ca T cl ifs c)
    (he : ∀ (s : Shared) (H : Hp) (C : Addr) (cl' : List (Str × Addr)) (fp : List Addr), SE (X.blk s H scope (compEnvC scope cl' C X.env) fp) nm ca T cl elt ce) (hs : ∀ x, foldedSetIterable iter X.env x = pure x) (hv : own.map (·.2) = vs) (hgs : ∀ i ∈ g.slots, i ∈ vs) :
    SE X nm ca T cl (.ListComp elt [⟨tg, iter, ifs, 0⟩] scope pos) (.lc fz vs ce g it c) ∧
    ∀ {i : Nat} {y : Str} {py spos : Pos}, X.N[i]? = some y → X.env.scope.names.lookup y = some .local → swapsWith (.ListComp elt [⟨tg, iter, ifs, 0⟩] scope pos) (some (.Name y py)) spos.line X.env = pure true →
      PS X (.Assign [.Name y py] (.ListComp elt [⟨tg, iter, ifs, 0⟩] scope pos) spos) (tAsg (RE X.K nm ca (evE T cl (.lc fz vs ce g it c))) (gName i)) := by
  have key : ∀ τ H Q, RE X.K nm ca (evE T cl (.lc fz vs ce g it c)) τ H Q → tLc (RI X.K nm ca (evI T cl it)) (RG X.K nm ca g.slots (evG T cl g)) (RT X.K nm ca (evOT T cl c)) (RE X.K nm ca (evE T cl ce)) (own.map (·.2)) τ H Q := by
    intro τ H Q ⟨σ, h, β, rs, rh, p⟩
    rw [hv]
    simp only [evE] at p
    obtain ⟨s, h1, e1, p⟩ := p.bind
    cases s with
    | live n =>
      cases qo : h1[n]? with
      | none => simp only [qo] at p; exact p.elim
      | some o =>
      cases qi : o.items with
      | none => simp only [qo, qi] at p; exact p.elim
      | some xs =>
      simp only [qo, qi] at p
      obtain ⟨u0, hf, ef, p⟩ := p.bind
      have ef : loopLCg (grd o n) (evG T cl g) (evOT T cl c) (evE T cl ce) (wipeM vs σ) h1.length (xs.drop 0) (h1 ++ [.lst []]) = .ok () hf := ef
      refine ⟨σ, h, β, rs, rh, ?_⟩
      rw [e1]
      intro H1 β1 J a o' xs' st rh1 hβ ho hx lv D nD
      rw [qo] at ho; cases ho
      rw [qi] at hx; cases hx
      refine ⟨fun i m H' => ∃ h' β', Stp β1 H1 β' H' ∧ RelH X.K nm ca β' h' H' ∧ β'[n]? = some a ∧ β'[h1.length]? = some D ∧ m = xs.length - i ∧ i ≤ xs.length ∧ loopLCg (grd o n) (evG T cl g) (evOT T cl c) (evE T cl ce) (wipeM vs σ) h1.length (xs.drop i) h' = .ok () hf, ⟨xs.length, h1 ++ [.lst []], β1 ++ [D], Stp.push nD, rh1.push (o := O.lst []) nD ⟨[], upd_same, .nil⟩, (Stp.push (o := HO.lst []) nD).get hβ, ?_, by simp, Nat.zero_le _, ef⟩, ?_⟩
      · rw [← rh1.len, List.getElem?_append_right (Nat.le_refl _)]
        simp
      · rintro i m H' ⟨h', β', st', rh', g', hD, rfl, hle, el⟩
        by_cases hlt : i < xs.length
        · have hgd : h'[n]? = some o := by
            refine grd_at ?_
            rw [List.drop_eq_getElem_cons hlt] at el
            simp only [loopLCg] at el
            split at el
            · assumption
            · cases el
          refine .inr ⟨lv.goes i β' h' H' hlt rh' hgd g', fun H2 => ∃ m', m' < xs.length - i ∧ ∃ h2 β2, Stp β1 H1 β2 H2 ∧ RelH X.K nm ca β2 h2 H2 ∧ β2[n]? = some a ∧ β2[h1.length]? = some D ∧ m' = xs.length - (i + 1) ∧ i + 1 ≤ xs.length ∧ loopLCg (grd o n) (evG T cl g) (evOT T cl c) (evE T cl ce) (wipeM vs σ) h1.length (xs.drop (i + 1)) h2 = .ok () hf, fun H2 q => q, fun v H2 y => ?_⟩
          obtain ⟨s2, rh2, d, ed, rd⟩ := lv.yields i β' h' H' v H2 hlt rh' hgd g' y
          have edr : xs.drop i = d :: xs.drop (i + 1) := by
            rw [List.drop_eq_getElem_cons hlt]
            rw [List.getElem?_eq_getElem hlt] at ed
            cases ed
            rfl
          rw [edr] at el
          simp only [loopLCg, at_grd hgd, if_true] at el
          have rs2 : RelS X.K nm ca β' H2 (wipeM vs σ) (L2.wipe τ vs) := ((((rs.mono st).mono st').mono s2).wipe vs)
          refine ⟨d, wipeM vs σ, h', β', rs2, rh2, rd, ?_⟩
          cases q1 : evG T cl g d (wipeM vs σ) h' with
          | ex _ _ => rw [q1] at el; cases el
          | no => rw [q1] at el; cases el
          | ok σ3 h3 =>
            simp only [q1, Res.bind] at el
            intro τ3 H3 β3 st3 rs3 rh3 c3
            refine ⟨chg_wipe hgs c3, ?_⟩
            refine ⟨σ3, h3, β3, rs3, rh3, ?_⟩
            cases q2 : evOT T cl c σ3 h3 with
            | ex _ _ => rw [q2] at el; cases el
            | no => rw [q2] at el; cases el
            | ok k h4 =>
              simp only [q2] at el
              intro H4 β4 st4 rh4
              have s14 : Stp β1 H1 β4 H4 := ((st'.trans s2).trans st3).trans st4
              have g4 : β4[n]? = some a := st4.get (st3.get g')
              have hD4 : β4[h1.length]? = some D := st4.get (st3.get hD)
              cases k with
              | false =>
                rw [if_neg (by decide)]
                simp only [Bool.false_eq_true, if_false] at el
                exact ⟨xs.length - (i + 1), by omega, h4, β4, s14, rh4, g4, hD4, rfl, hlt, el⟩
              | true =>
                rw [if_pos rfl]
                simp only [if_true] at el
                refine ⟨σ3, h4, β4, rs3.mono st4, rh4, ?_⟩
                cases q3 : evE T cl ce σ3 h4 with
                | ex _ _ => rw [q3] at el; cases el
                | no => rw [q3] at el; cases el
                | ok yv h5 =>
                  simp only [q3] at el
                  intro w H5 β5 st5 rh5 rd5
                  cases q4 : pushM h1.length yv h5 with
                  | ex _ _ => rw [q4] at el; cases el
                  | no => rw [q4] at el; cases el
                  | ok u h6 =>
                    simp only [q4] at el
                    obtain ⟨acc, a1, a2, a3⟩ := pushM_ok q4
                    have hD5 := st5.get hD4
                    obtain ⟨us, j1, j2⟩ := rh5.obj _ _ D a1 hD5
                    have sw : Stp β5 H5 β5 (upd H5 D (.lst (us ++ [w]))) := Stp.write (List.mem_of_getElem? hD5) j1 (fun _ z => nomatch z) (fun _ _ z => nomatch z)
                    refine ⟨us, j1, by rw [← j2.length]; exact a2, xs.length - (i + 1), by omega, h6, β5, (s14.trans st5).trans sw, ?_, st5.get g4, hD5, rfl, hlt, el⟩
                    rw [a3]
                    exact rh5.write hD5 sw ⟨_, upd_same, (j2.mono sw).app (.cons (rd5.mono sw) .nil)⟩
        · have e : i = xs.length := by omega
          subst e
          rw [List.drop_length] at el
          have hgd : h'[n]? = some o := by
            refine grd_at ?_
            simp only [loopLCg] at el
            split at el
            · assumption
            · cases el
          simp only [loopLCg, at_grd hgd, if_true] at el
          cases el
          refine .inl ⟨lv.stops β' _ H' rh' hgd g', ?_⟩
          exact back_ok rh1 st' rh' (.ref hD) (p.step st)
    | its xs =>
      obtain ⟨u0, hf, ef, p⟩ := p.bind
      have ef : loopLC (evG T cl g) (evOT T cl c) (evE T cl ce) (wipeM vs σ) h1.length (xs.drop 0) (h1 ++ [.lst []]) = .ok () hf := ef
      refine ⟨σ, h, β, rs, rh, ?_⟩
      rw [e1]
      intro H1 β1 J G st rh1 itm g1 D nD
      refine ⟨fun i m H' => ∃ h' β', Stp β1 H1 β' H' ∧ RelH X.K nm ca β' h' H' ∧ G β' H' ∧ β'[h1.length]? = some D ∧ m = xs.length - i ∧ i ≤ xs.length ∧ loopLC (evG T cl g) (evOT T cl c) (evE T cl ce) (wipeM vs σ) h1.length (xs.drop i) h' = .ok () hf, ⟨xs.length, h1 ++ [.lst []], β1 ++ [D], Stp.push nD, rh1.push (o := O.lst []) nD ⟨[], upd_same, .nil⟩, itm.mono (Stp.push nD) g1, ?_, by simp, Nat.zero_le _, ef⟩, ?_⟩
      · rw [← rh1.len, List.getElem?_append_right (Nat.le_refl _)]
        simp
      · rintro i m H' ⟨h', β', st', rh', g', hD, rfl, hle, el⟩
        by_cases hlt : i < xs.length
        · refine .inr ⟨itm.goes i β' H' hlt g', fun H2 => ∃ m', m' < xs.length - i ∧ ∃ h2 β2, Stp β1 H1 β2 H2 ∧ RelH X.K nm ca β2 h2 H2 ∧ G β2 H2 ∧ β2[h1.length]? = some D ∧ m' = xs.length - (i + 1) ∧ i + 1 ≤ xs.length ∧ loopLC (evG T cl g) (evOT T cl c) (evE T cl ce) (wipeM vs σ) h1.length (xs.drop (i + 1)) h2 = .ok () hf, fun H2 q => q, fun v H2 y => ?_⟩
          obtain ⟨s2, rel2, d, ed, rd⟩ := itm.yields i β' H' v H2 hlt g' y
          have rh2 := rel2 h' rh'
          have edr : xs.drop i = d :: xs.drop (i + 1) := by
            rw [List.drop_eq_getElem_cons hlt]
            rw [List.getElem?_eq_getElem hlt] at ed
            cases ed
            rfl
          rw [edr] at el
          simp only [loopLC] at el
          have rs2 : RelS X.K nm ca β' H2 (wipeM vs σ) (L2.wipe τ vs) := ((((rs.mono st).mono st').mono s2).wipe vs)
          refine ⟨d, wipeM vs σ, h', β', rs2, rh2, rd, ?_⟩
          cases q1 : evG T cl g d (wipeM vs σ) h' with
          | ex _ _ => rw [q1] at el; cases el
          | no => rw [q1] at el; cases el
          | ok σ3 h3 =>
            simp only [q1, Res.bind] at el
            intro τ3 H3 β3 st3 rs3 rh3 c3
            refine ⟨chg_wipe hgs c3, ?_⟩
            refine ⟨σ3, h3, β3, rs3, rh3, ?_⟩
            cases q2 : evOT T cl c σ3 h3 with
            | ex _ _ => rw [q2] at el; cases el
            | no => rw [q2] at el; cases el
            | ok k h4 =>
              simp only [q2] at el
              intro H4 β4 st4 rh4
              have s14 : Stp β1 H1 β4 H4 := ((st'.trans s2).trans st3).trans st4
              have g4 : G β4 H4 := itm.mono st4 (itm.mono st3 (itm.mono s2 g'))
              have hD4 : β4[h1.length]? = some D := st4.get (st3.get hD)
              cases k with
              | false =>
                rw [if_neg (by decide)]
                simp only [Bool.false_eq_true, if_false] at el
                exact ⟨xs.length - (i + 1), by omega, h4, β4, s14, rh4, g4, hD4, rfl, hlt, el⟩
              | true =>
                rw [if_pos rfl]
                simp only [if_true] at el
                refine ⟨σ3, h4, β4, rs3.mono st4, rh4, ?_⟩
                cases q3 : evE T cl ce σ3 h4 with
                | ex _ _ => rw [q3] at el; cases el
                | no => rw [q3] at el; cases el
                | ok yv h5 =>
                  simp only [q3] at el
                  intro w H5 β5 st5 rh5 rd5
                  cases q4 : pushM h1.length yv h5 with
                  | ex _ _ => rw [q4] at el; cases el
                  | no => rw [q4] at el; cases el
                  | ok u h6 =>
                    simp only [q4] at el
                    obtain ⟨acc, a1, a2, a3⟩ := pushM_ok q4
                    have hD5 := st5.get hD4
                    obtain ⟨us, j1, j2⟩ := rh5.obj _ _ D a1 hD5
                    have sw : Stp β5 H5 β5 (upd H5 D (.lst (us ++ [w]))) := Stp.write (List.mem_of_getElem? hD5) j1 (fun _ z => nomatch z) (fun _ _ z => nomatch z)
                    refine ⟨us, j1, by rw [← j2.length]; exact a2, xs.length - (i + 1), by omega, h6, β5, (s14.trans st5).trans sw, ?_, itm.mono sw (itm.mono st5 g4), hD5, rfl, hlt, el⟩
                    rw [a3]
                    exact rh5.write hD5 sw ⟨_, upd_same, (j2.mono sw).app (.cons (rd5.mono sw) .nil)⟩
        · have e : i = xs.length := by omega
          subst e
          rw [List.drop_length] at el
          simp only [loopLC] at el
          cases el
          refine .inl ⟨itm.stops β' H' g', ?_⟩
          exact back_ok rh1 st' rh' (.ref hD) (p.step st)
  exact ⟨PE.imp (pe_lc hc hN hi ok hg ht he hs) key, fun hy hyl hsw => ⟨fun pins s σ H D I q => (ps_setLc hc hN hy hyl hsw hi ok hg ht he hs).run pins s σ H D I (key _ _ _ q)⟩⟩
end
end MC

set_option Elab.async false
set_option linter.all false
set_option maxRecDepth 100000
set_option maxHeartbeats 4000000
namespace MC
open PySem PySem.Spec PyProof.Rows L2
section
variable (K : PySem.W.Frag) (nm : Nat → Str) (ca : CaT)
def EndsF (D : Ends) (β : List Addr) (τ : L2.St) (H : Hp) : Fl → Prop
  | .nx => D.nx τ H
  | .bk => D.bk τ H
  | .ct => D.ct τ H
  | .rt d => ∀ v, RelD K nm ca β H d v → D.rt v H
def PostS (β : List Addr) (H : Hp) (r : R2) (D : Ends) : Prop := match r with
  | .ok q h' => ∀ τ' H' β', Stp β H β' H' → RelS K nm ca β' H' q.2 τ' → RelH K nm ca β' h' H' → EndsF K nm ca D β' τ' H' q.1
  | _ => False
def RS (ev : Sg → Hs → R2) : TS := fun D τ H => ∃ σ h β, RelS K nm ca β H σ τ ∧ RelH K nm ca β h H ∧ PostS K nm ca β H (ev σ h) D
end
theorem PS.imp {X : Cx} {e : Stmt} {t t' : TS} (h : PS X e t) (i : ∀ D σ H, t' D σ H → t D σ H) : PS X e t' := ⟨fun pins s σ H D I q => h.run pins s σ H D I (i D σ H q)⟩
theorem PSs.imp {X : Cx} {e : List Stmt} {t t' : TS} (h : PSs X e t) (i : ∀ D σ H, t' D σ H → t D σ H) : PSs X e t' := ⟨fun pins s σ H D I q => h.run pins s σ H D I (i D σ H q)⟩
section
variable {X : Cx} {nm : Nat → Str} {ca : CaT} {T : Tab} {cl : Nat → List D → Hs → Res D}
abbrev SS (X : Cx) (nm : Nat → Str) (ca : CaT) (T : Tab) (cl : Nat → List D → Hs → Res D) (e : Stmt) (c : S) : Prop := PS X e (RS X.K nm ca (evS T cl c))
abbrev SB (X : Cx) (nm : Nat → Str) (ca : CaT) (T : Tab) (cl : Nat → List D → Hs → Res D) (e : List Stmt) (c : B) : Prop := PSs X e (RS X.K nm ca (evB T cl c))
theorem PostS.bind {α : Type} {K : PySem.W.Frag} {β : List Addr} {H : Hp} {r : Res α} {k : α → Hs → R2} {Q : Ends} (p : PostS K nm ca β H (r.bind k) Q) : ∃ a h1, r = .ok a h1 ∧ PostS K nm ca β H (k a h1) Q := by
  cases r with
  | ok a h1 => exact ⟨a, h1, rfl, p⟩
  | ex _ _ => exact p.elim
  | no => exact p.elim
theorem PostS.step {K : PySem.W.Frag} {β β1 : List Addr} {H H1 : Hp} {r : R2} {Q : Ends} (p : PostS K nm ca β H r Q) (st : Stp β H β1 H1) : PostS K nm ca β1 H1 r Q := by
  cases r with
  | ok d h' => exact fun τ' H' β' s1 r1 r2 => p τ' H' β' (st.trans s1) r1 r2
  | ex _ _ => exact p.elim
  | no => exact p.elim
/-! ### blocks -/
theorem b_nil : SB X nm ca T cl [] .nil := PSs.imp pss_nil fun D τ H ⟨σ, h, β, rs, rh, p⟩ => p τ H β (Stp.refl _ _) rs rh
theorem b_cons {s : Stmt} {r : List Stmt} {c : S} {k : B} (h1 : SS X nm ca T cl s c) (h2 : SB X nm ca T cl r k) : SB X nm ca T cl (s :: r) (.cons c k) := by
  refine PSs.imp (pss_cons h1 h2) fun D τ H ⟨σ, h, β, rs, rh, p⟩ => ?_
  simp only [evB] at p
  obtain ⟨q, g1, e1, p⟩ := p.bind
  refine ⟨σ, h, β, rs, rh, ?_⟩
  rw [e1]
  intro τ1 H1 β1 st1 rs1 rh1
  cases qe : q.1 with
  | nx =>
    rw [qe] at p
    exact ⟨q.2, g1, β1, rs1, rh1, p.step st1⟩
  | bk => rw [qe] at p; exact p τ1 H1 β1 st1 rs1 rh1
  | ct => rw [qe] at p; exact p τ1 H1 β1 st1 rs1 rh1
  | rt d => rw [qe] at p; exact p τ1 H1 β1 st1 rs1 rh1
/-! ### small statements -/
def isComp : Expr → Bool
  | .ListComp .. => true
  | .SetComp .. => true
  | .DictComp .. => true
  | _ => false
theorem swaps_no {e : Expr} {t : Option Expr} {l : Nat} {env : Env} (h : isComp e = false) : swapsWith e t l env = pure false := by
  cases e <;> first | rfl | cases h
theorem st_pass {pos : Pos} : SS X nm ca T cl (.Pass pos) .pass := PS.imp ps_pass fun D τ H ⟨σ, h, β, rs, rh, p⟩ => p τ H β (Stp.refl _ _) rs rh
theorem st_brk {pos : Pos} : SS X nm ca T cl (.Break pos) .brk := PS.imp ps_break fun D τ H ⟨σ, h, β, rs, rh, p⟩ => p τ H β (Stp.refl _ _) rs rh
theorem st_cnt {pos : Pos} : SS X nm ca T cl (.Continue pos) .cnt := PS.imp ps_continue fun D τ H ⟨σ, h, β, rs, rh, p⟩ => p τ H β (Stp.refl _ _) rs rh
theorem st_never {s : Stmt} : SS X nm ca T cl s .never := PS.imp ps_never fun D τ H ⟨σ, h, β, rs, rh, p⟩ => p.elim
theorem st_exp {e : Expr} {c : E} {pos : Pos} (h : SE X nm ca T cl e c) (hs : isComp e = false) : SS X nm ca T cl (.Expr e pos) (.exp c) := by
  refine PS.imp (ps_expr h (swaps_no hs)) fun D τ H ⟨σ, h, β, rs, rh, p⟩ => ?_
  simp only [evS] at p
  obtain ⟨d, h1, e1, p⟩ := p.bind
  exact re1 rs rh e1 fun vx H1 β1 st rs1 rh1 rx => p τ H1 β1 st rs1 rh1
theorem st_ret {e : Expr} {c : E} {pos : Pos} (h : SE X nm ca T cl e c) : SS X nm ca T cl (.Return (some e) pos) (.ret c) := by
  refine PS.imp (ps_ret h) fun D τ H ⟨σ, h, β, rs, rh, p⟩ => ?_
  simp only [evS] at p
  obtain ⟨d, h1, e1, p⟩ := p.bind
  exact re1 rs rh e1 fun vx H1 β1 st rs1 rh1 rx => p τ H1 β1 st rs1 rh1 vx rx
theorem st_retN {pos : Pos} : SS X nm ca T cl (.Return none pos) .retN := PS.imp ps_retN fun D τ H ⟨σ, h, β, rs, rh, p⟩ => p τ H β (Stp.refl _ _) rs rh .non .non
theorem asg_key {g : G} {c : E} {D : Ends} {τ : L2.St} {H : Hp} (q : RS X.K nm ca (evS T cl (.asg g c)) D τ H) : tAsg (RE X.K nm ca (evE T cl c)) (RG X.K nm ca g.slots (evG T cl g)) D τ H := by
  obtain ⟨σ, h, β, rs, rh, p⟩ := q
  simp only [evS] at p
  obtain ⟨d, h1, e1, p⟩ := p.bind
  obtain ⟨σ2, h2, e2, p⟩ := p.bind
  refine re1 rs rh e1 fun vx H1 β1 st rs1 rh1 rx => ⟨d, σ, h1, β1, rs1, rh1, rx, ?_⟩
  rw [e2]
  exact fun τ' H' β' st' rs' rh' _ => p τ' H' β' (st.trans st') rs' rh'
/-- no pair of names on the left, or no display on the right -/
def noPar : Expr → Expr → Bool
  | .Tuple .., .Tuple .. => false
  | .List .., .Tuple .. => false
  | _, _ => true
theorem stores_no {t e : Expr} {env : Env} (h : noPar t e = true) : swappedStores [t] e env = pure none := by
  unfold swappedStores
  cases t <;> first
    | rfl
    | (cases e <;> first | rfl | cases h)
theorem st_asg {t e : Expr} {c : E} {g : G} {pos : Pos} (he : SE X nm ca T cl e c) (hg : SG X nm ca T cl t g) (hs : isComp e = false) (hw : swappedStores [t] e X.env = pure none) (ht : isSt t = false) : SS X nm ca T cl (.Assign [t] e pos) (.asg g c) :=
  PS.imp (ps_asg he hg (swaps_no hs) hw (by rw [assignEach_plain ht]; rfl)) fun D τ H q => asg_key q
/-- name = [..]: stored within the comprehension's frame -/
theorem st_asgLc {y : Str} {e : Expr} {c : E} {i : Nat} {py pos : Pos} (h : PS X (.Assign [.Name y py] e pos) (tAsg (RE X.K nm ca (evE T cl c)) (gName i))) : SS X nm ca T cl (.Assign [.Name y py] e pos) (.asg (.nm i) c) := by
  refine PS.imp h fun D τ H ⟨σ, h, β, rs, rh, p⟩ => ?_
  simp only [evS] at p
  obtain ⟨d, h1, e1, p⟩ := p.bind
  obtain ⟨σ2, h2, e2, p⟩ := p.bind
  simp only [evG] at e2
  cases e2
  exact re1 rs rh e1 fun vx H1 β1 st rs1 rh1 rx => p _ H1 β1 st (rs1.set rx) rh1
/-- a.f = [..] -/
theorem st_asgLcA {o e : Expr} {f : Str} {c : E} {g : G} {pa pos : Pos} (he : SE X nm ca T cl e c) (hg : SG X nm ca T cl (.Attribute o f pa) g) : SS X nm ca T cl (.Assign [.Attribute o f pa] e pos) (.asg g c) :=
  PS.imp (ps_asg he hg (by cases e <;> rfl) (stores_no (by cases e <;> rfl)) rfl) fun D τ H q => asg_key q
theorem st_par {i j : Nat} {x y : Str} {a b : Expr} {c c' : E} {px py pt pt2 pos : Pos} {kt k2 : Nat} (hc : X.calm = true) (hN : X.N.Nodup) (hi : X.N[i]? = some x) (hj : X.N[j]? = some y) (hij : i ≠ j) (hx : X.env.scope.names.lookup x = some .local) (hy : X.env.scope.names.lookup y = some .local) (ha : SE X nm ca T cl a c) (hb : SE X nm ca T cl b c')
    (hs : isSt a = false) (hs2 : isSt b = false) (hw : swappedStores [.Tuple [.Name x px, .Name y py] kt pt] (.Tuple [a, b] k2 pt2) X.env = pure (some [x, y])) : SS X nm ca T cl (.Assign [.Tuple [.Name x px, .Name y py] kt pt] (.Tuple [a, b] k2 pt2) pos) (.par i j c c') := by
  refine PS.imp (ps_par hc hN hi hj hij hx hy (a_cons ha (a_cons hb a_nil hs2) hs) hw rfl) fun D τ H ⟨σ, h, β, rs, rh, p⟩ => ?_
  simp only [evS] at p
  obtain ⟨d, h1, e1, p⟩ := p.bind
  obtain ⟨d2, h2, e2, p⟩ := p.bind
  refine ra1 (x := [d, d2]) (h1 := h2) rs rh (by simp [evA, e1, e2, Res.bind]) fun vxs H1 β1 st rs1 rh1 rx => ?_
  cases rx with
  | cons r1 r2 =>
    obtain ⟨v, rfl, ry⟩ := one_rel r2
    exact ⟨_, _, rfl, p _ H1 β1 st ((rs1.set r1).set ry) rh1⟩
theorem st_aug {i : Nat} {x : Str} {e : Expr} {c : E} {op : Operator} {px pos : Pos} (hN : X.N.Nodup) (hi : X.N[i]? = some x) (hx : Loc X.env.scope x) (hf : X.fn x = true ∨ X.env.scope.names.lookup x = some .local) (he : SE X nm ca T cl e c) : SS X nm ca T cl (.AugAssign (.Name x px) op e pos) (.aug i op c) := by
  have key : ∀ {f : Int → Int → Int}, (∀ (k j : Int), augD op k (.int j) = some (f k j)) → ∀ D τ H, RS X.K nm ca (evS T cl (.aug i op c)) D τ H → tAug i (RE X.K nm ca (evE T cl c)) (ipI f) D τ H := by
    intro f hf D τ H ⟨σ, h, β, rs, rh, p⟩
    simp only [evS] at p
    cases q : σ[i]? with
    | none => simp only [q] at p; exact p.elim
    | some o =>
      cases o with
      | none => simp only [q] at p; exact p.elim
      | some d =>
        cases d with
        | int k =>
          simp only [q] at p
          obtain ⟨y, h1, e1, p⟩ := p.bind
          obtain ⟨v, t1, t2⟩ := rs.2 i _ q
          cases t2
          refine ⟨_, t1, re1 rs rh e1 fun vx H1 β1 st rs1 rh1 rx => ?_⟩
          cases y with
          | int j =>
            cases rx
            simp only [hf k j] at p
            exact ⟨k, j, rfl, rfl, p _ H1 β1 st (rs1.set (.int _)) rh1⟩
          | _ => cases op <;> exact p.elim
        | _ => simp only [q] at p; exact p.elim
  cases op with
  | Add => exact PS.imp (ps_aug hN hi hx he ip_add hf) (key fun _ _ => rfl)
  | Sub => exact PS.imp (ps_aug hN hi hx he ip_sub hf) (key fun _ _ => rfl)
  | _ =>
    refine ⟨fun pins s σ H D I q => ?_⟩
    exfalso
    obtain ⟨σ, h, β, rs, rh, p⟩ := q
    simp only [evS] at p
    cases q : σ[i]? with
    | none => simp only [q] at p; exact p
    | some o =>
      cases o with
      | none => simp only [q] at p; exact p
      | some d =>
        cases d with
        | int k =>
          simp only [q] at p
          obtain ⟨y, h1, e1, p⟩ := p.bind
          cases y <;> exact p
        | _ => simp only [q] at p; exact p
theorem st_if {t : Expr} {a b : List Stmt} {c : E} {x y : B} {pos : Pos} (ht : ST X nm ca T cl t c) (ha : SB X nm ca T cl a x) (hb : SB X nm ca T cl b y) : SS X nm ca T cl (.If t a b pos) (.ifs c x y) := by
  refine PS.imp (ps_if ht ha hb) fun D τ H ⟨σ, h, β, rs, rh, p⟩ => ?_
  simp only [evS] at p
  obtain ⟨k, h1, e1, p⟩ := p.bind
  refine RT.k rs rh e1 fun H1 β1 st rs1 rh1 => ?_
  cases k with
  | true => rw [if_pos rfl] at p ⊢; exact ⟨σ, h1, β1, rs1, rh1, p.step st⟩
  | false => rw [if_neg (by decide)] at p ⊢; exact ⟨σ, h1, β1, rs1, rh1, p.step st⟩
/-! ### loops -/
theorem st_while {t : Expr} {b : List Stmt} {c : E} {x : B} {pos : Pos} (hp : PassesOwn (model X.prog X.w) X.A X.env X.xe) (ht : ST X nm ca T cl t c) (hb : SB X nm ca T cl b x) : SS X nm ca T cl (.While t b [] pos) (.whl c x) := by
  refine PS.imp (ps_while hp ht hb) fun D τ H ⟨σ, h, β, rs, rh, p⟩ => ?_
  simp only [evS] at p
  refine ⟨fun m τ H => ∃ σ h β, RelS X.K nm ca β H σ τ ∧ RelH X.K nm ca β h H ∧ PostS X.K nm ca β H (loopW (fun σ h => (evE T cl c σ h).bind tst) (evB T cl x) m σ h) D, ⟨T.fuel, σ, h, β, rs, rh, p⟩, ?_⟩
  rintro m τ1 H1 ⟨σ1, h1, β1, rs1, rh1, p1⟩
  cases m with
  | zero => exact p1.elim
  | succ m =>
    simp only [loopW] at p1
    obtain ⟨k, h2, e2, p1⟩ := p1.bind
    refine RT.k rs1 rh1 e2 fun H2 β2 st rs2 rh2 => ?_
    cases k with
    | false => rw [if_neg (by decide)] at p1 ⊢; exact p1 τ1 H2 β2 st rs2 rh2
    | true =>
      rw [if_pos rfl] at p1 ⊢
      obtain ⟨q, h3, e3, p1⟩ := p1.bind
      refine ⟨fun τ' H' => ∃ σ h β, RelS X.K nm ca β H' σ τ' ∧ RelH X.K nm ca β h H' ∧ PostS X.K nm ca β H' (loopW (fun σ h => (evE T cl c σ h).bind tst) (evB T cl x) m σ h) D, fun τ' H' z => ⟨m, Nat.lt_succ_self m, z⟩, σ1, h2, β2, rs2, rh2, ?_⟩
      rw [e3]
      intro τ3 H3 β3 st3 rs3 rh3
      cases qe : q.1 with
      | nx => rw [qe] at p1; exact ⟨q.2, h3, β3, rs3, rh3, (p1.step st).step st3⟩
      | ct => rw [qe] at p1; exact ⟨q.2, h3, β3, rs3, rh3, (p1.step st).step st3⟩
      | bk => rw [qe] at p1; exact p1 τ3 H3 β3 (st.trans st3) rs3 rh3
      | rt d => rw [qe] at p1; exact p1 τ3 H3 β3 (st.trans st3) rs3 rh3
theorem st_for {tg iter : Expr} {b : List Stmt} {g : G} {it : I} {x : B} {pos : Pos} (hp : PassesOwn (model X.prog X.w) X.A X.env X.xe) (hc : X.calm = true) (hi : SI X nm ca T cl tg iter it) (hg : SG X nm ca T cl tg g) (hb : SB X nm ca T cl b x) (hs : ∀ x, foldedSetIterable iter X.env x = pure x) : SS X nm ca T cl (.For tg iter b [] pos) (.for_ g it x) := by
  refine PS.imp (ps_for hp hc hi hg hb hs) fun D τ H ⟨σ, h, β, rs, rh, p⟩ => ?_
  simp only [evS] at p
  obtain ⟨s, h1, e1, p⟩ := p.bind
  cases s with
  | live n =>
    cases qo : h1[n]? with
    | none => simp only [qo] at p; exact p.elim
    | some o =>
    cases qi : o.items with
    | none => simp only [qo, qi] at p; exact p.elim
    | some xs =>
    simp only [qo, qi] at p
    refine ⟨σ, h, β, rs, rh, ?_⟩
    rw [e1]
    intro H1 β1 J a o' xs' st rh1 g1 ho hx lv
    rw [qo] at ho; cases ho
    rw [qi] at hx; cases hx
    refine ⟨fun i m τ' H' => ∃ σ' h' β', RelS X.K nm ca β' H' σ' τ' ∧ RelH X.K nm ca β' h' H' ∧ β'[n]? = some a ∧ m = xs.length - i ∧ i ≤ xs.length ∧ PostS X.K nm ca β' H' (loopFg (grd o n) (evG T cl g) (evB T cl x) (xs.drop i) σ' h') D, ⟨xs.length, σ, h1, β1, rs.mono st, rh1, g1, by simp, Nat.zero_le _, p.step st⟩, ?_⟩
    rintro i m τ' H' ⟨σ', h', β', rs', rh', g', rfl, hle, p'⟩
    by_cases hlt : i < xs.length
    · have hgd : h'[n]? = some o := by
        refine grd_at ?_
        rw [List.drop_eq_getElem_cons hlt] at p'
        simp only [loopFg] at p'
        split at p'
        · assumption
        · exact p'.elim
      refine .inr ⟨lv.goes i β' h' H' hlt rh' hgd g', fun τ2 H2 => ∃ σ2 h2 β2, RelS X.K nm ca β2 H2 σ2 τ2 ∧ RelH X.K nm ca β2 h2 H2 ∧ β2[n]? = some a ∧ PostS X.K nm ca β2 H2 (loopFg (grd o n) (evG T cl g) (evB T cl x) (xs.drop (i + 1)) σ2 h2) D, ?_, fun v H2 y => ?_⟩
      · rintro τ2 H2 ⟨σ2, h2, β2, a1, a2, a3, a4⟩
        exact ⟨xs.length - (i + 1), by omega, σ2, h2, β2, a1, a2, a3, rfl, hlt, a4⟩
      · obtain ⟨s2, rh2, d, ed, rd⟩ := lv.yields i β' h' H' v H2 hlt rh' hgd g' y
        have edr : xs.drop i = d :: xs.drop (i + 1) := by
          rw [List.drop_eq_getElem_cons hlt]
          rw [List.getElem?_eq_getElem hlt] at ed
          cases ed
          rfl
        rw [edr] at p'
        simp only [loopFg, at_grd hgd, if_true] at p'
        obtain ⟨σ3, h3, e3, p'⟩ := p'.bind
        obtain ⟨q, h4, e4, p'⟩ := p'.bind
        refine ⟨d, σ', h', β', rs'.mono s2, rh2, rd, ?_⟩
        rw [e3]
        intro τ3 H3 β3 st3 rs3 rh3 _
        refine ⟨σ3, h3, β3, rs3, rh3, ?_⟩
        rw [e4]
        intro τ4 H4 β4 st4 rs4 rh4
        have g4 : β4[n]? = some a := st4.get (st3.get g')
        have p4 := ((p'.step s2).step st3).step st4
        cases qe : q.1 with
        | nx => rw [qe] at p4; exact ⟨q.2, h4, β4, rs4, rh4, g4, p4⟩
        | ct => rw [qe] at p4; exact ⟨q.2, h4, β4, rs4, rh4, g4, p4⟩
        | bk => rw [qe] at p4; exact p4 τ4 H4 β4 (Stp.refl _ _) rs4 rh4
        | rt d => rw [qe] at p4; exact p4 τ4 H4 β4 (Stp.refl _ _) rs4 rh4
    · have e : i = xs.length := by omega
      subst e
      rw [List.drop_length] at p'
      have hgd : h'[n]? = some o := by
        refine grd_at ?_
        simp only [loopFg] at p'
        split at p'
        · assumption
        · exact p'.elim
      simp only [loopFg, at_grd hgd, if_true] at p'
      exact .inl ⟨lv.stops β' h' H' rh' hgd g', p' τ' H' β' (Stp.refl _ _) rs' rh'⟩
  | its xs =>
    refine ⟨σ, h, β, rs, rh, ?_⟩
    rw [e1]
    intro H1 β1 J G st rh1 itm g1
    refine ⟨fun i m τ' H' => ∃ σ' h' β', RelS X.K nm ca β' H' σ' τ' ∧ RelH X.K nm ca β' h' H' ∧ G β' H' ∧ m = xs.length - i ∧ i ≤ xs.length ∧ PostS X.K nm ca β' H' (loopF (evG T cl g) (evB T cl x) (xs.drop i) σ' h') D, ⟨xs.length, σ, h1, β1, rs.mono st, rh1, g1, by simp, Nat.zero_le _, p.step st⟩, ?_⟩
    rintro i m τ' H' ⟨σ', h', β', rs', rh', g', rfl, hle, p'⟩
    by_cases hlt : i < xs.length
    · refine .inr ⟨itm.goes i β' H' hlt g', fun τ2 H2 => ∃ σ2 h2 β2, RelS X.K nm ca β2 H2 σ2 τ2 ∧ RelH X.K nm ca β2 h2 H2 ∧ G β2 H2 ∧ PostS X.K nm ca β2 H2 (loopF (evG T cl g) (evB T cl x) (xs.drop (i + 1)) σ2 h2) D, ?_, fun v H2 y => ?_⟩
      · rintro τ2 H2 ⟨σ2, h2, β2, a1, a2, a3, a4⟩
        exact ⟨xs.length - (i + 1), by omega, σ2, h2, β2, a1, a2, a3, rfl, hlt, a4⟩
      · obtain ⟨s2, rel2, d, ed, rd⟩ := itm.yields i β' H' v H2 hlt g' y
        have edr : xs.drop i = d :: xs.drop (i + 1) := by
          rw [List.drop_eq_getElem_cons hlt]
          rw [List.getElem?_eq_getElem hlt] at ed
          cases ed
          rfl
        rw [edr] at p'
        simp only [loopF] at p'
        obtain ⟨σ3, h3, e3, p'⟩ := p'.bind
        obtain ⟨q, h4, e4, p'⟩ := p'.bind
        refine ⟨d, σ', h', β', rs'.mono s2, rel2 h' rh', rd, ?_⟩
        rw [e3]
        intro τ3 H3 β3 st3 rs3 rh3 _
        refine ⟨σ3, h3, β3, rs3, rh3, ?_⟩
        rw [e4]
        intro τ4 H4 β4 st4 rs4 rh4
        have g4 : G β4 H4 := itm.mono st4 (itm.mono st3 (itm.mono s2 g'))
        have p4 := ((p'.step s2).step st3).step st4
        cases qe : q.1 with
        | nx => rw [qe] at p4; exact ⟨q.2, h4, β4, rs4, rh4, g4, p4⟩
        | ct => rw [qe] at p4; exact ⟨q.2, h4, β4, rs4, rh4, g4, p4⟩
        | bk => rw [qe] at p4; exact p4 τ4 H4 β4 (Stp.refl _ _) rs4 rh4
        | rt d => rw [qe] at p4; exact p4 τ4 H4 β4 (Stp.refl _ _) rs4 rh4
    · have e : i = xs.length := by omega
      subst e
      rw [List.drop_length] at p'
      exact .inl ⟨itm.stops β' H' g', p' τ' H' β' (Stp.refl _ _) rs' rh'⟩
/-! ### match of a text with written texts -/
inductive SC (X : Cx) (nm : Nat → Str) (ca : CaT) (T : Tab) (cl : Nat → List D → Hs → Res D) : List MatchCase → C → Prop
  | nil : SC X nm ca T cl [] .nil
  | cons {k : Str} {j : Nat} {p1 p2 : Pos} {b : List Stmt} {r : List MatchCase} {cb : B} {cr : C} : SB X nm ca T cl b cb → SC X nm ca T cl r cr → SC X nm ca T cl (⟨.MatchValue (.Constant (.str k) j p1) p2, none, b⟩ :: r) (.cons k cb cr)
theorem mat_run {x : Str} {D : Ends} {u : Value} : ∀ {cs : List MatchCase} {c : C}, SC X nm ca T cl cs c → ∀ {pins : List (Addr × Obj)} {s : Shared} {τ : L2.St} {H : Hp} {σ : Sg} {h : Hs} {β : List Addr} {first : Bool}, Inv X pins τ H s → RelV (.str x) u → RelS X.K nm ca β H σ τ → RelH X.K nm ca β h H → PostS X.K nm ca β H (evC T cl c x σ h) D →
    wpAny (model X.prog X.w) X.A (matchCases cs X.env u first) (SP X pins D) X.xe s
  | _, _, .nil, pins, s, τ, H, σ, h, β, first, I, ru, rs, rh, p => wpAny_matchCases_nil ⟨τ, H, I, p τ H β (Stp.refl _ _) rs rh⟩
  | _, _, @SC.cons _ _ _ _ _ k j p1 p2 b r cb cr hb hr, pins, s, τ, H, σ, h, β, first, I, ru, rs, rh, p => by
    refine wpAny_matchCases_cons (wpAny_matchPattern_Value (Calls.Constant_str ?_))
    have I1 := I.tok (s.toks + 1)
    refine thn (op_eq pins { s with toks := s.toks + 1 } τ H (.str x) (.str k) u (.str k s.toks) (fun v H' => v = .bl (decide (x = k)) ∧ H' = H) I1 ru ⟨_, rfl⟩ ⟨rfl, by rw [dec_str]; cases hd : decide (x = k) <;> simp_all, rfl⟩) fun cv s2 ⟨v, H', I2, rv, e1, e2⟩ => ?_
    subst e1
    subst e2
    cases rv
    refine wpAny_truthy_bool ?_
    simp only [evC] at p
    by_cases hx : x = k
    · rw [decide_eq_true hx]
      rw [if_pos hx] at p
      simp only [if_true]
      exact wpAny_assignInOrder_none (hb.run pins s2 τ H' D I2 ⟨σ, h, β, rs, rh, p⟩)
    · rw [decide_eq_false hx]
      rw [if_neg hx] at p
      simp only [Bool.false_eq_true, if_false]
      exact mat_run hr I2 ru rs rh p
theorem st_mat {e : Expr} {c : E} {cs : List MatchCase} {k : C} {pos : Pos} (he : SE X nm ca T cl e c) (hc : SC X nm ca T cl cs k) : SS X nm ca T cl (.Match e cs pos) (.mat c k) := by
  refine ⟨fun pins s τ H D I q => ?_⟩
  obtain ⟨σ, h, β, rs, rh, p⟩ := q
  simp only [evS] at p
  obtain ⟨x, h1, e1, p⟩ := p.bind
  cases x with
  | str z =>
    refine wpAny_Match (thn (he.run pins s τ H (fun v H1 => ∃ β1, v = .str z ∧ Stp β H β1 H1 ∧ RelS X.K nm ca β1 H1 σ τ ∧ RelH X.K nm ca β1 h1 H1) I (re1 rs rh e1 fun vx H1 β1 st rs1 rh1 rx => by cases rx; exact ⟨β1, rfl, st, rs1, rh1⟩)) fun u s1 ⟨v, H1, I1, rv, β1, ev, st, rs1, rh1⟩ => ?_)
    subst ev
    exact mat_run hc I1 rv rs1 rh1 (p.step st)
  | _ => exact p.elim
end
end MC

set_option Elab.async false
set_option linter.all false
set_option maxRecDepth 100000
set_option maxHeartbeats 4000000
namespace MC
open PySem PySem.Spec PyProof.Rows L2
/-! ### enumerate of a tuple -/
open AutoSeq1 (wpAny_loadPart') in
theorem meets_enumerate_newT (l : Addr) (items : Array Value) (n : Nat) (dct : Option Addr) (sl : Array (Option Value)) :
    Meets (Builtin.«enumerate.__new__» ⟨[.type "enumerate", .ref l], []⟩) (fun _ R s => s.heap.get? l = some { cls := .type "tuple", dict := dct, data := .seq items n, slots := sl } ∧
      R (.ok (.ret (.ref (s.heap.push { cls := .type "tuple_iterator", data := .fields #[.ref l, .int 0 0] }).objs.size)))
        { s with heap := (s.heap.push { cls := .type "tuple_iterator", data := .fields #[.ref l, .int 0 0] }).push { cls := .type "enumerate", data := .fields #[.none, .bool false, .ref s.heap.objs.size, rawInt 0, .none, .none] } }) :=
  .of_wp fun prog w A R s h => by
    obtain ⟨hp, g, d, tk, os⟩ := s; obtain ⟨hl, h⟩ := h
    have hsub := sub_enumerate
    have hL : Heap.IsTuple (Shared.heap ⟨hp, g, d, tk, os⟩) l items := ⟨_, hl, rfl, n, rfl⟩
    wp_walk using wpAny_loadPart' hl
    refine wpAny_stack_any fun st => wpAny_pure ?_
    split
    · rename_i c _ _ _ _ _
      cases (c == Value.type "enumerate")
      · wp_walk using wpAny_loadPart' hl, wpAny_pyIter_tuple hL
        exact ⟨_, rfl, h⟩
      · wp_walk using wpAny_loadPart' hl, wpAny_pyIter_tuple hL
        exact ⟨_, rfl, h⟩
    · wp_walk using wpAny_loadPart' hl, wpAny_pyIter_tuple hL
      exact ⟨_, rfl, h⟩
theorem call_enumerate_tuple {prog : Program} {w : World} {A : Around} {E : Value → Shared → Prop} {s : Shared} {l : Addr} {items : Array Value} {Q : Value → Shared → Prop} (hL : s.heap.IsTuple l items)
    (h : ∀ h', IsEnum h' (s.heap.objs.size + 1) s.heap.objs.size 0 .none → h'.IsTupleIter s.heap.objs.size l 0 → h'.objs.size = s.heap.objs.size + 2 →
      (∀ b o, s.heap.get? b = some o → h'.get? b = some o) → Q (.ref (s.heap.objs.size + 1)) { s with heap := h' }) :
    wpAny (model prog w) A (call (.type "enumerate") [.ref l]) Q E s := by
  obtain ⟨⟨c, dct, dt, sl⟩, hl, hc, n, hd⟩ := hL
  replace hc : c = .type "tuple" := hc
  replace hd : dt = .seq items n := hd
  subst hc hd
  refine callType_new F.called_enumerate (by decide) (F.typeCall_enumerate_1 _) (F.newCall_enumerate_1 _) (fun obj => F.args_object_init_2 obj _) F.entry_enumerate_new
    (meets_enumerate_newT l items n dct sl) ⟨hl, ?_⟩
  have hz : (s.heap.push { cls := .type "tuple_iterator", data := .fields #[.ref l, .int 0 0] }).objs.size = s.heap.objs.size + 1 := Heap.size_push ..
  show _ ∧ _
  rw [hz]
  have he : IsEnum ((s.heap.push { cls := .type "tuple_iterator", data := .fields #[.ref l, .int 0 0] }).push
      { cls := .type "enumerate", data := .fields #[.none, .bool false, .ref s.heap.objs.size, rawInt 0, .none, .none] }) (s.heap.objs.size + 1) s.heap.objs.size 0 .none := by
    have := Heap.get?_push_size (s.heap.push { cls := .type "tuple_iterator", data := .fields #[.ref l, .int 0 0] })
      (o := { cls := .type "enumerate", data := .fields #[.none, .bool false, .ref s.heap.objs.size, rawInt 0, .none, .none] }) rfl
    rw [hz] at this; exact this
  refine ⟨⟨_, he, rfl⟩, h _ he ⟨_, Heap.get?_push_of_some _ (Heap.get?_push_size _ rfl), rfl, rfl⟩ (by rw [Heap.size_push, hz]) fun b o x => Heap.get?_push_of_some _ (Heap.get?_push_of_some _ x)⟩
def IteT (K : PySem.W.Frag) (a : Addr) : It :=
  ⟨fun i H => ∃ (xs : List V) (x : V), SqT K H a xs ∧ xs[i]? = some x, fun i H v H' => ∃ T x, v = .ref T ∧ H T = none ∧ H' = upd H T (.tup [.int (i : Nat), x]) ∧ ∀ xs, SqT K H a xs → xs[i]? = some x, fun i H => ∃ xs : List V, SqT K H a xs ∧ xs.length = i⟩
theorem turn_enumT {P : Program} {w : World} {K : PySem.W.Frag} {elts : List Expr} {kk : Nat} {tpos : Pos} (a e it : Addr) (hai : a ≠ it) (hae : a ≠ e) :
    Turn P w K (.Tuple elts kk tpos) (IteT K a) [e, it] e (fun i h => (∃ old, IsEnum h e it ((i : Nat) : Int) old) ∧ h.IsTupleIter it a i ∧ e ≠ it) where
  mem := by simp
  obj := fun i h st b hb => by
    obtain ⟨⟨old, he⟩, ⟨o, ho, hc, hd⟩, _⟩ := st
    have e' : b = e ∨ b = it := by simpa using hb
    rcases e' with z | z
    · rw [z]; exact ⟨_, he, fun v q => nomatch q⟩
    · rw [z]; exact ⟨o, ho, fun v q => by rw [hd] at q; cases q⟩
  keep := fun i h h' st k => let ⟨⟨old, he⟩, hi, hne⟩ := st; ⟨⟨old, k e (by simp) _ he⟩, hi.at fun o q => k it (by simp) o q, hne⟩
  item := by
    intro X hP hw hK hc i pins s σ H E I hf st hg
    subst hP hw hK
    obtain ⟨⟨old, he⟩, hit, hne⟩ := st
    obtain ⟨xs, x, hq, hx⟩ := hg
    obtain ⟨its, rv, p, hz⟩ := I.tuple hq
    obtain ⟨u, hu, ru⟩ := rv.get hx
    have hel : e < s.heap.objs.size := Heap.lt_size he
    have hil : it < s.heap.objs.size := by obtain ⟨_, q, _⟩ := hit; exact Heap.lt_size q
    have hn : i < its.toArray.size := by
      have := (List.getElem?_eq_some_iff.mp hu).1
      simpa using this
    have DD := Draws.tuple (prog := X.prog) (w := X.w) (A := X.A.in1) (I.ok.hd hc) it a hai its.toArray
    refine wpAny_pyNext_enum_itemD DD he ⟨hit, p⟩ hn hne (by simp [hne, Ne.symm hae]) fun v h' tk pv ho hst hT hsz hk => ?_
    have ev : v = u := by
      have : its.toArray[i]? = some u := by simpa using hu
      rw [this] at pv
      exact (Option.some.inj pv).symm
    subst ev
    refine ⟨_, rfl, wpAny_letOwnedTupleGo_enum (s := { s with heap := h', toks := tk + 1 }) ho fun h'' he' sb => ?_⟩
    have hT2 : h''.get? s.heap.objs.size = some { cls := .type "tuple", data := .seq #[.int i tk, v] } := (sb.2 _ (Nat.ne_of_gt hel)).trans hT
    have new : ObjOk X.prog X.w (upd H s.heap.objs.size (.tup [.int (i : Nat), x])) h'' s.heap.objs.size (.tup [.int (i : Nat), x]) :=
      ⟨by show 2 ≤ sizeLine; decide, [.int i tk, v], .cons ⟨_, rfl⟩ (.cons ru .nil), ⟨_, hT2, rfl, _, rfl⟩⟩
    have I1 : Inv X pins σ (upd H s.heap.objs.size (.tup [.int (i : Nat), x])) { s with heap := h'', toks := tk + 1 } :=
      I.turnedNew (ch := [e, it]) (fun b ob hb q => (sb.2 b (fun z => hb (by simp [z]))).trans (hk b ob (fun z => hb (by simp [z])) (fun z => hb (by simp [z])) q)) hf (Nat.le_refl _) new
    refine ⟨.ref s.heap.objs.size, _, I1, rfl, ⟨_, x, rfl, I.hok.fresh (Nat.le_refl _), rfl, fun ys hy => by rw [I.tuple_inj hy hq]; exact hx⟩, ⟨⟨v, ?_⟩, hst.1.at fun o q => (sb.2 it (Ne.symm hne)).trans q, hne⟩, fun b hb => ?_⟩
    · have e1 : ((i + 1 : Nat) : Int) = (i : Int) + 1 := by omega
      rw [e1]; exact he'
    · have hb' : b < s.heap.objs.size := by
        have e' : b = e ∨ b = it := by simpa using hb
        rcases e' with z | z
        · rw [z]; exact hel
        · rw [z]; exact hil
      rw [upd_ne (Nat.ne_of_lt hb')]
      exact (hf b hb).1
  done := by
    intro X hP hw hK hc i pins s σ H E I hf st hg
    subst hP hw hK
    obtain ⟨⟨old, he⟩, hit, hne⟩ := st
    obtain ⟨xs, hq, hx⟩ := hg
    obtain ⟨its, rv, p, hz⟩ := I.tuple hq
    obtain ⟨f0, f1, f2, f3, f4, f5⟩ := hf it (by simp)
    have hl := rv.length
    have DD := Draws.tuple (prog := X.prog) (w := X.w) (A := X.A.in1) (I.ok.hd hc) it a hai its.toArray
    have hn : its.toArray.size = i := by simp; omega
    refine wpAny_pyNext_enum_endD DD he (by rw [hn]; exact ⟨hit, p⟩) fun h' eb => ⟨rfl, I.turned (t' := s.toks) (fun b o hb q => eb b o hb q) f0 f1 f3 f4 f5⟩
  self := fun A i s Q E st h => let ⟨⟨_, he⟩, _⟩ := st; wpAny_pyIter_enum he h
def iEnumA (K : PySem.W.Frag) (ta : TA) : TI := fun σ H R => ta σ H fun vs H1 => ∃ a xs, vs = [.ref a] ∧ ((SqL K H1 a xs ∧ R (Ite K a) H1) ∨ (SqT K H1 a xs ∧ R (IteT K a) H1))
theorem pi_enumA {X : Cx} {e : Expr} {ta : TA} {p pos tpos : Pos} {elts : List Expr} {kk : Nat} (hg : Gl X "enumerate") (hm : X.mg "enumerate" = none) (ha : PA X [e] ta) (hs : starEach [e] X.env = [(false, eval e X.env)]) :
    PI X (.Tuple elts kk tpos) (.Call (.Name "enumerate" p) [e] [] pos) (iEnumA X.K ta) := by
  refine ⟨fun pins s σ H R I h => ?_⟩
  refine Call_ (ld_blt I hg hm boot_enumerate (PyProof.Rows.callWith_type1 (thn (ha.run pos pins s σ H _ I h) fun us s1 ⟨vs, H1, I1, r1, q1⟩ => ?_) hs rfl))
  obtain ⟨a, xs, ex, q⟩ := q1
  subst ex
  cases r1 with
  | cons r rr =>
    cases rr
    cases r
    have fr : ∀ b, b ∈ [s1.heap.objs.size + 1, s1.heap.objs.size] → FpOk X pins H1 b := fun b hb => by
      have e' : b = s1.heap.objs.size + 1 ∨ b = s1.heap.objs.size := by simpa using hb
      have hle : s1.heap.objs.size ≤ b := by
        rcases e' with z | z
        · rw [z]; exact Nat.le_add_right _ _
        · rw [z]; exact Nat.le_refl _
      exact I1.fpOk hle (I1.hok.fresh hle)
    rcases q with ⟨hq, q⟩ | ⟨hq, q⟩
    · obtain ⟨its, rv, p', hz⟩ := I1.list hq
      refine call_enumerate_list p'.isList fun h' he hit hsz hk => wpAny_pyIter_enum he ?_
      have I2 : Inv X pins σ H1 { s1 with heap := h' } := I1.kept (t' := s1.toks) hk
      exact ⟨s1.heap.objs.size + 1, [s1.heap.objs.size + 1, s1.heap.objs.size], _, _, H1, rfl, I2, turn_enum a (s1.heap.objs.size + 1) s1.heap.objs.size, ⟨⟨.none, he⟩, hit, Nat.succ_ne_self _⟩, fr, q⟩
    · obtain ⟨its, rv, p', hz⟩ := I1.tuple hq
      have hlt : a < s1.heap.objs.size := by obtain ⟨o, ho, _⟩ := id p'; exact Heap.lt_size ho
      refine call_enumerate_tuple (show s1.heap.IsTuple a its.toArray from p') fun h' he hit hsz hk => wpAny_pyIter_enum he ?_
      have I2 : Inv X pins σ H1 { s1 with heap := h' } := I1.kept (t' := s1.toks) hk
      exact ⟨s1.heap.objs.size + 1, [s1.heap.objs.size + 1, s1.heap.objs.size], _, _, H1, rfl, I2, turn_enumT a (s1.heap.objs.size + 1) s1.heap.objs.size (Nat.ne_of_lt hlt) (Nat.ne_of_lt (Nat.lt_succ_of_lt hlt)), ⟨⟨.none, he⟩, hit, Nat.succ_ne_self _⟩, fr, q⟩
section
variable {X : Cx} {nm : Nat → Str} {ca : CaT} {T : Tab} {cl : Nat → List D → Hs → Res D} {tg : Expr}
theorem numbered_len : ∀ (xs : List D) (k : Nat), (numbered k xs).length = xs.length
  | [], _ => rfl
  | x :: xs, k => by simp [numbered, numbered_len xs]
theorem numbered_get : ∀ (xs : List D) (k i : Nat) (h : i < xs.length), (numbered k xs)[i]? = some (.tup [.int ((k + i : Nat) : Int), xs[i]])
  | x :: xs, k, 0, _ => by simp [numbered]
  | x :: xs, k, i + 1, h => by
    have h' : i < xs.length := by simpa using h
    simp only [numbered, List.getElem?_cons_succ, numbered_get xs (k + 1) i h', List.getElem_cons_succ]
    congr 4
    omega
theorem itm_enumT {K : PySem.W.Frag} {a : Addr} {xs : List D} {vs : List V} (hl : xs.length = vs.length) : Itm K nm ca (IteT K a) (numbered 0 xs) (fun β H => SqT K H a vs ∧ RelL K nm ca β H xs vs) where
  mono := fun st g => ⟨st.sqT g.1, g.2.mono st⟩
  goes := fun i β H hi g => by
    rw [numbered_len] at hi
    exact ⟨vs, vs[i]'(by omega), g.1, by simp [show i < vs.length by omega]⟩
  stops := fun β H g => ⟨vs, g.1, by rw [numbered_len]; omega⟩
  yields := fun i β H v H' hi g y => by
    rw [numbered_len] at hi
    obtain ⟨t, x, rfl, nt, rfl, q⟩ := y
    have e := q vs g.1
    obtain ⟨w, f1, r1⟩ := g.2.get (i := i) (x := xs[i]) (by simp [hi])
    rw [e] at f1
    cases f1
    refine ⟨Stp.laid nt, fun h r => r.laid nt, .tup [.int ((0 + i : Nat) : Int), xs[i]], numbered_get xs 0 i hi, ?_⟩
    rw [Nat.zero_add]
    exact new_tup nt (.cons (.int _) (.cons r1 .nil))
theorem itm_enumL {K : PySem.W.Frag} {a : Addr} {xs : List D} {vs : List V} (hl : xs.length = vs.length) : Itm K nm ca (Ite K a) (numbered 0 xs) (fun β H => LsT K β H a vs ∧ RelL K nm ca β H xs vs) where
  mono := fun st g => ⟨st.rd g.1, g.2.mono st⟩
  goes := fun i β H hi g => by
    rw [numbered_len] at hi
    exact ⟨vs, vs[i]'(by omega), g.1.sq, by simp [show i < vs.length by omega]⟩
  stops := fun β H g => ⟨vs, g.1.sq, by rw [numbered_len]; omega⟩
  yields := fun i β H v H' hi g y => by
    rw [numbered_len] at hi
    obtain ⟨t, x, rfl, nt, rfl, q⟩ := y
    have e := q vs g.1.sq
    obtain ⟨w, f1, r1⟩ := g.2.get (i := i) (x := xs[i]) (by simp [hi])
    rw [e] at f1
    cases f1
    refine ⟨Stp.laid nt, fun h r => r.laid nt, .tup [.int ((0 + i : Nat) : Int), xs[i]], numbered_get xs 0 i hi, ?_⟩
    rw [Nat.zero_add]
    exact new_tup nt (.cons (.int _) (.cons r1 .nil))
theorem i_enum {a : Expr} {c : E} {elts : List Expr} {kk : Nat} {tpos p pos : Pos} (hg : Gl X "enumerate") (hm : X.mg "enumerate" = none) (ha : SE X nm ca T cl a c) (hs : isSt a = false) : SI X nm ca T cl (.Tuple elts kk tpos) (.Call (.Name "enumerate" p) [a] [] pos) (.enum c) := by
  refine PI.imp (pi_enumA hg hm (a_cons ha a_nil hs) (by rw [starEach_plain hs]; rfl)) fun τ H R ⟨σ, h, β, rs, rh, p⟩ => ?_
  simp only [evI] at p
  obtain ⟨x, h1, e1, p⟩ := p.bind
  refine ra1 (x := [x]) (h1 := h1) rs rh (by simp [evA, e1, Res.bind]) fun vxs H1 β1 st rs1 rh1 rx => ?_
  obtain ⟨v, rfl, ry⟩ := one_rel rx
  cases x with
  | tup xs =>
    obtain ⟨a, vs, rfl, k1, k2⟩ := ry.tup_inv
    exact ⟨a, vs, rfl, .inr ⟨k1, p H1 β1 _ _ st rh1 (itm_enumT k2.length) ⟨k1, k2⟩⟩⟩
  | lst xs =>
    obtain ⟨a, vs, rfl, k1, k2⟩ := ry.lst_inv
    exact ⟨a, vs, rfl, .inl ⟨k1.sq, p H1 β1 _ _ st rh1 (itm_enumL k2.length) ⟨k1, k2⟩⟩⟩
  | _ => exact p.elim
theorem i_rng3 {a b k : Expr} {c c' c'' : E} {p pos : Pos} (hg : Gl X "range") (hm : X.mg "range" = none) (ha : SE X nm ca T cl a c) (hb : SE X nm ca T cl b c') (hk : SE X nm ca T cl k c'') (hs : isSt a = false) (hs2 : isSt b = false) (hs3 : isSt k = false) : SI X nm ca T cl tg (.Call (.Name "range" p) [a, b, k] [] pos) (.rng3 c c' c'') := by
  refine PI.imp (pi_range3 hg hm (a_cons ha (a_cons hb (a_cons hk a_nil hs3) hs2) hs) (starEach_plain hs) (noStar (by simp [hs2, hs3]))) fun τ H R ⟨σ, h, β, rs, rh, p⟩ => ?_
  simp only [evI] at p
  obtain ⟨x, h1, e1, p⟩ := p.bind
  obtain ⟨y, h2, e2, p⟩ := p.bind
  obtain ⟨z, h3, e3, p⟩ := p.bind
  refine ra1 (x := [x, y, z]) (h1 := h3) rs rh (by simp [evA, e1, e2, e3, Res.bind]) fun vxs H1 β1 st rs1 rh1 rx => ?_
  cases rx with
  | cons r1 r2 =>
    cases r2 with
    | cons r2 r3 =>
      obtain ⟨v, rfl, r4⟩ := one_rel r3
      cases x with
      | int i =>
        cases y with
        | int j =>
          cases z with
          | int kk =>
            simp only at p
            split at p
            · rename_i hb
              simp only [Bool.and_eq_true, decide_eq_true_eq] at hb
              obtain ⟨⟨⟨b1, b2⟩, b3⟩, b4⟩ := hb
              cases r1; cases r2; cases r4
              exact ⟨i, j, kk, _, rfl, ⟨b1, b2, b3, (Int.toNat_of_nonneg b4).symm⟩, p H1 β1 _ _ st rh1 itm_rngC trivial⟩
            · exact p.elim
          | _ => exact p.elim
        | _ => cases z <;> exact p.elim
      | _ => cases y <;> cases z <;> exact p.elim
/-! ### isinstance -/
inductive TK where
  | non | bl | int | str | lst | tup | own (c : Nat)
def tkV (ca : Nat → Addr) : TK → Value
  | .non => .type "NoneType" | .bl => .type "bool" | .int => .type "int" | .str => .type "str" | .lst => .type "list" | .tup => .type "tuple" | .own c => .ref (ca c)
def tyU (ca : Nat → Addr) : Ty → Value
  | .int => .type "int" | .bool => .type "bool" | .str => .type "str" | .tuple => .type "tuple" | .list => .type "list" | .own c => .ref (ca c)
def tkIs : TK → Ty → Bool
  | .bl, .int => true | .bl, .bool => true | .int, .int => true | .str, .str => true | .lst, .list => true | .tup, .tuple => true | .own c, .own e => c == e | _, _ => false
def tkOk (cok : Nat → Bool) : TK → Bool
  | .own c => cok c
  | _ => true
structure KitF (X : Cx) (ca : CaT) (cok : Nat → Bool) : Prop where
  kit : ∀ (t : TK) (ty : Ty), tkOk cok t = true → tyIn cok ty = true → PySem.W.kitOne X.K (tkV ca t) (tyU ca ty) = some (tkIs t ty)
  cls : ∀ c, cok c = true → Cls X.K (ca c) ∧ PySem.W.findIn X.K (.ref (ca c)) "__class__" = some (some (.builtin "object.__class__")) ∧ PySem.W.specialIn X.K (.builtin "object.__class__") "__get__" = some (some (.builtin "getset_descriptor.__get__")) ∧ PySem.W.takesIn X.K (.builtin "object.__class__") = some true ∧ PySem.W.mroIn X.K (ca c) (.type "object") = some true
theorem ty_rel {cok : Nat → Bool} {β : List Addr} {H : Hp} {h : Hs} {x : D} {v : V} (KF : KitF X ca cok) (rh : RelH X.K nm ca β h H) (r : RelD X.K nm ca β H x v) (e : tyOk cok h x = true) : ∃ t, tkOk cok t = true ∧ TyX X.K H v (tkV ca t) ∧ ∀ ty, isTy h x ty = tkIs t ty := by
  have hins : ∀ {a dx c gs}, H a = some (.ins (ca c) dx gs) → cok c = true → TyX X.K H (.ref a) (tkV ca (.own c)) := fun {a dx c gs} ha hc => by
    obtain ⟨c1, c2, c3, c4, c5⟩ := KF.cls c hc
    exact .base (.ins ha c1 c2 c3 c4 c5)
  cases x with
  | non => cases r; exact ⟨.non, rfl, .base .non, fun ty => by cases ty <;> rfl⟩
  | bl b => cases r; exact ⟨.bl, rfl, .base (.bl b), fun ty => by cases ty <;> rfl⟩
  | int i => cases r; exact ⟨.int, rfl, .base (.int i), fun ty => by cases ty <;> rfl⟩
  | str z => cases r; exact ⟨.str, rfl, .base (.str z), fun ty => by cases ty <;> rfl⟩
  | tup xs =>
    obtain ⟨a, vs, rfl, k1, k2⟩ := r.tup_inv
    refine ⟨.tup, rfl, ?_, fun ty => by cases ty <;> rfl⟩
    rcases k1 with (k1 | ⟨o, k1⟩) | ⟨o, its, n, k1, k3, _⟩
    · exact .base (.tup k1)
    · exact .fTuple k1
    · exact .kTuple k1 k3
  | lst xs =>
    obtain ⟨a, vs, rfl, k1, k2⟩ := r.lst_inv
    refine ⟨.lst, rfl, ?_, fun ty => by cases ty <;> rfl⟩
    rcases k1 with ⟨k1 | ⟨o, k1⟩, _⟩ | ⟨o, its, n, k1, k3, _⟩
    · exact .base (.lst k1)
    · exact .base (.frz k1)
    · exact .kList k1 k3
  | ins c fs =>
    cases r with
    | ins h1 h2 h3 => exact ⟨.own c, e, hins h1 e, fun ty => by cases ty <;> rfl⟩
  | ref n =>
    obtain ⟨a, rfl, hβ⟩ := r.ref_inv
    cases q : h[n]? with
    | none => simp [tyOk, q] at e
    | some o =>
      cases o with
      | lst xs =>
        obtain ⟨vs, j1, j2⟩ := rh.obj n _ a q hβ
        exact ⟨.lst, rfl, .base (.lst j1), fun ty => by cases ty <;> simp [isTy, q, tkIs]⟩
      | ins c fs =>
        obtain ⟨dx, gs, j1, j2⟩ := rh.obj n _ a q hβ
        simp only [tyOk, q] at e
        exact ⟨.own c, e, hins j1 e, fun ty => by cases ty <;> simp [isTy, q, tkIs]⟩
      | dct _ => simp [tyOk, q] at e
      | lkd _ => simp [tyOk, q] at e
  | dct _ => simp [tyOk] at e
/-- a class's name as a value -/
def TyE (X : Cx) (ca : CaT) (e : Expr) (t : Ty) : Prop := ∃ cv, PE X e (tC cv) ∧ ClsV cv (tyU ca t)
theorem kitAny_all {K : PySem.W.Frag} {cok : Nat → Bool} {t : TK} (hk : ∀ ty, tyIn cok ty = true → PySem.W.kitOne K (tkV ca t) (tyU ca ty) = some (tkIs t ty)) : ∀ (ts : List Ty), ts.all (tyIn cok) = true → PySem.W.kitAny K (tkV ca t) (ts.map (tyU ca)) = some (ts.any (tkIs t))
  | [], _ => kitAny_nil
  | ty :: ts, h => by
    simp only [List.all_cons, Bool.and_eq_true] at h
    have ih := kitAny_all hk ts h.2
    refine kitAny_cons (hk ty h.1) (fun hb => ?_) (fun hb => ?_)
    · rw [List.any_cons, hb, Bool.false_or]; exact ih
    · rw [List.any_cons, hb, Bool.true_or]
theorem s_isi1 {a te : Expr} {c : E} {t : Ty} {p pos : Pos} (KF : KitF X ca T.cok) (hg : Gl X "isinstance") (hm : X.mg "isinstance" = none) (ha : SE X nm ca T cl a c) (ht : TyE X ca te t) (hs : isSt a = false) (hs2 : isSt te = false) : SE X nm ca T cl (.Call (.Name "isinstance" p) [a, te] [] pos) (.isi c [t]) := by
  obtain ⟨cv, h1, h2⟩ := ht
  refine PE.imp (pe_callB call_isi hg hm PyProof.Rows.boot_isinstance (pa_cons ha (pa_cons h1 pa_nil (starEach_plain hs2)) (starEach_plain hs)) (by decide) (by decide) (starEach_plain hs) (noStar (by simp [hs2]))) fun τ H Q ⟨σ, h, β, rs, rh, q⟩ => ?_
  simp only [evE] at q
  obtain ⟨x, h1, e1, q⟩ := q.bind
  split at q
  · rename_i hc
    rw [Bool.and_eq_true] at hc
    refine re1 rs rh e1 fun vx H1 β1 st rs1 rh1 rx => ?_
    obtain ⟨tk, k1, k2, k3⟩ := ty_rel KF rh1 rx hc.1
    refine ⟨vx, cv, tkV ca tk, tyU ca t, tkIs tk t, rfl, h2, k2, KF.kit tk t k1 (by simpa using hc.2), ?_⟩
    have : ([t].any (isTy h1 x)) = tkIs tk t := by simp [k3 t]
    rw [this] at q
    exact PostE.here (q.step st) rh1 (.bl _)
  · exact q.elim
inductive TyEs (X : Cx) (ca : CaT) : List Expr → List Ty → Prop
  | nil : TyEs X ca [] []
  | cons {e : Expr} {t : Ty} {es : List Expr} {ts : List Ty} : TyE X ca e t → isSt e = false → TyEs X ca es ts → TyEs X ca (e :: es) (t :: ts)
theorem tyEs_pa : ∀ {es : List Expr} {ts : List Ty}, TyEs X ca es ts → ∃ cvs, PA X es (fun _ H Q => Q cvs H) ∧ Paired ClsV cvs (ts.map (tyU ca)) ∧ es.length = cvs.length
  | _, _, .nil => ⟨[], PA.imp pa_nil fun _ _ _ q => q, .nil, rfl⟩
  | _, _, .cons ⟨cv, h1, h2⟩ hs r => by
    obtain ⟨cvs, k1, k2, k3⟩ := tyEs_pa r
    exact ⟨cv :: cvs, PA.imp (pa_cons h1 k1 (starEach_plain hs)) fun _ _ _ q => q, .cons h2 k2, by simp [k3]⟩
theorem s_isiT {a : Expr} {es : List Expr} {c : E} {ts : List Ty} {k : Nat} {p pt pos : Pos} (KF : KitF X ca T.cok) (hg : Gl X "isinstance") (hm : X.mg "isinstance" = none) (ha : SE X nm ca T cl a c) (ht : TyEs X ca es ts) (hs : isSt a = false) (hl : es.length ≤ 100) : SE X nm ca T cl (.Call (.Name "isinstance" p) [a, .Tuple es k pt] [] pos) (.isi c ts) := by
  obtain ⟨cvs, h1, h2, h3⟩ := tyEs_pa ht
  refine PE.imp (pe_callB call_isiT hg hm PyProof.Rows.boot_isinstance (pa_cons ha (pa_cons (pe_tup h1) pa_nil rfl) (starEach_plain hs)) (by decide) (by decide) (starEach_plain hs) rfl) fun τ H Q ⟨σ, h, β, rs, rh, q⟩ => ?_
  simp only [evE] at q
  obtain ⟨x, h1, e1, q⟩ := q.bind
  split at q
  · rename_i hc
    rw [Bool.and_eq_true] at hc
    refine re1 rs rh e1 fun vx H1 β1 st rs1 rh1 rx => ?_
    refine ⟨by rw [← h3, sizeLine_eq]; omega, fun tp ntp => ?_⟩
    obtain ⟨tk, k1, k2, k3⟩ := ty_rel KF (rh1.laid ntp) (rx.mono (Stp.laid ntp)) hc.1
    refine ⟨vx, tp, cvs, tkV ca tk, ts.map (tyU ca), ts.any (tkIs tk), rfl, upd_same, h2, k2, kitAny_all (fun ty hty => KF.kit tk ty k1 hty) ts hc.2, ?_⟩
    have : ts.any (isTy h1 x) = ts.any (tkIs tk) := by congr 1; funext ty; exact k3 ty
    rw [this] at q
    exact q _ _ _ (st.trans (Stp.laid ntp)) (rh1.laid ntp) (.bl _)
  · exact q.elim
end
end MC

set_option Elab.async false
set_option linter.all false
set_option maxRecDepth 100000
set_option maxHeartbeats 4000000
namespace MC
open PySem PySem.Spec PyProof.Rows L2
/-! ### own len, own == -/
def LenF (X : Cx) (nm : Nat → Str) (ca : CaT) (n : Nat) (cf : List D → Hs → Res D) (c : Nat) : Prop := ∃ g, PySem.W.findIn X.K (.ref (ca c)) "__len__" = some (some (.ref g)) ∧ PySem.W.isFn X.K (.ref g) = true ∧ FnF X nm ca n cf g
def EqF (X : Cx) (nm : Nat → Str) (ca : CaT) (n : Nat) (cf : List D → Hs → Res D) (c : Nat) : Prop := PySem.W.notFirst X.K (ca c) (.ref (ca c)) = true ∧ ∃ g, PySem.W.findIn X.K (.ref (ca c)) "__eq__" = some (some (.ref g)) ∧ PySem.W.isFn X.K (.ref g) = true ∧ FnF X nm ca n cf g
/-- len(x) by an own __len__ -/
def rLenOwn (X : Cx) (n : Nat) : List V → Hp → VK → Prop := fun xs H Q => ∃ a dx fs C g fd ps sp, xs = [V.ref a] ∧ H a = some (.ins C dx fs) ∧ PySem.W.findIn X.K (.ref C) "__len__" = some (some (.ref g)) ∧ PySem.W.isFn X.K (.ref g) = true ∧ Binds X.K fd ps [] ∧ FnOk X.prog X.w X.K X.mg X.base CX0 n g fd ps sp ∧
  sp [.ref a] H (fun z H' => ∃ i : Int, z = .int i ∧ 0 ≤ i ∧ i < 2 ^ 62 ∧ Q (.int i) H') E0
theorem call_lenOwn {X : Cx} {n : Nat} (hr : Room (n + 1) X.A) : CallR X (.builtin "len") (rLenOwn X n) := by
  intro pins s σ H xs us Q I r h
  obtain ⟨a, dx, fs, C, g, fd, ps, sp, rfl, ea, hs, hf, hb, F, q⟩ := h
  obtain ⟨u, rfl, ru⟩ := r.one
  cases (show u = Value.ref a from ru)
  obtain ⟨mA, O, _, _, _, _⟩ := ins_get I.hok ea
  obtain ⟨od, J, _⟩ := O.look
  obtain ⟨m, hF⟩ := I.fr
  have hl : ([Value.ref a] ++ ([] : List Value)).length = ps.length := by
    rw [← F.len _ _ _ _ q]; rfl
  refine PySem.W.len_K hF I.ok.mod.kin J hs hf (wpAny_call (codeAny_mono (F.run X.A.in1 X.stack s H ⟨[.ref a], []⟩ [.ref a] [.ref a] _ E0 hr.in1 I.env0.in1 (hb _ [.ref a] I.kIn hl) (.cons rfl .nil) q) fun r s' hq => ?_))
  cases r with
  | error er => exact False.elim ((pass0 (X := X.nox)) pins σ H s er s' (I.wish _) hq)
  | ok fl =>
    cases fl with
    | ret u =>
      obtain ⟨v, H', I3, rv, i, rfl, h0, h1, q3⟩ := I.after hq
      obtain ⟨t, e⟩ := (show ∃ t, u = Value.int i t from rv)
      subst e
      exact ⟨⟨h0, by omega⟩, .int i, H', I3.tok _, ⟨_, rfl⟩, q3⟩
    | next => exact False.elim hq
    | brk => exact False.elim hq
    | cont => exact False.elim hq
theorem cmpbackM {P : Value → Shared → Prop} {z : V} {v : Value} {s' : Shared} (r : RelV z v) (h : P v s') : PySem.W.CmpBack P v s' := by
  cases z with
  | non => cases (show v = Value.none from r); exact h
  | bl b => cases (show v = Value.bool b from r); exact h
  | int i =>
    obtain ⟨t, e⟩ := (show ∃ t, v = Value.int i t from r)
    cases e
    exact h
  | str x =>
    obtain ⟨t, e⟩ := (show ∃ t, v = Value.str x t from r)
    cases e
    exact h
  | byt b =>
    obtain ⟨t, e⟩ := (show ∃ t, v = Value.bytes b t from r)
    cases e
    exact h
  | flt b =>
    obtain ⟨t, e⟩ := (show ∃ t, v = Value.float b t from r)
    cases e
    exact h
  | ref a => cases (show v = Value.ref a from r); exact h
  | ty n => cases (show v = Value.type n from r); exact h
def rEqOwn (X : Cx) (n : Nat) : L2.R2 := fun x y H Q => ∃ a dx fs C b dy gs g fd ps sp, x = V.ref a ∧ y = V.ref b ∧ H a = some (.ins C dx fs) ∧ H b = some (.ins C dy gs) ∧ PySem.W.notFirst X.K C (.ref C) = true ∧ PySem.W.findIn X.K (.ref C) "__eq__" = some (some (.ref g)) ∧ PySem.W.isFn X.K (.ref g) = true ∧ Binds X.K fd ps [] ∧ FnOk X.prog X.w X.K X.mg X.base CX0 n g fd ps sp ∧ sp [.ref a, .ref b] H Q E0
theorem op_eqOwn {X : Cx} {n : Nat} (hr : Room n X.A) : OpR X (compareOp .Eq) (rEqOwn X n) := by
  intro pins s σ H x y v u Q I rx ry h
  obtain ⟨a, dx, fs, C, b, dy, gs, g, fd, ps, sp, rfl, rfl, ea, eb, hn, hs, hf, hb, F, q⟩ := h
  cases (show v = Value.ref a from rx)
  cases (show u = Value.ref b from ry)
  obtain ⟨mA, O, _, _, _, _⟩ := ins_get I.hok ea
  obtain ⟨od, J, _⟩ := O.look
  obtain ⟨mB, O', _, _, _, _⟩ := ins_get I.hok eb
  obtain ⟨od', J', _⟩ := O'.look
  obtain ⟨m, hF⟩ := I.fr
  show wpAny _ _ (richCompare .Eq _ _) _ _ _
  refine PySem.W.cmp_K (op := .Eq) (tb := .ref C) hr.units0 hF I.ok.mod.kin J J'.type hn hs hf ?_
  refine wpAny_mono (run_fn (us := [.ref a, .ref b]) (vs := [.ref a, .ref b]) F hr hb .nil pass0 I (.cons rfl (.cons rfl .nil)) q) (fun w s' z => ?_) fun _ _ x => x
  obtain ⟨z', H', I', rz, qz⟩ := z
  exact cmpbackM rz ⟨z', H', I', rz, qz⟩
section
variable {X : Cx} {nm : Nat → Str} {ca : CaT} {T : Tab} {cl : Nat → List D → Hs → Res D}
theorem s_iln {a : Expr} {c : E} {n : Nat} {p pos : Pos} (hm : ∀ c f, T.meth c T.len = some f → LenF X nm ca n (cl f) c) (hr : Room (n + 1) X.A) (hg : Gl X "len") (hmg : X.mg "len" = none) (ha : SE X nm ca T cl a c) (hs : isSt a = false) : SE X nm ca T cl (.Call (.Name "len" p) [a] [] pos) (.iln c) := by
  refine PE.imp (pe_callB (call_lenOwn hr) hg hmg PySem.boot_len (a_cons ha a_nil hs) (by decide) (by decide) (starEach_plain hs) rfl) fun τ H Q ⟨σ, h, β, rs, rh, p⟩ => ?_
  simp only [evE] at p
  obtain ⟨x, h1, e1, p⟩ := p.bind
  refine ra1 (x := [x]) (h1 := h1) rs rh (by simp [evA, e1, Res.bind]) fun vxs H1 β1 st rs1 rh1 rx => ?_
  obtain ⟨v, rfl, ry⟩ := one_rel rx
  cases q : x.fields h1 with
  | none => simp only [q] at p; exact p.elim
  | some cf =>
    obtain ⟨ci, fs⟩ := cf
    simp only [q] at p
    cases q3 : T.meth ci T.len with
    | none => simp only [q3] at p; exact p.elim
    | some f =>
      simp only [q3] at p
      obtain ⟨g, f1, f2, fd, ps, hbn, F⟩ := hm ci f q3
      obtain ⟨a1, dx, gs, rfl, k1, k2⟩ := fields_rel rh1 ry q
      refine ⟨a1, dx, gs, ca ci, g, fd, ps, _, rfl, k1, f1, f2, hbn, F, [x], h1, β1, .cons ry .nil, rh1, ?_⟩
      obtain ⟨d, h5, e5, p⟩ := p.bind
      rw [e5]
      intro w H5 β5 st5 rh5 rd5
      cases d with
      | int i =>
        simp only at p
        split at p
        · rename_i hi
          simp only [Bool.and_eq_true, decide_eq_true_eq] at hi
          cases rd5
          exact ⟨i, rfl, hi.1, hi.2, p _ _ _ (st.trans st5) rh5 (.int i)⟩
        · exact p.elim
      | _ => exact p.elim
theorem eq_own {n : Nat} {β : List Addr} {H : Hp} {h : Hs} {x y : D} {vx vy : V} {Q : VK} (hm : ∀ c f, T.meth c T.eq = some f → EqF X nm ca n (cl f) c) (rh : RelH X.K nm ca β h H) (rx : RelD X.K nm ca β H x vx) (ry : RelD X.K nm ca β H y vy)
    (p : PostE X.K nm ca β H (match x.fields h, y.fields h with
    | some (c, _), some (e, _) => if c = e then match T.meth c T.eq with
      | some f => (cl f [x, y] h).bind fun d h => (match d with
        | .bl b => .ok (.bl b) h
        | _ => .no)
      | none => .no else .no
    | _, _ => .no) Q) : rEqOwn X n vx vy H (fun z H' => (∃ b, z = .bl b) ∧ Q z H') := by
  cases q : x.fields h with
  | none => simp only [q] at p; exact p.elim
  | some cf =>
    obtain ⟨ci, fs⟩ := cf
    cases q2 : y.fields h with
    | none => simp only [q, q2] at p; exact p.elim
    | some cf2 =>
      obtain ⟨ce, gs⟩ := cf2
      simp only [q, q2] at p
      split at p
      · rename_i hc
        subst hc
        cases q3 : T.meth ci T.eq with
        | none => simp only [q3] at p; exact p.elim
        | some f =>
          simp only [q3] at p
          obtain ⟨f0, g, f1, f2, fd, ps, hbn, F⟩ := hm ci f q3
          obtain ⟨a1, dx, ga, rfl, k1, k2⟩ := fields_rel rh rx q
          obtain ⟨b1, dy, gb, rfl, k3, k4⟩ := fields_rel rh ry q2
          refine ⟨a1, dx, ga, ca ci, b1, dy, gb, g, fd, ps, _, rfl, rfl, k1, k3, f0, f1, f2, hbn, F, [x, y], h, β, .cons rx (.cons ry .nil), rh, ?_⟩
          obtain ⟨d, h5, e5, p⟩ := p.bind
          rw [e5]
          intro w H5 β5 st5 rh5 rd5
          cases d with
          | bl i =>
            cases rd5
            exact ⟨⟨i, rfl⟩, p _ _ _ st5 rh5 (.bl i)⟩
          | _ => exact p.elim
      · exact p.elim
/-- a test by a value that is a bool -/
theorem rt_re {K : PySem.W.Frag} {ev : Sg → Hs → Res D} {τ : L2.St} {H : Hp} {Q : Bool → Hp → Prop} (hb : ∀ σ h d h', ev σ h = .ok d h' → ∃ k, d = .bl k) (q : RT K nm ca (fun σ h => (ev σ h).bind tst) τ H Q) : RE K nm ca ev τ H fun z H' => ∃ k, z = .bl k ∧ Q k H' := by
  obtain ⟨σ, h, β, rs, rh, p⟩ := q
  refine ⟨σ, h, β, rs, rh, ?_⟩
  obtain ⟨d, h1, e1, p⟩ := p.bind
  obtain ⟨k, rfl⟩ := hb σ h d h1 e1
  rw [e1]
  intro v H' β' st rh' rd
  cases rd
  exact ⟨k, rfl, p H' β' st rh'⟩
theorem op_eqB {n : Nat} (hr : Room n X.A) : OpR X (compareOp .Eq) (fun x y H Q => rEqOwn X n x y H (fun z H' => (∃ b, z = .bl b) ∧ Q z H')) := fun pins s σ H x y v u Q I rx ry h => wpAny_mono (op_eqOwn hr pins s σ H x y v u _ I rx ry h) (fun _ _ ⟨z, H', I', r, _, q⟩ => ⟨z, H', I', r, q⟩) fun _ _ e => e
theorem ieq_imp {c c' : E} {n : Nat} (hm : ∀ c f, T.meth c T.eq = some f → EqF X nm ca n (cl f) c) : ∀ τ H Q, RE X.K nm ca (evE T cl (.ieq c c')) τ H Q → tOp (fun x y H Q => rEqOwn X n x y H (fun z H' => (∃ b, z = .bl b) ∧ Q z H')) (RE X.K nm ca (evE T cl c)) (RE X.K nm ca (evE T cl c')) τ H Q := by
  intro τ H Q ⟨σ, h, β, rs, rh, p⟩
  simp only [evE] at p
  obtain ⟨x, h1, e1, p⟩ := p.bind
  obtain ⟨y, h2, e2, p⟩ := p.bind
  exact re2 rs rh e1 e2 fun vx vy H2 β2 st rs2 rh2 rx ry => eq_own hm rh2 rx ry (p.step st)
theorem s_ieq {a b : Expr} {c c' : E} {n : Nat} {pos : Pos} (hm : ∀ c f, T.meth c T.eq = some f → EqF X nm ca n (cl f) c) (hr : Room n X.A) (ha : SE X nm ca T cl a c) (hb : SE X nm ca T cl b c') (hs : isSetE b = false) : SE X nm ca T cl (.Compare a [.Eq] [b] pos) (.ieq c c') :=
  PE.imp (pe_cmpR (op_eqB hr) ha hb (nomarkS hs)) (ieq_imp hm)
theorem ieq_bl {c c' : E} (σ : Sg) (h : Hs) (d : D) (h' : Hs) (e : evE T cl (.ieq c c') σ h = .ok d h') : ∃ k, d = .bl k := by
  simp only [evE] at e
  cases q1 : evE T cl c σ h with
  | ok x h1 =>
    rw [q1] at e
    simp only [Res.bind] at e
    cases q2 : evE T cl c' σ h1 with
    | ok y h2 =>
      rw [q2] at e
      simp only at e
      split at e
      · split at e
        · split at e
          · split at e
            · split at e
              · cases e; exact ⟨_, rfl⟩
              · cases e
            · cases e
            · cases e
          · cases e
        · cases e
      · cases e
    | ex _ _ => rw [q2] at e; cases e
    | no => rw [q2] at e; cases e
  | ex _ _ => rw [q1] at e; cases e
  | no => rw [q1] at e; cases e
theorem t_ieq {a b : Expr} {c c' : E} {n : Nat} {pos : Pos} (hm : ∀ c f, T.meth c T.eq = some f → EqF X nm ca n (cl f) c) (hr : Room n X.A) (ha : SE X nm ca T cl a c) (hb : SE X nm ca T cl b c') (hs : isSetE b = false) : ST X nm ca T cl (.Compare a [.Eq] [b] pos) (.ieq c c') :=
  PT.imp (pt_cmpR (op_eqB hr) ha hb (nomarkS hs)) fun τ H Q q => ieq_imp hm _ _ _ (rt_re ieq_bl q)
/-! ### chains -/
theorem chn_imp {ka kb kc : E} {o1 o2 : CmpOp} {r r' : L2.R2} (ok : ∀ (β : List Addr) (H : Hp) (h : Hs) (x y d : D) (vx vy : V) (Q : VK), (o1 = .Is ∨ o1 = .IsNot → y = .non) → RelH X.K nm ca β h H → RelD X.K nm ca β H x vx → RelD X.K nm ca β H y vy → opCmp h o1 x y = some d → PostE X.K nm ca β H (.ok d h) Q → r vx vy H Q)
    (ok' : ∀ (β : List Addr) (H : Hp) (h : Hs) (x y d : D) (vx vy : V) (Q : VK), (o2 = .Is ∨ o2 = .IsNot → y = .non) → RelH X.K nm ca β h H → RelD X.K nm ca β H x vx → RelD X.K nm ca β H y vy → opCmp h o2 x y = some d → PostE X.K nm ca β H (.ok d h) Q → r' vx vy H Q)
    (h1 : o1 ≠ .Is ∧ o1 ≠ .IsNot) (h2 : o2 ≠ .Is ∧ o2 ≠ .IsNot) : ∀ τ H Q, RE X.K nm ca (evE T cl (.chn o1 o2 ka kb kc)) τ H Q → tChain r r' (RE X.K nm ca (evE T cl ka)) (RE X.K nm ca (evE T cl kb)) (RE X.K nm ca (evE T cl kc)) τ H Q := by
  intro τ H Q ⟨σ, h, β, rs, rh, p⟩
  simp only [evE] at p
  obtain ⟨x, g1, e1, p⟩ := p.bind
  obtain ⟨y, g2, e2, p⟩ := p.bind
  cases q : opCmp g2 o1 x y with
  | none => simp only [q] at p; exact p.elim
  | some d =>
    obtain ⟨k, rfl⟩ := opCmp_bl q
    refine re2 rs rh e1 e2 fun vx vy H2 β2 st rs2 rh2 rx ry => ok β2 H2 g2 x y (.bl k) vx vy _ (fun z => (z.elim h1.1 h1.2).elim) rh2 rx ry q ?_
    intro v H3 β3 st3 rh3 rd
    cases rd
    refine ⟨k, rfl, ?_⟩
    cases k with
    | true =>
      rw [if_pos rfl]
      simp only [q] at p
      obtain ⟨z, g3, e3, p⟩ := p.bind
      obtain ⟨d, e4, p⟩ := p.of
      refine re1 (rs2.mono st3) rh3 e3 fun vz H4 β4 st4 rs4 rh4 rz => ?_
      exact ok' β4 H4 g3 y z d vy vz Q (fun z => (z.elim h2.1 h2.2).elim) rh4 ((ry.mono st3).mono st4) rz e4 (((p.step st).step st3).step st4)
    | false =>
      rw [if_neg (by decide)]
      simp only [q] at p
      exact PostE.here ((p.step st).step st3) rh3 (.bl _)
theorem chn_bl {ka kb kc : E} {o1 o2 : CmpOp} (σ : Sg) (h : Hs) (d : D) (h' : Hs) (e : evE T cl (.chn o1 o2 ka kb kc) σ h = .ok d h') : ∃ k, d = .bl k := by
  simp only [evE] at e
  cases q1 : evE T cl ka σ h with
  | ok x h1 =>
    rw [q1] at e
    simp only [Res.bind] at e
    cases q2 : evE T cl kb σ h1 with
    | ok y h2 =>
      rw [q2] at e
      simp only at e
      split at e
      · cases q3 : evE T cl kc σ h2 with
        | ok z h3 =>
          rw [q3] at e
          simp only at e
          cases q4 : opCmp h3 o2 y z with
          | none => rw [q4] at e; cases e
          | some d' =>
            rw [q4] at e
            cases e
            exact opCmp_bl q4
        | ex _ _ => rw [q3] at e; cases e
        | no => rw [q3] at e; cases e
      · cases e; exact ⟨_, rfl⟩
      · cases e
    | ex _ _ => rw [q2] at e; cases e
    | no => rw [q2] at e; cases e
  | ex _ _ => rw [q1] at e; cases e
  | no => rw [q1] at e; cases e
theorem lastOk {o1 o2 : CmpOp} {b c : Expr} (hs : isSetE c = false) : lastMarks [o1, o2] [b, c] = false := by
  have : lastMarks [o1, o2] [b, c] = behindInMarks o2 c := by simp [lastMarks]
  rw [this]
  exact nomarkS hs
theorem s_chn' {a b c : Expr} {ka kb kc : E} {o1 o2 : CmpOp} {pos : Pos} (hu : X.A.units + 64 < cLine) (ha : SE X nm ca T cl a ka) (hb : SE X nm ca T cl b kb) (hc : SE X nm ca T cl c kc) (hs2 : isSetE c = false)
    (h1 : o1 ≠ .Is ∧ o1 ≠ .IsNot) (h2 : o2 ≠ .Is ∧ o2 ≠ .IsNot) : SE X nm ca T cl (.Compare a [o1, o2] [b, c] pos) (.chn o1 o2 ka kb kc) := by
  obtain ⟨r, o, ok⟩ := cmp_use (X := X) (nm := nm) (ca := ca) (hu := hu) (op := o1)
  obtain ⟨r', o', ok'⟩ := cmp_use (X := X) (nm := nm) (ca := ca) (hu := hu) (op := o2)
  exact PE.imp (pe_chain o o' ha hb hc (lastOk hs2)) (chn_imp ok ok' h1 h2)
theorem t_chn {a b c : Expr} {ka kb kc : E} {o1 o2 : CmpOp} {pos : Pos} (hu : X.A.units + 64 < cLine) (ha : SE X nm ca T cl a ka) (hb : SE X nm ca T cl b kb) (hc : SE X nm ca T cl c kc) (hs2 : isSetE c = false)
    (h1 : o1 ≠ .Is ∧ o1 ≠ .IsNot) (h2 : o2 ≠ .Is ∧ o2 ≠ .IsNot) : ST X nm ca T cl (.Compare a [o1, o2] [b, c] pos) (.chn o1 o2 ka kb kc) := by
  obtain ⟨r, o, ok⟩ := cmp_use (X := X) (nm := nm) (ca := ca) (hu := hu) (op := o1)
  obtain ⟨r', o', ok'⟩ := cmp_use (X := X) (nm := nm) (ca := ca) (hu := hu) (op := o2)
  exact PT.imp (pt_chain o o' ha hb hc (lastOk hs2)) fun τ H Q q => chn_imp ok ok' h1 h2 _ _ _ (rt_re chn_bl q)
/-! ### a dict of pairs, looked into at once -/
theorem kvsS_inv {y : D} {xs : List D} {kvs : List (Str × D)} (e : kvsS (y :: xs) = some kvs) : ∃ k w ks, y = .tup [.str k, w] ∧ kvsS xs = some ks ∧ kvs = (k, w) :: ks := by
  unfold kvsS at e
  split at e
  · rename_i h1; cases h1
  · rename_i h1
    cases q : kvsS xs with
    | none => cases h1; rw [q] at e; cases e
    | some ks0 => cases h1; rw [q] at e; cases e; exact ⟨_, _, _, rfl, rfl, rfl⟩
  · cases e
theorem kvs_rel {K : PySem.W.Frag} {β : List Addr} {H : Hp} : ∀ {xs : List D} {vs : List V} {kvs : List (Str × D)}, RelL K nm ca β H xs vs → kvsS xs = some kvs → ∃ (ps : List Addr) (ks : List (Key × V)), vs = ps.map V.ref ∧ Paired (fun p kv => SqT K H p [kV kv.1, kv.2]) ps ks ∧ ∀ (x : Str) (o : Option D) (acc : List (Key × V)) (d : D), (∀ d, o = some d → ∃ v, valV acc (.inr x) = some v ∧ RelD K nm ca β H d v) → lookS x kvs o = some d → ∃ v, valV (mergeK acc ks) (.inr x) = some v ∧ RelD K nm ca β H d v
  | _, _, _, .nil, e => by
    cases e
    exact ⟨[], [], rfl, .nil, fun x o acc d h e => h d e⟩
  | y :: xs, v :: vs, kvs, .cons r t, e => by
    obtain ⟨k, w, ks0, rfl, q, rfl⟩ := kvsS_inv e
    obtain ⟨ps, ks, e1, e2, e3⟩ := kvs_rel t q
    obtain ⟨a, us, rfl, k1, k2⟩ := r.tup_inv
    cases k2 with
    | cons r1 r2 =>
      obtain ⟨z, rfl, r3⟩ := one_rel r2
      cases r1
      refine ⟨a :: ps, (.inr k, z) :: ks, by rw [e1]; rfl, .cons k1 e2, fun x o acc d h e => ?_⟩
      unfold lookS at e
      refine e3 x (if x = k then some w else o) (putK acc (.inr k) z) d (fun d' he => ?_) e
      rw [valV_put]
      by_cases hx : x = k
      · subst hx
        rw [if_pos rfl] at he ⊢
        cases he
        exact ⟨z, rfl, r3⟩
      · rw [if_neg hx] at he
        rw [if_neg (fun q => hx (Sum.inr.inj q))]
        exact h d' he
theorem noSl {b : Expr} (h : isSl b = false) : NoSl b := by
  intro o i
  cases b <;> first | rfl | cases h
theorem s_dpl {es : List Expr} {k : Expr} {c : A} {c' : E} {p lp cp pos : Pos} (hcalm : X.calm = true) (hu : X.A.units + 64 < cLine) (hg : Gl X "dict") (hm : X.mg "dict" = none) (hA : SA X nm ca T cl es c) (hk : SE X nm ca T cl k c') (hs : isSl k = false) : SE X nm ca T cl (.Subscript (.Call (.Name "dict" p) [.List es lp] [] cp) k pos) (.dpl c c') := by
  refine PE.imp (pe_dget (by omega) (pe_callTy (call_dictP hcalm) hg hm (by decide +kernel) (pa_cons (pe_lst hA) pa_nil (starEach_plain rfl)) (by decide) (by decide) (starEach_plain rfl) rfl) hk (noSl hs)) fun τ H Q ⟨σ, h, β, rs, rh, q⟩ => ?_
  simp only [evE] at q
  obtain ⟨xs, h1, e1, q⟩ := q.bind
  split at q
  · rename_i hz
    cases q2 : kvsS xs with
    | none => simp only [q2] at q; exact q.elim
    | some kvs =>
      simp only [q2] at q
      obtain ⟨y, h2, e2, q⟩ := q.bind
      refine ra1 rs rh e1 fun vxs H1 β1 st rs1 rh1 rx => ⟨by rw [← rx.length]; exact hz, fun lq hlq => ?_⟩
      have rx' := rx.mono (Stp.laid (o := .lst vxs) hlq)
      obtain ⟨ps, ks, rfl, f2, f3⟩ := kvs_rel rx' q2
      refine ⟨lq, ps, ks, rfl, SqL.of upd_same, f2, fun dp hdp => ?_⟩
      have st2 : Stp β1 H1 β1 (upd (upd H1 lq (.lst (ps.map V.ref))) dp (.dK (mergeK [] ks))) := (Stp.laid hlq).trans (Stp.laid hdp)
      refine re1 (rs1.mono st2) ((rh1.laid hlq).laid hdp) e2 fun vy H3 β3 st3 rs3 rh3 ry => ?_
      cases y with
      | str x =>
        cases ry
        obtain ⟨d, e3, q⟩ := q.of
        obtain ⟨v, g1, g2⟩ := f3 x none [] d (fun d' z => nomatch z) e3
        have hd3 : H3 dp = some (.dK (mergeK [] ks)) := st3.oth dp _ upd_same ((rh1.laid (o := .lst (ps.map V.ref)) hlq).notin hdp)
        refine ⟨dp, v, rfl, ?_, ?_⟩
        · rw [← g1]; exact DGet.k (k := .inr x) hd3
        · exact PostE.here (((q.step st).step st2).step st3) rh3 ((g2.mono (Stp.laid hdp)).mono st3)
      | _ => exact q.elim
  · exact q.elim
end
end MC

set_option Elab.async false
set_option linter.all false
set_option maxRecDepth 100000
set_option maxHeartbeats 4000000
namespace MC
open PySem PySem.Spec PyProof.Rows L2
/-! ### dicts whose keys are tuples -/
section
variable {X : Cx} {nm : Nat → Str} {ca : CaT} {pins : List (Addr × Obj)} {σ : L2.St} {β : List Addr} {H : Hp} {s : Shared}
mutual
theorem nest_of (I : L2.Inv X pins σ H s) : ∀ {d : D} {v : V} {k : NestedKey} {u : Value}, RelD X.K nm ca β H d v → d.key = some k → RelV v u → NestedIs s.heap k u
  | _, _, _, _, .non, e, r => by cases e; cases r; exact .none
  | _, _, _, _, .bl _, e, r => by cases e; cases r; exact .bool rfl
  | _, _, _, _, .int _, e, r => by cases e; obtain ⟨t, rfl⟩ := r; exact .int _ _
  | _, _, _, _, .str _, e, r => by cases e; obtain ⟨t, rfl⟩ := r; exact .text _ _
  | _, _, _, _, .tup h l, e, r => by
    cases r
    simp only [D.key, Option.map_eq_some_iff] at e
    obtain ⟨ks, e1, rfl⟩ := e
    obtain ⟨its, rv, ⟨o, h1, h2, n, h3⟩, _⟩ := I.tuple h
    exact .tup h1 h2 h3 (by simpa using nests_of I l e1 rv)
  | _, _, _, _, .lst _ _, e, _ => by simp [D.key] at e
  | _, _, _, _, .ins _ _ _, e, _ => by simp [D.key] at e
  | _, _, _, _, .dct _ _ _, e, _ => by simp [D.key] at e
  | _, _, _, _, .ref _, e, _ => by simp [D.key] at e
theorem nests_of (I : L2.Inv X pins σ H s) : ∀ {ds : List D} {vs : List V} {ks : List NestedKey} {us : List Value}, RelL X.K nm ca β H ds vs → D.keys ds = some ks → Vals vs us → NestedAll s.heap ks us
  | _, _, _, _, .nil, e, r => by cases e; cases r; exact .nil
  | _, _, _, _, .cons h t, e, r => by
    cases r with
    | cons r1 r2 =>
      simp only [D.keys] at e
      split at e
      · rename_i e1 e2
        cases e
        exact .cons (nest_of I h e1 r1) (nests_of I t e2 r2)
      · cases e
end
theorem key_is (I : L2.Inv X pins σ H s) {d : D} {a : Addr} {k : NestedKey} (r : RelD X.K nm ca β H d (.ref a)) (e : d.tkey = some k) : (nestedKind X.prog X.w).is s.heap k a := by
  obtain ⟨e1, e2, _⟩ := tkey_key e
  exact ⟨nest_of I r e1 rfl, e2⟩
/-- entries as they lie -/
abbrev Lies (xs : List (NestedKey × Addr × V)) (ys : List (NestedKey × Addr × Value)) : Prop := Paired (fun (p : NestedKey × Addr × V) (q : NestedKey × Addr × Value) => p.1 = q.1 ∧ p.2.1 = q.2.1 ∧ RelV p.2.2 q.2.2) xs ys
theorem RelK.is (I : L2.Inv X pins σ H s) : ∀ {kvs : List (D × D)} {xs : List (NestedKey × Addr × V)} {ys : List (NestedKey × Addr × Value)}, RelK X.K nm ca β H kvs xs → Lies xs ys → ∀ y ∈ ys, (nestedKind X.prog X.w).is s.heap y.1 y.2.1
  | _, _, _, .nil, r, y, hy => by cases r; cases hy
  | _, _, _, .cons e h1 h2 t, r, y, hy => by
    cases r with
    | cons r1 r2 =>
      rcases List.mem_cons.mp hy with rfl | hy
      · rw [← r1.1, ← r1.2.1]
        exact key_is I h1 e
      · exact RelK.is I t r2 y hy
theorem dn_at (I : L2.Inv X pins σ H s) {a : Addr} {ob : Obj} {kvs : List (D × D)} {xs : List (NestedKey × Addr × V)} (e : DN X.prog X.w H a ob xs) (r : RelK X.K nm ca β H kvs xs) : s.heap.get? a = some ob ∧ xs.length ≤ sizeLine ∧ (a == sysModules) = false ∧ ∃ ys, Lies xs ys ∧ (∃ es ep, ob.ExactDict ∧ ob.data = .dict es ep ∧ es.toList = ys.map (entryOfKey (nestedKind X.prog X.w))) ∧ s.heap.DictOfH (nestedKind X.prog X.w) a ys := by
  have key : ObjOk X.prog X.w H s.heap a (dN X.prog X.w a ob xs) := by
    rcases e with e | e
    · exact I.hok a _ e
    · exact (I.hok a _ e).2
  obtain ⟨⟨h1, z, hd, ys, l, es, ep, h2, h3, h4, h5⟩, _, _⟩ := key
  exact ⟨h1, z, hd, ys, l, ⟨es, ep, h2, h3, h4⟩, ob, es, ep, h1, h2, h3, h4, RelK.is I r l, h5⟩
theorem dn_ok {P : Program} {w : World} {H' : Hp} {h' : Heap} {a : Addr} {xs : List (NestedKey × Addr × V)} {ys : List (NestedKey × Addr × Value)} (z : xs.length ≤ sizeLine) (hd : (a == sysModules) = false) (l : Lies xs ys) (dd : h'.DictOfH (nestedKind P w) a ys) : ∃ ob, ObjOk P w H' h' a (dN P w a ob xs) := by
  obtain ⟨o, es, ep, h1, h2, h3, h4, _, h5⟩ := dd
  refine ⟨o, ⟨h1, z, hd, ys, l, es, ep, h2, h3, h4, h5⟩, ⟨o, h1⟩, ?_⟩
  rintro g1 g2 ⟨e1, z, hd, ys, l, es, ep, h2, h3, h4, h5⟩ k
  exact ⟨k o e1, z, hd, ys, l, es, ep, h2, h3, h4, h5⟩
/-- a look-up -/
theorem get_rel : ∀ {kvs : List (D × D)} {xs : List (NestedKey × Addr × V)} {ys : List (NestedKey × Addr × Value)}, RelK X.K nm ca β H kvs xs → Lies xs ys → ∀ k, (∀ d, getK k kvs = some d → ∃ v p, atKey ys k = some p ∧ RelD X.K nm ca β H d v ∧ RelV v p.2) ∧ (getK k kvs = none → atKey ys k = none)
  | _, _, _, .nil, r, k => by cases r; exact ⟨(fun d e => by cases e), fun _ => rfl⟩
  | _, _, _, .cons (d := d0) (e := e0) (k := k0) e h1 h2 t, r, k => by
    cases r with
    | @cons p q ps qs r1 r2 =>
      obtain ⟨i1, i2⟩ := get_rel t r2 k
      obtain ⟨j1, j2, j3⟩ := r1
      simp only at j1 j2 j3
      have ek := (tkey_key e).1
      by_cases hk : k0 = k
      · subst hk
        refine ⟨fun d z => ?_, fun z => ?_⟩
        · simp only [getK, ek, if_true, Option.some.injEq] at z
          subst z
          refine ⟨_, q.2, ?_, h2, j3⟩
          simp [atKey, ← j1]
        · simp only [getK, ek, if_true] at z
          cases z
      · have hn : ¬ (d0.key = some k) := by rw [ek]; intro z; exact hk (Option.some.inj z)
        have hq : ¬ (q.1 = k) := by rw [← j1]; exact hk
        have ea : atKey (q :: qs) k = atKey qs k := by simp [atKey, List.find?_cons, hq]
        refine ⟨fun d z => ?_, fun z => ?_⟩
        · simp only [getK, if_neg hn] at z
          rw [ea]
          exact i1 d z
        · simp only [getK, if_neg hn] at z
          rw [ea]
          exact i2 z
theorem has_rel {kvs : List (D × D)} {xs : List (NestedKey × Addr × V)} {ys : List (NestedKey × Addr × Value)} (r : RelK X.K nm ca β H kvs xs) (l : Lies xs ys) (k : NestedKey) : (atKey ys k).isSome = hasK k kvs := by
  obtain ⟨i1, i2⟩ := get_rel r l k
  unfold hasK
  cases q : getK k kvs with
  | none => rw [i2 q]; rfl
  | some d => obtain ⟨v, p, e, _, _⟩ := i1 d q; rw [e]; rfl
theorem repl_rel {k : NestedKey} {e1 : D} {v1 : V} {u1 : Value} (q1 : RelD X.K nm ca β H e1 v1) (rv : RelV v1 u1) : ∀ {kvs : List (D × D)} {xs : List (NestedKey × Addr × V)} {ys : List (NestedKey × Addr × Value)}, RelK X.K nm ca β H kvs xs → Lies xs ys → ∃ xs', RelK X.K nm ca β H (replK k e1 kvs) xs' ∧ Lies xs' (ys.map (putAt k u1)) ∧ xs'.length = xs.length
  | _, _, _, .nil, r => by cases r; exact ⟨[], .nil, .nil, rfl⟩
  | _, _, _, .cons (d := d0) (e := e0) (k := k0) (a := a0) (v := v0) e h1 h2 t, r => by
    cases r with
    | @cons p q ps qs r1 r2 =>
      obtain ⟨xs', i1, i2, i3⟩ := repl_rel (k := k) q1 rv t r2
      obtain ⟨j1, j2, j3⟩ := r1
      simp only at j1 j2 j3
      have ek := (tkey_key e).1
      by_cases hk : k0 = k
      · subst hk
        refine ⟨(k0, a0, v1) :: xs', ?_, ?_, by simp [i3]⟩
        · simp only [replK, ek, if_true]
          exact .cons e h1 q1 i1
        · rw [List.map_cons]
          refine .cons ⟨?_, ?_, ?_⟩ i2
          · simp [putAt, ← j1]
          · simp [putAt, ← j1, j2]
          · simp [putAt, ← j1, rv]
      · have hn : ¬ (d0.key = some k) := by rw [ek]; intro z; exact hk (Option.some.inj z)
        have hq : ¬ (q.1 = k) := by rw [← j1]; exact hk
        refine ⟨(k0, a0, v0) :: xs', ?_, ?_, by simp [i3]⟩
        · simp only [replK, if_neg hn]
          exact .cons e h1 h2 i1
        · rw [List.map_cons]
          have : putAt k u1 q = q := by simp [putAt, hq]
          rw [this]
          exact .cons ⟨j1, j2, j3⟩ i2
theorem snoc_lies {x : NestedKey × Addr × V} {y : NestedKey × Addr × Value} (h : x.1 = y.1 ∧ x.2.1 = y.2.1 ∧ RelV x.2.2 y.2.2) : ∀ {xs : List (NestedKey × Addr × V)} {ys : List (NestedKey × Addr × Value)}, Lies xs ys → Lies (xs ++ [x]) (ys ++ [y])
  | _, _, .nil => .cons h .nil
  | _, _, .cons r t => .cons r (snoc_lies h t)
theorem snoc_relK {d e : D} {k : NestedKey} {a : Addr} {v : V} (ek : d.tkey = some k) (h1 : RelD X.K nm ca β H d (.ref a)) (h2 : RelD X.K nm ca β H e v) : ∀ {kvs : List (D × D)} {xs : List (NestedKey × Addr × V)}, RelK X.K nm ca β H kvs xs → RelK X.K nm ca β H (kvs ++ [(d, e)]) (xs ++ [(k, a, v)])
  | _, _, .nil => .cons ek h1 h2 .nil
  | _, _, .cons e0 a0 b0 t => .cons e0 a0 b0 (snoc_relK ek h1 h2 t)
theorem put_rel {d e : D} {k : NestedKey} {a : Addr} {v : V} {u : Value} {kvs : List (D × D)} {xs : List (NestedKey × Addr × V)} {ys : List (NestedKey × Addr × Value)} (ek : d.tkey = some k) (h1 : RelD X.K nm ca β H d (.ref a)) (h2 : RelD X.K nm ca β H e v) (rv : RelV v u) (r : RelK X.K nm ca β H kvs xs) (l : Lies xs ys) :
    ∃ xs', RelK X.K nm ca β H (putN d k e kvs) xs' ∧ Lies xs' (storedH ys k a u) ∧ xs'.length ≤ xs.length + 1 := by
  have hh := has_rel r l k
  unfold putN
  cases q : hasK k kvs with
  | true =>
    rw [q] at hh
    obtain ⟨p, hp⟩ := Option.isSome_iff_exists.mp hh
    obtain ⟨xs', i1, i2, i3⟩ := repl_rel (k := k) h2 rv r l
    exact ⟨xs', by simpa using i1, by rw [storedH_old hp]; exact i2, by omega⟩
  | false =>
    rw [q] at hh
    have hn : atKey ys k = none := by simpa using hh
    refine ⟨_, by simpa using snoc_relK ek h1 h2 r, ?_, by simp⟩
    rw [storedH_new hn]
    exact snoc_lies ⟨rfl, rfl, rv⟩ l
end
end MC

set_option Elab.async false
set_option linter.all false
set_option maxRecDepth 100000
set_option maxHeartbeats 4000000
namespace MC
open PySem PySem.Spec PyProof.Rows L2
section
variable {X : Cx} {nm : Nat → Str} {ca : CaT} {T : Tab} {cl : Nat → List D → Hs → Res D}
abbrev CaOk (X : Cx) (ca : CaT) : Prop := ca.P = X.prog ∧ ca.w = X.w
theorem kvs_inv {K : PySem.W.Frag} {β : List Addr} {h : Hs} {H : Hp} {x : D} {v : V} {kvs : List (D × D)} (rh : RelH K nm ca β h H) (rx : RelD K nm ca β H x v) (e : x.kvs h = some kvs) : ∃ a ob xs, v = .ref a ∧ DN ca.P ca.w H a ob xs ∧ RelK K nm ca β H kvs xs := by
  cases x with
  | dct ks =>
    cases e
    cases rx with
    | dct h1 h2 h3 => exact ⟨_, _, _, rfl, h1, h3⟩
  | ref n =>
    obtain ⟨a, rfl, hβ⟩ := rx.ref_inv
    simp only [D.kvs] at e
    cases q : h[n]? with
    | none => rw [q] at e; cases e
    | some o =>
      rw [q] at e
      have ro := rh.obj n o a q hβ
      cases o with
      | dct ks => cases e; obtain ⟨ob, xs, j1, j2⟩ := ro; exact ⟨a, ob, xs, rfl, .inl j1, j2⟩
      | lkd ks => cases e; obtain ⟨ob, xs, j1, j2⟩ := ro; exact ⟨a, ob, xs, rfl, .inr j1, j2⟩
      | lst _ => cases e
      | ins _ _ => cases e
  | _ => cases e
theorem tkey_ref {K : PySem.W.Frag} {β : List Addr} {H : Hp} {d : D} {v : V} {k : NestedKey} (r : RelD K nm ca β H d v) (e : d.tkey = some k) : ∃ b, v = .ref b := by
  obtain ⟨_, _, xs, rfl⟩ := tkey_key e
  obtain ⟨a, vs, rfl, _⟩ := r.tup_inv
  exact ⟨a, rfl⟩
theorem room_key (hu : X.A.units + 64 < cLine) : (nestedKind X.prog X.w).room X.A.in1 := by
  show X.A.units + 1 + 8 < cLine
  omega
/-! ### k in d -/
def rDin (X : Cx) (nm : Nat → Str) (ca : CaT) (ng : Bool) : L2.R2 := fun x y H Q => ∃ (β : List Addr) (a b : Addr) (ob : Obj) (d : D) (k : NestedKey) (kvs : List (D × D)) (xs : List (NestedKey × Addr × V)), x = .ref b ∧ y = .ref a ∧ DN X.prog X.w H a ob xs ∧ RelK X.K nm ca β H kvs xs ∧ RelD X.K nm ca β H d (.ref b) ∧ d.tkey = some k ∧ Q (.bl (hasK k kvs != ng)) H
def inOp (ng : Bool) : CmpOp := if ng then .NotIn else .In
theorem op_din (hu : X.A.units + 64 < cLine) (ng : Bool) : OpR X (compareOp (inOp ng)) (rDin X nm ca ng) := by
  intro pins s σ H x y v u Q I rx ry q
  obtain ⟨β, a, b, ob, d, k, kvs, xs, rfl, rfl, e1, e2, e3, e4, q⟩ := q
  cases rx
  cases ry
  obtain ⟨_, z, hd, ys, l, _, dd⟩ := dn_at I e1 e2
  have hh := has_rel e2 l k
  cases ng with
  | false =>
    refine wpAny_in_heap (room_key hu) (key_is I e3 e4) hd dd ⟨.bl (hasK k kvs != false), H, I.tok _, ?_, q⟩
    rw [hh]
    simp [L2.RelV]
  | true =>
    refine wpAny_notIn_heap (room_key hu) (key_is I e3 e4) hd dd ⟨.bl (hasK k kvs != true), H, I.tok _, ?_, q⟩
    rw [hh]
    simp [L2.RelV]
theorem din_ok (hc : CaOk X ca) (ng : Bool) : BinOk X nm ca (dinD ng) (rDin X nm ca ng) := by
  intro β H h x y d vx vy Q rh rx ry e p
  unfold dinD at e
  cases q1 : y.kvs h with
  | none => rw [q1] at e; cases e
  | some kvs =>
    cases q2 : x.tkey with
    | none => rw [q1, q2] at e; cases e
    | some k =>
      rw [q1, q2] at e
      cases e
      obtain ⟨a, ob, xs, rfl, j1, j2⟩ := kvs_inv rh ry q1
      obtain ⟨b, rfl⟩ := tkey_ref rx q2
      rw [hc.1, hc.2] at j1
      exact ⟨β, a, b, ob, x, k, kvs, xs, rfl, rfl, j1, j2, rx, q2, PostE.here p rh (.bl _)⟩
/-! ### a comparison of one's own -/
theorem s_op2 {a b : Expr} {c c' nd : E} {op : CmpOp} {r : L2.R2} {sem : Hs → D → D → Option D} {pos : Pos} (o : OpR X (compareOp op) r) (ok : BinOk X nm ca sem r) (ev : ∀ σ h, evE T cl nd σ h = (evE T cl c σ h).bind fun x h => (evE T cl c' σ h).bind fun y h => .of (sem h x y) h) (ha : SE X nm ca T cl a c) (hb : SE X nm ca T cl b c') (hs : isSetE b = false) : SE X nm ca T cl (.Compare a [op] [b] pos) nd := by
  refine PE.imp (pe_cmpR o ha hb (nomarkS hs)) fun τ H Q ⟨σ, h, β, rs, rh, p⟩ => ?_
  rw [ev] at p
  obtain ⟨x, h1, e1, p⟩ := p.bind
  obtain ⟨y, h2, e2, p⟩ := p.bind
  obtain ⟨d, e3, p⟩ := p.of
  exact re2 rs rh e1 e2 fun vx vy H2 β2 st rs2 rh2 rx ry => ok β2 H2 h2 x y d vx vy Q rh2 rx ry e3 (p.step st)
theorem t_op2 {a b : Expr} {c c' nd : E} {op : CmpOp} {r : L2.R2} {sem : Hs → D → D → Option D} {pos : Pos} (o : OpR X (compareOp op) r) (ok : BinOk X nm ca sem r) (hbl : ∀ h x y d, sem h x y = some d → ∃ k, d = .bl k) (ev : ∀ σ h, evE T cl nd σ h = (evE T cl c σ h).bind fun x h => (evE T cl c' σ h).bind fun y h => .of (sem h x y) h) (ha : SE X nm ca T cl a c) (hb : SE X nm ca T cl b c') (hs : isSetE b = false) : ST X nm ca T cl (.Compare a [op] [b] pos) nd := by
  refine PT.imp (pt_cmpR o ha hb (nomarkS hs)) fun τ H Q ⟨σ, h, β, rs, rh, p⟩ => ?_
  obtain ⟨d, h3, e3, p⟩ := p.bind
  rw [ev] at e3
  cases q1 : evE T cl c σ h with
  | ok x h1 =>
    rw [q1] at e3
    cases q2 : evE T cl c' σ h1 with
    | ok y h2 =>
      simp only [Res.bind, q2] at e3
      cases q3 : sem h2 x y with
      | none => rw [q3] at e3; cases e3
      | some d' =>
        rw [q3] at e3
        cases e3
        obtain ⟨k, rfl⟩ := hbl _ _ _ _ q3
        refine re2 rs rh q1 q2 fun vx vy H2 β2 st rs2 rh2 rx ry => ok β2 H2 h3 x y (.bl k) vx vy _ rh2 rx ry q3 ?_
        intro v H3 β3 st3 rh3 rd
        cases rd
        obtain ⟨k', e5, p⟩ := PostT.of (show PostT X.K nm ca β H (.of (tru h3 (.bl k)) h3) Q from p)
        cases e5
        exact ⟨k, rfl, p H3 β3 (st.trans st3) rh3⟩
    | ex _ _ => simp only [Res.bind, q2] at e3; cases e3
    | no => simp only [Res.bind, q2] at e3; cases e3
  | ex _ _ => rw [q1] at e3; cases e3
  | no => rw [q1] at e3; cases e3
theorem din_bl (ng : Bool) (h : Hs) (x y d : D) (e : dinD ng h x y = some d) : ∃ k, d = .bl k := by
  unfold dinD at e
  split at e
  · cases e; exact ⟨_, rfl⟩
  · cases e
theorem s_din {a b : Expr} {c c' : E} {ng : Bool} {pos : Pos} (hc : CaOk X ca) (hu : X.A.units + 64 < cLine) (ha : SE X nm ca T cl a c) (hb : SE X nm ca T cl b c') (hs : isSetE b = false) : SE X nm ca T cl (.Compare a [inOp ng] [b] pos) (.din ng c c') :=
  s_op2 (op_din hu ng) (din_ok hc ng) (fun σ h => by simp only [evE]) ha hb hs
theorem t_din {a b : Expr} {c c' : E} {ng : Bool} {pos : Pos} (hc : CaOk X ca) (hu : X.A.units + 64 < cLine) (ha : SE X nm ca T cl a c) (hb : SE X nm ca T cl b c') (hs : isSetE b = false) : ST X nm ca T cl (.Compare a [inOp ng] [b] pos) (.din ng c c') :=
  t_op2 (op_din hu ng) (din_ok hc ng) (din_bl ng) (fun σ h => by simp only [evE]) ha hb hs
/-! ### x is True -/
def isOp (ng : Bool) : CmpOp := if ng then .IsNot else .Is
def rIsb (ng : Bool) : L2.R2 := fun x y H Q => ∃ c : Bool, y = .bl c ∧ ((∃ b : Bool, x = .bl b ∧ Q (.bl ((b == c) != ng)) H) ∨ (x = .non ∧ Q (.bl ng) H))
theorem EPure {m : Sem Value} {pins : List (Addr × Obj)} {σ : L2.St} {H : Hp} {s : Shared} {Q : VK} {z : V} (e : ∃ v, m = pure v ∧ v = (match z with | .bl b => Value.bool b | _ => Value.none)) (I : L2.Inv X pins σ H s) (q : Q z H) (hz : ∃ b, z = .bl b := by exact ⟨_, rfl⟩) : wpAny (model X.prog X.w) X.A m (EP X pins σ Q) X.xe s := by
  obtain ⟨b, rfl⟩ := hz
  obtain ⟨v, rfl, rfl⟩ := e
  exact wpAny_pure ⟨.bl b, H, I, rfl, q⟩
theorem op_isb (ng : Bool) : OpR X (compareOp (isOp ng)) (rIsb ng) := by
  intro pins s σ H x y v u Q I rx ry q
  obtain ⟨c, rfl, ⟨b, rfl, q⟩ | ⟨rfl, q⟩⟩ := q
  · cases rx; cases ry
    refine EPure (z := .bl ((b == c) != ng)) ?_ I q
    cases ng <;> cases b <;> cases c <;> exact ⟨_, rfl, by decide +kernel⟩
  · cases rx; cases ry
    refine EPure (z := .bl ng) ?_ I q
    cases ng <;> cases c <;> exact ⟨_, rfl, by decide +kernel⟩
theorem isb_ok (ng : Bool) : BinOk X nm ca (fun _ => isbD ng) (rIsb ng) := by
  intro β H h x y d vx vy Q rh rx ry e p
  unfold isbD at e
  cases y with
  | bl c =>
    cases ry
    cases x with
    | bl b => cases rx; cases e; exact ⟨c, rfl, .inl ⟨b, rfl, PostE.here p rh (.bl _)⟩⟩
    | non => cases rx; cases e; exact ⟨c, rfl, .inr ⟨rfl, PostE.here p rh (.bl _)⟩⟩
    | _ => cases e
  | _ => cases e
theorem isb_bl (ng : Bool) (h : Hs) (x y d : D) (e : (fun _ => isbD ng) h x y = some d) : ∃ k, d = .bl k := by
  simp only [isbD] at e
  split at e
  · split at e
    · cases e; exact ⟨_, rfl⟩
    · cases e; exact ⟨_, rfl⟩
    · cases e
  · cases e
theorem s_isb {a b : Expr} {c c' : E} {ng : Bool} {pos : Pos} (ha : SE X nm ca T cl a c) (hb : SE X nm ca T cl b c') (hs : isSetE b = false) : SE X nm ca T cl (.Compare a [isOp ng] [b] pos) (.isb ng c c') :=
  s_op2 (op_isb ng) (isb_ok ng) (fun σ h => by simp only [evE]) ha hb hs
theorem t_isb {a b : Expr} {c c' : E} {ng : Bool} {pos : Pos} (ha : SE X nm ca T cl a c) (hb : SE X nm ca T cl b c') (hs : isSetE b = false) : ST X nm ca T cl (.Compare a [isOp ng] [b] pos) (.isb ng c c') :=
  t_op2 (op_isb ng) (isb_ok ng) (isb_bl ng) (fun σ h => by simp only [evE]) ha hb hs
end
end MC

set_option Elab.async false
set_option linter.all false
set_option maxRecDepth 100000
set_option maxHeartbeats 4000000
namespace MC
open PySem PySem.Spec PyProof.Rows L2
section
variable {X : Cx} {nm : Nat → Str} {ca : CaT} {T : Tab} {cl : Nat → List D → Hs → Res D}
/-! ### d[k] -/
def rDgt (X : Cx) (nm : Nat → Str) (ca : CaT) : L2.R2 := fun x y H Q => ∃ (β : List Addr) (a b : Addr) (ob : Obj) (d e : D) (k : NestedKey) (kvs : List (D × D)) (xs : List (NestedKey × Addr × V)), x = .ref a ∧ y = .ref b ∧ DN X.prog X.w H a ob xs ∧ RelK X.K nm ca β H kvs xs ∧ RelD X.K nm ca β H d (.ref b) ∧ d.tkey = some k ∧ getK k kvs = some e ∧ ∀ v, RelD X.K nm ca β H e v → Q v H
theorem ix_dct (hu : X.A.units + 64 < cLine) : IxR X (rDgt X nm ca) := by
  intro value slice pins s σ H x y v u Q I rx ry q hsub
  obtain ⟨β, a, b, ob, d, e, k, kvs, xs, rfl, rfl, e1, e2, e3, e4, e5, q⟩ := q
  cases rx
  cases ry
  obtain ⟨_, z, hd, ys, l, _, dd⟩ := dn_at I e1 e2
  obtain ⟨w, p, g1, g2, g3⟩ := (get_rel e2 l k).1 e e5
  have hT := dd.typeIs
  have hget : ∀ E, wpAny (model X.prog X.w) X.A (getItem (.ref a) (.ref b)) (EP X pins σ Q) E s := fun E => wpAny_getItem_heap (room_key hu) (key_is I e3 e4) dd g1 ⟨w, H, I.tok _, g3, q w g2⟩
  unfold subscriptTail
  refine wpAny_bind ?_
  rw [getitemInPython_of_ne hT.not_modules]
  refine wpAny_bind (wpAny_specialOf hT PySem.F.slot_dict_getitem.lookup ?_)
  have fin : wpAny (model X.prog X.w) X.A (subscripted slice false (.ref a) (.ref b)) (fun r s3 => wpAny (model X.prog X.w) X.A (letTemporaryGo value (.ref a) r >>= fun _ => pure r) (EP X pins σ Q) X.xe s3) X.xe s := by
    rw [hsub]
    exact wpAny_operating (wpAny_mono (hget X.xe) (fun r s3 h3 => wpAny_bind (wpAny_letTemporaryGo (wpAny_pure h3))) fun _ _ z => z)
  first
    | exact wpAny_pure (wpAny_bind fin)
    | exact wpAny_bind (wpAny_pure (wpAny_bind fin))
    | exact wpAny_bind fin
theorem s_dget {a b : Expr} {c c' : E} {pos : Pos} (hc : CaOk X ca) (hu : X.A.units + 64 < cLine) (ha : SE X nm ca T cl a c) (hb : SE X nm ca T cl b c') (hs : isSl b = false) : SE X nm ca T cl (.Subscript a b pos) (.dget c c') := by
  refine PE.imp (pe_ix (ix_dct (nm := nm) (ca := ca) hu) ha hb (plainIx hs)) fun τ H Q ⟨σ, h, β, rs, rh, p⟩ => ?_
  simp only [evE] at p
  obtain ⟨x, h1, e1, p⟩ := p.bind
  obtain ⟨y, h2, e2, p⟩ := p.bind
  obtain ⟨d, e3, p⟩ := p.of
  refine re2 rs rh e1 e2 fun vx vy H2 β2 st rs2 rh2 rx ry => ?_
  unfold dgetD at e3
  cases q1 : x.kvs h2 with
  | none => rw [q1] at e3; cases e3
  | some kvs =>
    cases q2 : y.tkey with
    | none => rw [q1, q2] at e3; cases e3
    | some k =>
      rw [q1, q2] at e3
      obtain ⟨a', ob, xs, rfl, j1, j2⟩ := kvs_inv rh2 rx q1
      obtain ⟨b', rfl⟩ := tkey_ref ry q2
      rw [hc.1, hc.2] at j1
      exact ⟨β2, a', b', ob, y, d, k, kvs, xs, rfl, rfl, j1, j2, ry, q2, e3, fun v rv => PostE.here (p.step st) rh2 rv⟩
/-! ### d[k] = v -/
def rDst (X : Cx) (nm : Nat → Str) (ca : CaT) : TSet := fun o i v H Q => ∃ (β : List Addr) (a b : Addr) (ob : Obj) (d e : D) (k : NestedKey) (kvs : List (D × D)) (xs : List (NestedKey × Addr × V)), o = .ref a ∧ i = .ref b ∧ H a = some (dN X.prog X.w a ob xs) ∧ RelK X.K nm ca β H kvs xs ∧ kvs.length < sizeLine ∧ RelD X.K nm ca β H d (.ref b) ∧ d.tkey = some k ∧ RelD X.K nm ca β H e v ∧
  ∀ ob' xs', RelK X.K nm ca β H (putN d k e kvs) xs' → Q (upd H a (dN X.prog X.w a ob' xs'))
theorem RelK.len {K : PySem.W.Frag} {β : List Addr} {H : Hp} : ∀ {kvs : List (D × D)} {xs : List (NestedKey × Addr × V)}, RelK K nm ca β H kvs xs → kvs.length = xs.length
  | _, _, .nil => rfl
  | _, _, .cons _ _ _ t => by simp [RelK.len t]
theorem lies_len : ∀ {xs : List (NestedKey × Addr × V)} {ys : List (NestedKey × Addr × Value)}, Lies xs ys → xs.length = ys.length := fun l => Paired.length l
theorem set_dct (hu : X.A.units + 64 < cLine) : PSet X (rDst X nm ca) := by
  intro pins s σ H o i v ov iv u Q I ro ri rv q
  obtain ⟨β, a, b, ob, d, e, k, kvs, xs, rfl, rfl, e1, e2, hz, e3, e4, e5, q⟩ := q
  cases ro
  cases ri
  obtain ⟨_, z, hd, ys, l, _, dd⟩ := dn_at I (.inl e1) e2
  have l1 := lies_len l
  have l2 := e2.len
  obtain ⟨xs', p1, p2, p3⟩ := put_rel e4 e3 e5 rv e2 l
  refine wpAny_setItem_heap (hsz := by omega) (room_key hu) (key_is I e3 e4) dd fun h' dd' hs => ?_
  obtain ⟨ob', new⟩ := dn_ok (H' := upd H a (dN X.prog X.w a ob xs')) (by omega) hd p2 dd'
  obtain ⟨oq, hq⟩ : ∃ q, h'.get? a = some q := let ⟨q, _, _, hq, _⟩ := dd'; ⟨q, hq⟩
  obtain ⟨ob', new⟩ := dn_ok (H' := upd H a (dN X.prog X.w a oq xs')) (by omega) hd p2 dd'
  have ee : ob' = oq := by
    have := new.1.1
    rw [hq] at this
    exact (Option.some.inj this).symm
  subst ee
  exact ⟨_, d_write I (by rw [e1]; exact True.intro) hs ⟨_, hq⟩ new, q ob' xs' p1⟩
theorem g_dsub {o i : Expr} {c k : E} {pos : Pos} (hc : CaOk X ca) (hu : X.A.units + 64 < cLine) (ho : SE X nm ca T cl o c) (hi : SE X nm ca T cl i k) (hs : isSl i = false) : SG X nm ca T cl (.Subscript o i pos) (.dsub c k) := by
  refine PG.imp (pg_sub ho hi (set_dct (nm := nm) (ca := ca) hu) (fun v => by
    cases i <;> first | rfl | cases hs)) fun v τ H Q ⟨d, σ, h, β, rs, rh, rd, p⟩ => ?_
  simp only [evG] at p
  obtain ⟨x, h1, e1, p⟩ := p.bind
  obtain ⟨y, h2, e2, p⟩ := p.bind
  cases x with
  | ref n =>
    simp only [storeM] at p
    cases q1 : h2[n]? with
    | none => rw [q1] at p; exact p.elim
    | some oo =>
      cases oo with
      | dct kvs =>
        cases q2 : y.tkey with
        | none => rw [q1, q2] at p; exact p.elim
        | some kk =>
          rw [q1, q2] at p
          simp only at p
          split at p
          · rename_i hz
            refine re2 rs rh e1 e2 fun vx vy H2 β2 st rs2 rh2 rx ry => ?_
            obtain ⟨a, rfl, hβ⟩ := rx.ref_inv
            obtain ⟨b, rfl⟩ := tkey_ref ry q2
            obtain ⟨ob, xs, j1, j2⟩ := rh2.obj n _ a q1 hβ
            refine ⟨β2, a, b, ob, y, d, kk, kvs, xs, rfl, rfl, by rw [← hc.1, ← hc.2]; exact j1, j2, hz, ry, q2, rd.mono st, fun ob' xs' r' => ?_⟩
            rw [← hc.1, ← hc.2]
            have sw : Stp β2 H2 β2 (upd H2 a (dN ca.P ca.w a ob' xs')) := Stp.write (List.mem_of_getElem? hβ) j1 (fun _ z => nomatch z) (fun _ _ z => nomatch z)
            exact p τ _ β2 (st.trans sw) (rs2.mono sw) (rh2.write hβ sw ⟨ob', xs', upd_same, r'.mono sw⟩) (Chg.refl _ _)
          · exact p.elim
      | lst _ => rw [q1] at p; exact p.elim
      | ins _ _ => rw [q1] at p; exact p.elim
      | lkd _ => rw [q1] at p; exact p.elim
  | _ => exact p.elim
/-! ### a new dict -/
theorem dn_new {P : Program} {w : World} {H : Hp} (h : Heap) (hb : sysModules < h.objs.size) : ∃ ob, ObjOk P w H (h.push { cls := .type "dict", data := .dict #[] }) h.objs.size (dN P w h.objs.size ob []) :=
  dn_ok (Nat.zero_le _) (beq_eq_false_iff_ne.mpr (Ne.symm (Nat.ne_of_lt hb))) .nil (Heap.DictOfH.new h)
def tNewN (X : Cx) : TE := fun _ H Q => ∀ p ob, H p = none → Q (.ref p) (upd H p (dN X.prog X.w p ob []))
theorem pe_newN {pos : Pos} : PE X (.Dict [] [] pos) (tNewN X) := ⟨fun pins s σ H Q I h => by
  have hn := I.hok.fresh (Nat.le_refl s.heap.objs.size)
  have ob0 : Obj := { cls := .type "dict", data := .dict #[] }
  have hx := dn_new (P := X.prog) (w := X.w) (H := upd H s.heap.objs.size (dN X.prog X.w s.heap.objs.size { cls := .type "dict", data := .dict #[] } [])) s.heap I.big
  obtain ⟨ob, new⟩ := hx
  have ee : ob = { cls := .type "dict", data := .dict #[] } := by
    have := new.1.1
    rw [Heap.get?_push_size _ rfl] at this
    exact (Option.some.inj this).symm
  subst ee
  exact wpAny_Dict_empty ⟨.ref s.heap.objs.size, _, I.laid (t' := s.toks) (fun _ _ q => Heap.get?_push_of_some _ q) (Nat.le_refl _) new, rfl, h _ _ hn⟩⟩
theorem s_dnew {pos : Pos} (hc : CaOk X ca) : SE X nm ca T cl (.Dict [] [] pos) .dnew := by
  refine PE.imp pe_newN fun τ H Q ⟨σ, h, β, rs, rh, p⟩ => ?_
  simp only [evE] at p
  intro q ob hq
  rw [← hc.1, ← hc.2]
  exact PostE.push (d := .non) p rh hq ⟨ob, [], upd_same, .nil⟩
/-! ### len(d), list(d) -/
theorem call_lenN : CallR X (.builtin "len") (fun xs H Q => ∃ (β : List Addr) (a : Addr) (ob : Obj) (kvs : List (D × D)) (ks : List (NestedKey × Addr × V)), xs = [.ref a] ∧ DN X.prog X.w H a ob ks ∧ RelK X.K nm ca β H kvs ks ∧ Q (.int (kvs.length : Int)) H) := by
  intro pins s σ H xs us Q I r q
  obtain ⟨β, a, ob, kvs, ks, rfl, e1, e2, q⟩ := q
  obtain ⟨u, rfl, ru⟩ := vals1 r
  cases ru
  obtain ⟨_, z, hd, ys, l, _, dd⟩ := dn_at I e1 e2
  have l1 := lies_len l
  have l2 := e2.len
  refine call_len_dictH hd dd (by rw [sizeLine_eq] at z; omega) ?_
  rw [show ys.length = kvs.length by omega]
  exact ⟨.int (kvs.length : Int), H, I.tok _, ⟨_, rfl⟩, q⟩
theorem s_dlen {e : Expr} {c : E} {p pos : Pos} (hc : CaOk X ca) (hg : Gl X "len") (hm : X.mg "len" = none) (ha : SE X nm ca T cl e c) (hs : isSt e = false) : SE X nm ca T cl (.Call (.Name "len" p) [e] [] pos) (.dlen c) := by
  refine PE.imp (pe_callB (call_lenN (nm := nm) (ca := ca)) hg hm PySem.boot_len (a_cons ha a_nil hs) (by decide) (by decide) (starEach_plain hs) rfl) fun τ H Q ⟨σ, h, β, rs, rh, p⟩ => ?_
  simp only [evE] at p
  obtain ⟨x, h1, e1, p⟩ := p.bind
  cases q : x.kvs h1 with
  | none => simp only [q] at p; exact p.elim
  | some kvs =>
    simp only [q] at p
    refine ra1 (x := [x]) (h1 := h1) rs rh (by simp [evA, e1, Res.bind]) fun vxs H1 β1 st rs1 rh1 rx => ?_
    obtain ⟨v, rfl, ry⟩ := one_rel rx
    obtain ⟨a, ob, xs, rfl, j1, j2⟩ := kvs_inv rh1 ry q
    rw [hc.1, hc.2] at j1
    exact ⟨β1, a, ob, kvs, xs, rfl, j1, j2, PostE.here (p.step st) rh1 (.int _)⟩
theorem keysL {K : PySem.W.Frag} {β : List Addr} {H : Hp} : ∀ {kvs : List (D × D)} {xs : List (NestedKey × Addr × V)}, RelK K nm ca β H kvs xs → RelL K nm ca β H (kvs.map (·.1)) (xs.map fun x => .ref x.2.1)
  | _, _, .nil => .nil
  | _, _, .cons _ h _ t => .cons h (keysL t)
theorem lies_addr : ∀ {xs : List (NestedKey × Addr × V)} {ys : List (NestedKey × Addr × Value)}, Lies xs ys → xs.map (fun x => x.2.1) = ys.map fun y => y.2.1
  | _, _, .nil => rfl
  | _, _, .cons r t => by simp [r.2.1, lies_addr t]
theorem call_listN (hc : X.calm = true) : CallR X (.type "list") (fun xs H Q => ∃ (β : List Addr) (a : Addr) (ob : Obj) (kvs : List (D × D)) (ks : List (NestedKey × Addr × V)), xs = [.ref a] ∧ DN X.prog X.w H a ob ks ∧ RelK X.K nm ca β H kvs ks ∧ ∀ p, H p = none → Q (.ref p) (upd H p (.lst (ks.map fun x => .ref x.2.1)))) := by
  intro pins s σ H xs us Q I r q
  obtain ⟨β, a, ob, kvs, ks, rfl, e1, e2, q⟩ := q
  obtain ⟨u, rfl, ru⟩ := vals1 r
  cases ru
  obtain ⟨g0, z, hd, ys, l, ⟨es, ep, g1, g2, g3⟩, dd⟩ := dn_at I e1 e2
  have l1 := lies_len l
  have ls : es.size = ys.length := size_of_entries g3
  refine PySem.W.kdl_call (kdl_raw hd g1 g2) (I.ok.hd hc) g0 (by omega) fun h' tk acc' c' kp en it => ?_
  have eb : acc'.toList = (ks.map fun x => x.2.1).map Value.ref := by
    rw [lies_addr l]
    apply List.ext_getElem?
    intro j
    rw [List.map_map, List.getElem?_map]
    cases hj : acc'.toList[j]? with
    | none =>
      have h1 := List.getElem?_eq_none_iff.mp hj
      rw [Array.length_toList, it.1] at h1
      rw [List.getElem?_eq_none (by omega)]
      rfl
    | some v =>
      obtain ⟨en', hen, hv⟩ := it.2 j v (by rw [← Array.getElem?_toList]; exact hj)
      have qe := entry_at g3 j
      rw [hen] at qe
      cases hb : ys[j]? with
      | none => rw [hb] at qe; cases qe
      | some y =>
        rw [hb] at qe
        cases qe
        rw [hv]
        rfl
  have rv : Vals (ks.map fun x => V.ref x.2.1) acc'.toList := by
    rw [eb]
    have := vals_refs (ks.map fun x => x.2.1)
    rw [List.map_map] at this
    exact this
  refine ⟨.ref s.heap.objs.size, _, I.laid (t' := tk) (o := .lst (ks.map fun x => V.ref x.2.1)) kp (Nat.le_refl _) ?_, rfl, q _ (I.hok.fresh (Nat.le_refl _))⟩
  exact ⟨by rw [List.length_map]; exact z, acc'.toList, c', rv, by rw [Array.toArray_toList]; exact en⟩
theorem s_dlst {e : Expr} {c : E} {fz : Bool} {p pos : Pos} (hc : CaOk X ca) (hcm : X.calm = true) (hg : Gl X "list") (hm : X.mg "list" = none) (ha : SE X nm ca T cl e c) (hs : isSt e = false) : SE X nm ca T cl (.Call (.Name "list" p) [e] [] pos) (.dlst fz c) := by
  refine PE.imp (pe_callTy (call_listN (nm := nm) (ca := ca) hcm) hg hm (by decide +kernel) (a_cons ha a_nil hs) (by decide) (by decide) (starEach_plain hs) rfl) fun τ H Q ⟨σ, h, β, rs, rh, p⟩ => ?_
  simp only [evE] at p
  obtain ⟨x, h1, e1, p⟩ := p.bind
  cases q : x.kvs h1 with
  | none => simp only [q] at p; exact p.elim
  | some kvs =>
    simp only [q] at p
    refine ra1 (x := [x]) (h1 := h1) rs rh (by simp [evA, e1, Res.bind]) fun vxs H1 β1 st rs1 rh1 rx => ?_
    obtain ⟨v, rfl, ry⟩ := one_rel rx
    obtain ⟨a, ob, xs, rfl, j1, j2⟩ := kvs_inv rh1 ry q
    rw [hc.1, hc.2] at j1
    refine ⟨β1, a, ob, kvs, xs, rfl, j1, j2, fun l hl => ?_⟩
    cases fz with
    | true => exact PostE.laid (p.step st) rh1 hl (new_lst rh1 hl (keysL j2))
    | false => exact PostE.push (d := .non) (p.step st) rh1 hl ⟨_, upd_same, (keysL j2).mono (Stp.push hl)⟩
end
end MC

set_option Elab.async false
set_option linter.all false
set_option maxRecDepth 100000
set_option maxHeartbeats 4000000
namespace MC
open PySem PySem.Spec PyProof.Rows L2
section
variable {X : Cx} {nm : Nat → Str} {ca : CaT} {T : Tab} {cl : Nat → List D → Hs → Res D}
/-! ### {k: v} -/
def tOneN (X : Cx) (nm : Nat → Str) (ca : CaT) (tk tv : TE) : TE := fun σ H Q => ∀ p ob, H p = none → tk σ (upd H p (dN X.prog X.w p ob [])) fun x H1 => tv σ H1 fun y H2 => ∃ (β : List Addr) (b : Addr) (ob1 : Obj) (d e : D) (k : NestedKey), x = .ref b ∧ H2 p = some (dN X.prog X.w p ob1 []) ∧ RelD X.K nm ca β H2 d (.ref b) ∧ d.tkey = some k ∧ RelD X.K nm ca β H2 e y ∧
  ∀ ob' xs', RelK X.K nm ca β H2 [(d, e)] xs' → Q (.ref p) (upd H2 p (dN X.prog X.w p ob' xs'))
theorem room_key0 (hu : X.A.units + 64 < cLine) : (nestedKind X.prog X.w).room X.A := by
  show X.A.units + 8 < cLine
  omega
theorem pe_oneN {k v : Expr} {tk tv : TE} {pos : Pos} (hu : X.A.units + 64 < cLine) (hk : PE X k tk) (hv : PE X v tv) : PE X (.Dict [some k] [v] pos) (tOneN X nm ca tk tv) := by
  refine ⟨fun pins s σ H Q I q => ?_⟩
  have hn := I.hok.fresh (Nat.le_refl s.heap.objs.size)
  obtain ⟨ob, new⟩ := dn_new (P := X.prog) (w := X.w) (H := upd H s.heap.objs.size (dN X.prog X.w s.heap.objs.size { cls := .type "dict", data := .dict #[] } [])) s.heap I.big
  have ee : ob = { cls := .type "dict", data := .dict #[] } := by
    have := new.1.1
    rw [Heap.get?_push_size _ rfl] at this
    exact (Option.some.inj this).symm
  subst ee
  have I1 := I.laid (t' := s.toks) (fun _ _ q => Heap.get?_push_of_some _ q) (Nat.le_refl _) new
  rw [arm_eval_Dict, zip_pairTrees [some k] [v] X.env pos rfl rfl, dictDisplay_pairs (pairTrees [some k] [v] X.env pos) (by simp [pairTrees]) (by simp [pairTrees])]
  refine wpAny_bind (wpAny_standAt (wpAny_bind (wpAny_subDictH (knd := nestedKind X.prog X.w) (room_key0 hu) (by simp [pairTrees]) ?_)))
  refine pairTrees_cons_walk (thn (hk.run pins _ σ _ _ I1 (q _ _ hn)) fun kv s2 ⟨x, H2, I2, rx, q2⟩ => thn (hv.run pins s2 σ H2 _ I2 q2) fun vv s3 ⟨y, H3, I3, ry, q3⟩ => pairTrees_nil_walk ?_)
  obtain ⟨β, b, ob1, d, e, kk, rfl, g1, g2, g3, g4, q3⟩ := q3
  cases rx
  obtain ⟨_, z, hd, ys, l, _, dd⟩ := dn_at I3 (.inl g1) (nm := nm) (ca := ca) (β := []) (kvs := []) .nil
  cases l
  refine ⟨[(kk, b, vv)], ⟨rfl, rfl, key_is I3 g2 g3, trivial⟩, dd, fun h' tk dd' hs => wpAny_pure ?_⟩
  have l' : Lies [(kk, b, y)] (storedAllH [] [(kk, b, vv)]) := .cons ⟨rfl, rfl, ry⟩ .nil
  obtain ⟨oq, hq⟩ : ∃ q, h'.get? s.heap.objs.size = some q := let ⟨q, _, _, hq, _⟩ := dd'; ⟨q, hq⟩
  obtain ⟨ob', new'⟩ := dn_ok (H' := upd H3 s.heap.objs.size (dN X.prog X.w s.heap.objs.size oq [(kk, b, y)])) (by simp [sizeLine_eq]) hd l' dd'
  have ee : ob' = oq := by
    have := new'.1.1
    rw [hq] at this
    exact (Option.some.inj this).symm
  subst ee
  exact ⟨.ref s.heap.objs.size, _, d_write I3 (by rw [g1]; exact True.intro) hs ⟨_, hq⟩ new', rfl, q3 ob' _ (.cons g3 g2 g4 .nil)⟩
theorem s_done {a b : Expr} {c c' : E} {pos : Pos} (hc : CaOk X ca) (hu : X.A.units + 64 < cLine) (ha : SE X nm ca T cl a c) (hb : SE X nm ca T cl b c') : SE X nm ca T cl (.Dict [some a] [b] pos) (.done c c') := by
  refine PE.imp (pe_oneN (nm := nm) (ca := ca) hu ha hb) fun τ H Q ⟨σ, h, β, rs, rh, p⟩ => ?_
  simp only [evE] at p
  obtain ⟨x, h1, e1, p⟩ := p.bind
  obtain ⟨y, h2, e2, p⟩ := p.bind
  intro q ob hq
  rw [← hc.1, ← hc.2]
  have st0 : Stp β H (β ++ [q]) (upd H q (dN ca.P ca.w q ob [])) := Stp.push hq
  refine re1 (rs.mono st0) (rh.push (o := .dct []) hq ⟨ob, [], upd_same, .nil⟩) e1 fun vx H1 β1 st rs1 rh1 rx => re1 rs1 rh1 e2 fun vy H2 β2 st2 rs2 rh2 ry => ?_
  cases q1 : h2[h.length]? with
  | none => rw [q1] at p; exact p.elim
  | some oo =>
    rw [q1] at p
    cases oo with
    | dct kvs =>
      cases kvs with
      | nil =>
        simp only at p
        obtain ⟨u0, h3, e3, p⟩ := p.bind
        unfold storeM at e3
        rw [q1] at e3
        cases q2 : x.tkey with
        | none => rw [q2] at e3; cases e3
        | some kk =>
          rw [q2] at e3
          simp only at e3
          split at e3
          · cases e3
            have hβ0 : (β ++ [q])[h.length]? = some q := by rw [← rh.len, List.getElem?_append_right (Nat.le_refl _)]; simp
            have hβ : β2[h.length]? = some q := st2.get (st.get hβ0)
            obtain ⟨ob1, xs1, j1, j2⟩ := rh2.obj _ _ q q1 hβ
            cases j2
            obtain ⟨b', rfl⟩ := tkey_ref rx q2
            refine ⟨β2, b', ob1, x, y, kk, rfl, j1, rx.mono st2, q2, ry, fun ob' xs' r' => ?_⟩
            have sw : Stp β2 H2 β2 (upd H2 q (dN ca.P ca.w q ob' xs')) := Stp.write (List.mem_of_getElem? hβ) j1 (fun _ z => nomatch z) (fun _ _ z => nomatch z)
            refine p _ _ β2 (((st0.trans st).trans st2).trans sw) (rh2.write hβ sw ⟨ob', xs', upd_same, ?_⟩) (.ref hβ)
            have : putN x kk y [] = [(x, y)] := by simp [putN, hasK, getK]
            rw [this]
            exact r'.mono sw
          · cases e3
      | cons _ _ => exact p.elim
    | _ => exact p.elim
/-! ### a test that is an if-expression -/
theorem pt_ite {c a b : Expr} {tc ta tb : TT} {pos : Pos} (hc : PT X c tc) (ha : PT X a ta) (hb : PT X b tb) : PT X (.IfExp c a b pos) (fun σ H Q => tc σ H fun k H1 => if k = true then ta σ H1 Q else tb σ H1 Q) := by
  refine ⟨fun pins s σ H Q I q => ?_⟩
  show wpAny _ _ (PySem.isTrue c X.env (eval c X.env) >>= fun k => if k then PySem.isTrue a X.env (eval a X.env) else PySem.isTrue b X.env (eval b X.env)) _ _ s
  refine wpAny_bind (thn (hc.run pins s σ H _ I q) fun k s1 ⟨H1, I1, q1⟩ => ?_)
  cases k with
  | true => exact ha.run pins s1 σ H1 _ I1 q1
  | false => exact hb.run pins s1 σ H1 _ I1 q1
theorem t_ite {c a b : Expr} {kc ka kb : E} {pos : Pos} (hc : ST X nm ca T cl c kc) (ha : ST X nm ca T cl a ka) (hb : ST X nm ca T cl b kb) : ST X nm ca T cl (.IfExp c a b pos) (.ite kc ka kb) := by
  refine PT.imp (pt_ite hc ha hb) fun τ H Q ⟨σ, h, β, rs, rh, p⟩ => ?_
  simp only [evE] at p
  cases q1 : (evE T cl kc σ h).bind tst with
  | ok k h1 =>
    rw [q1] at p
    refine RT.k rs rh q1 fun H1 β1 st rs1 rh1 => ?_
    cases k with
    | true => simp only [Res.bind, if_true] at p ⊢; exact ⟨σ, h1, β1, rs1, rh1, PostT.step p st⟩
    | false => simp only [Res.bind, Bool.false_eq_true, if_false] at p ⊢; exact ⟨σ, h1, β1, rs1, rh1, PostT.step p st⟩
  | ex _ _ => rw [q1] at p; exact p.elim
  | no => rw [q1] at p; exact p.elim
/-! ### xs[::-1] -/
theorem s_rev {e : Expr} {c : E} {k : Nat} {p1 p2 p3 pos : Pos} (ha : SE X nm ca T cl e c) : SE X nm ca T cl (.Subscript e (.Slice none none (some (.UnaryOp .USub (.Constant (.int 1) k p1) p2)) p3) pos) (.rev c) := by
  refine PE.imp (pe_revL ha) fun τ H Q ⟨σ, h, β, rs, rh, p⟩ => ?_
  simp only [evE] at p
  obtain ⟨x, h1, e1, p⟩ := p.bind
  obtain ⟨d, e2, p⟩ := p.of
  refine re1 rs rh e1 fun vx H1 β1 st rs1 rh1 rx => ?_
  unfold revD at e2
  cases q : x.lseq h1 with
  | none => rw [q] at e2; cases e2
  | some xs =>
    rw [q] at e2
    cases e2
    obtain ⟨a, vs, rfl, k1, k2⟩ := lseq_inv rh1 q rx
    exact ⟨a, vs, rfl, k1, fun l hl => PostE.laid (p.step st) rh1 hl (new_lst rh1 hl k2.rev)⟩
end
end MC

set_option Elab.async false
set_option linter.all false
set_option maxRecDepth 100000
set_option maxHeartbeats 4000000
namespace MC
open PySem PySem.Spec PyProof.Rows L2
section
variable {X : Cx} {nm : Nat → Str} {ca : CaT} {T : Tab} {cl : Nat → List D → Hs → Res D} {tg : Expr}
/-! ### a dict is locked and walked -/
/-- the keys of a dict that does not change -/
def ItN (P : Program) (w : World) (a : Addr) (ob : Obj) (xs : List (NestedKey × Addr × V)) : It :=
  ⟨fun i H => DN P w H a ob xs ∧ i < xs.length, fun i H x H' => H' = H ∧ ∃ k b v, xs[i]? = some (k, b, v) ∧ x = .ref b, fun i H => DN P w H a ob xs ∧ xs.length ≤ i⟩
theorem dn_raw {pins : List (Addr × Obj)} {σ : L2.St} {H : Hp} {s : Shared} (I : L2.Inv X pins σ H s) {a : Addr} {ob : Obj} {xs : List (NestedKey × Addr × V)} (e : DN X.prog X.w H a ob xs) : s.heap.get? a = some ob ∧ (a == sysModules) = false ∧ ∃ ys es ep, Lies xs ys ∧ ob.ExactDict ∧ ob.data = .dict es ep ∧ es.toList = ys.map (entryOfKey (nestedKind X.prog X.w)) := by
  have key : ObjOk X.prog X.w H s.heap a (dN X.prog X.w a ob xs) := by
    rcases e with e | e
    · exact I.hok a _ e
    · exact (I.hok a _ e).2
  obtain ⟨⟨h1, z, hd, ys, l, es, ep, h2, h3, h4, h5⟩, _, _⟩ := key
  exact ⟨h1, hd, ys, es, ep, l, h2, h3, h4⟩
theorem kit_obj {h : Heap} {j a : Addr} {i n ep : Nat} (q : h.IsKeyIter j a i n ep) : ∀ c ∈ [j], ∃ oo, h.get? c = some oo ∧ ∀ cv, oo.data ≠ .cell cv := by
  intro c hc
  rw [List.mem_singleton.mp hc]
  obtain ⟨oo, m1, m2, m3⟩ := q
  exact ⟨oo, m1, fun cv => by rw [m3]; exact fun zz => nomatch zz⟩
theorem kit_self {P : Program} {w : World} {j a : Addr} {n ep : Nat} (A : Around) (i : Nat) (s : Shared) (Q E : Value → Shared → Prop) (q : s.heap.IsKeyIter j a i n ep) (hQ : Q (.ref j) s) : wpAny (model P w) A (pyIter (.ref j)) Q E s := wpAny_pyIter_keyiter q hQ
theorem kit_addr {xs : List (NestedKey × Addr × V)} {ys : List (NestedKey × Addr × Value)} (l : Lies xs ys) {i : Nat} (hx : i < xs.length) (hy : i < ys.length) : xs[i].2.1 = ys[i].2.1 := by
  have q : (xs.map fun x => x.2.1)[i]? = (ys.map fun y => y.2.1)[i]? := by rw [lies_addr l]
  rw [List.getElem?_map, List.getElem?_map, List.getElem?_eq_getElem hx, List.getElem?_eq_getElem hy] at q
  exact Option.some.inj q
theorem turn_N {P : Program} {w : World} {K : PySem.W.Frag} {a : Addr} {ob : Obj} {es : Array DictEntry} {ep : Nat} {xs : List (NestedKey × Addr × V)} (j : Addr) (hod : ob.data = .dict es ep) (hsz : es.size = xs.length) : Turn P w K tg (ItN P w a ob xs) [j] j (fun i g => g.IsKeyIter j a i xs.length ep) := by
  refine Turn.mk (List.mem_singleton.mpr rfl) (fun i g q => kit_obj q) (fun i g g' q keep => q.at fun oo m => keep j (List.mem_singleton.mpr rfl) oo m) ?_ ?_ fun A i s Q E q => kit_self A i s Q E q
  · rintro Y rfl rfl rfl calm i pins s σ H E I fpo q ⟨dn, hi⟩
    obtain ⟨g0, _, ys, es', ep', l, g1, g2, g3⟩ := dn_raw I dn
    have hy : i < ys.length := by rw [← lies_len l]; exact hi
    cases hod.symm.trans g2
    obtain ⟨u0, u1, _, u3, u4, u5⟩ := fpo j (List.mem_singleton.mpr rfl)
    have en : es[i]? = some (entryOfKey (nestedKind Y.prog Y.w) ys[i]) := by
      rw [entry_at g3 i, List.getElem?_eq_getElem hy]; rfl
    refine next_key_item q g0 hod hsz en fun g' q' same => ?_
    have J : L2.Inv Y pins σ H { s with heap := g' } := I.turned (t' := s.toks) (fun c oo hc m => (same.2 c hc).trans m) u0 u1 u3 u4 u5
    obtain ⟨oo, m1, m2, m3⟩ := id q'
    refine ⟨_, rfl, go_of (s := { s with heap := g' }) m1 m2 m3 (by decide) ⟨.ref xs[i].2.1, H, J, ?_, ⟨rfl, xs[i].1, xs[i].2.1, xs[i].2.2, List.getElem?_eq_getElem hi, rfl⟩, q', fun c hc => (fpo c hc).1⟩⟩
    rw [kit_addr l hi hy]
    rfl
  · rintro Y rfl rfl rfl calm i pins s σ H E I fpo q ⟨dn, hi⟩
    obtain ⟨g0, _, ys, es', ep', l, g1, g2, g3⟩ := dn_raw I dn
    obtain ⟨u0, u1, _, u3, u4, u5⟩ := fpo j (List.mem_singleton.mpr rfl)
    exact next_key_end (I.ok.hd calm) q g0 hod hsz hi fun g' more => ⟨rfl, I.turned (t' := s.toks) (fun c oo hc m => more c oo hc m) u0 u1 u3 u4 u5⟩
/-- the dict is locked: the heap is the same -/
theorem lock_ok {pins : List (Addr × Obj)} {σ : L2.St} {H : Hp} {s : Shared} (I : L2.Inv X pins σ H s) {a : Addr} {ob : Obj} {xs : List (NestedKey × Addr × V)} (e : H a = some (dN X.prog X.w a ob xs)) : L2.Inv X pins σ (upd H a (.frz ob (dN X.prog X.w a ob xs))) s := by
  have ok : ObjOk X.prog X.w H s.heap a (dN X.prog X.w a ob xs) := I.hok a _ e
  have g0 : s.heap.get? a = some ob := ok.1.1
  have := I.write (x := a) (e := a) (h' := s.heap) (t' := s.toks) (o := .frz ob (dN X.prog X.w a ob xs)) (by rw [e]; exact True.intro) (.inl rfl) (fun _ _ _ m => m) ⟨ob, g0⟩ ⟨g0, ok⟩
  exact this
def iKeysN (X : Cx) (te : TE) : TI := fun σ H R => te σ H fun x H1 => ∃ a ob xs, x = .ref a ∧ ((H1 a = some (dN X.prog X.w a ob xs) ∧ R (ItN X.prog X.w a ob xs) (upd H1 a (.frz ob (dN X.prog X.w a ob xs)))) ∨ (DN X.prog X.w H1 a ob xs ∧ R (ItN X.prog X.w a ob xs) H1))
theorem pi_keysN {e : Expr} {te : TE} (he : PE X e te) : PI X tg e (iKeysN X te) := by
  refine ⟨fun pins s σ H R I q => ?_⟩
  refine thn (he.run pins s σ H _ I q) fun u s1 ⟨x, H1, I1, rx, a, ob, xs, ex, q1⟩ => ?_
  subst ex
  cases rx
  have main : ∀ H2, L2.Inv X pins σ H2 s1 → DN X.prog X.w H2 a ob xs → R (ItN X.prog X.w a ob xs) H2 → wpAny (model X.prog X.w) X.A (pyIter (.ref a)) (PIE X pins σ tg R) X.xe s1 := fun H2 I2 dn q2 => by
    obtain ⟨g0, hd, ys, es, ep, l, g1, g2, g3⟩ := dn_raw I2 dn
    have hs : es.size = xs.length := by rw [size_of_entries g3, lies_len l]
    refine iter_keys hd g0 g1 g2 (pi_one (tk := s1.toks) I2 _ (turn_N _ g2 hs) ⟨_, Heap.get?_push_size _ rfl, rfl, ?_⟩ q2)
    rw [hs]
    rfl
  rcases q1 with ⟨e1, q2⟩ | ⟨dn, q2⟩
  · exact main _ (lock_ok I1 e1) (.inr upd_same) q2
  · exact main _ I1 dn q2
theorem itm_N {K : PySem.W.Frag} {P : Program} {w : World} {a : Addr} {ob : Obj} {kvs : List (D × D)} {xs : List (NestedKey × Addr × V)} (hl : kvs.length = xs.length) (hP : ca.P = P) (hw : ca.w = w) : Itm K nm ca (ItN P w a ob xs) (kvs.map (·.1)) (fun β H => (H a = some (.frz ob (dN P w a ob xs)) ∨ (DN P w H a ob xs ∧ a ∉ β)) ∧ RelK K nm ca β H kvs xs) where
  mono := fun {β H β' H'} st g => by
    refine ⟨?_, g.2.mono st⟩
    rcases g.1 with g1 | ⟨g1, g2⟩
    · exact .inl (st.frz _ _ _ g1)
    · refine .inr ⟨g1.imp (fun e => st.oth _ _ e g2) fun e => st.oth _ _ e g2, fun m => ?_⟩
      rcases st.new _ m with m | m
      · exact g2 m
      · rcases g1 with h | h <;> (rw [h] at m; cases m)
  goes := fun i β H hi g => ⟨by rcases g.1 with g1 | ⟨g1, _⟩; exact .inr g1; exact g1, by simpa [hl] using hi⟩
  stops := fun β H g => ⟨by rcases g.1 with g1 | ⟨g1, _⟩; exact .inr g1; exact g1, by simp [hl]⟩
  yields := fun i β H v H' hi g y => by
    obtain ⟨rfl, k, b, vv, e1, rfl⟩ := y
    have hk := keysL g.2
    have hi' : i < kvs.length := by simpa using hi
    obtain ⟨w', e2, e3⟩ := hk.get (i := i) (x := kvs[i].1) (by simp [hi'])
    rw [List.getElem?_map, e1] at e2
    cases e2
    exact ⟨Stp.refl _ _, fun _ r => r, _, by simp [hi'], e3⟩
theorem i_dkeys {e : Expr} {c : E} (hc : CaOk X ca) (h : SE X nm ca T cl e c) : SI X nm ca T cl tg e (.dkeys c) := by
  refine PI.imp (pi_keysN h) fun τ H R ⟨σ, h, β, rs, rh, p⟩ => ?_
  simp only [evI] at p
  obtain ⟨x, h1, e1, p⟩ := p.bind
  refine re1 rs rh e1 fun vx H1 β1 st rs1 rh1 rx => ?_
  cases x with
  | dct kvs =>
    cases rx with
    | dct k1 k2 k3 =>
      rw [hc.1, hc.2] at k1
      exact ⟨_, _, _, rfl, .inr ⟨k1, p H1 β1 _ _ st rh1 (itm_N k3.len hc.1 hc.2) ⟨.inr ⟨k1, k2⟩, k3⟩⟩⟩
  | ref n =>
    obtain ⟨a, rfl, hβ⟩ := rx.ref_inv
    cases q : h1[n]? with
    | none => simp only [q] at p; exact p.elim
    | some oo =>
      have ro := rh1.obj n oo a q hβ
      cases oo with
      | dct kvs =>
        simp only [q] at p
        obtain ⟨ob, xs, j1, j2⟩ := ro
        have sw : Stp β1 H1 β1 (upd H1 a (.frz ob (dN ca.P ca.w a ob xs))) := Stp.write (List.mem_of_getElem? hβ) j1 (fun _ z => nomatch z) (fun _ _ z => nomatch z)
        refine ⟨a, ob, xs, rfl, .inl ⟨by rw [← hc.1, ← hc.2]; exact j1, ?_⟩⟩
        rw [← hc.1, ← hc.2]
        exact p _ β1 _ _ (st.trans sw) (rh1.write hβ sw ⟨ob, xs, upd_same, j2.mono sw⟩) (itm_N j2.len rfl rfl) ⟨.inl upd_same, j2.mono sw⟩
      | lkd kvs =>
        simp only [q] at p
        obtain ⟨ob, xs, j1, j2⟩ := ro
        refine ⟨a, ob, xs, rfl, .inr ⟨by rw [← hc.1, ← hc.2]; exact .inr j1, ?_⟩⟩
        rw [← hc.1, ← hc.2]
        exact p _ β1 _ _ st rh1 (itm_N j2.len rfl rfl) ⟨.inl j1, j2⟩
      | lst _ => simp only [q] at p; exact p.elim
      | ins _ _ => simp only [q] at p; exact p.elim
  | _ => exact p.elim
end
end MC

set_option Elab.async false
set_option linter.all false
set_option maxRecDepth 100000
set_option maxHeartbeats 4000000
namespace MC
open PySem PySem.Spec PyProof.Rows L2
section
variable {X : Cx} {nm : Nat → Str} {ca : CaT} {T : Tab} {cl : Nat → List D → Hs → Res D}
/-! ### many stores -/
theorem merge_rel {β : List Addr} {H : Hp} : ∀ {more kvs : List (D × D)} {ms xs : List (NestedKey × Addr × V)} {zs ys : List (NestedKey × Addr × Value)}, RelK X.K nm ca β H more ms → Lies ms zs → RelK X.K nm ca β H kvs xs → Lies xs ys →
    ∃ xs', RelK X.K nm ca β H (mergeN kvs more) xs' ∧ Lies xs' (storedAllH ys zs) ∧ xs'.length ≤ xs.length + ms.length
  | _, kvs, _, xs, _, ys, .nil, l, r, l2 => by
    cases l
    exact ⟨xs, by simpa [mergeN] using r, l2, by simp⟩
  | _, kvs, _, xs, _, ys, .cons (d := d) (e := e) (k := k) (a := a) (v := v) ek h1 h2 t, l, r, l2 => by
    cases l with
    | @cons p q ps qs r1 r2 =>
      obtain ⟨j1, j2, j3⟩ := r1
      simp only at j1 j2 j3
      obtain ⟨xs1, p1, p2, p3⟩ := put_rel ek h1 h2 j3 r l2
      obtain ⟨xs2, q1, q2, q3⟩ := merge_rel t r2 p1 p2
      refine ⟨xs2, ?_, ?_, by simp; omega⟩
      · simp only [mergeN, ek]
        exact q1
      · have : storedAllH ys (q :: qs) = storedAllH (storedH ys q.1 q.2.1 q.2.2) qs := rfl
        rw [this, ← j1, ← j2]
        exact q2
/-! ### d.update(e) -/
def rUpN (X : Cx) (nm : Nat → Str) (ca : CaT) : V → V → Hp → VK → Prop := fun x y H Q => ∃ (β : List Addr) (a b : Addr) (ob ob2 : Obj) (kvs more : List (D × D)) (xs ms : List (NestedKey × Addr × V)), x = .ref a ∧ y = .ref b ∧ a ≠ b ∧ H a = some (dN X.prog X.w a ob xs) ∧ DN X.prog X.w H b ob2 ms ∧ RelK X.K nm ca β H kvs xs ∧ RelK X.K nm ca β H more ms ∧ kvs ≠ [] ∧ kvs.length + more.length ≤ sizeLine ∧
  ∀ ob' xs', RelK X.K nm ca β H (mergeN kvs more) xs' → Q .non (upd H a (dN X.prog X.w a ob' xs'))
def tUpN (X : Cx) (nm : Nat → Str) (ca : CaT) (to te : TE) : TE := fun σ H Q => to σ H fun x H1 => (∃ β a ob kvs xs, x = .ref a ∧ DN X.prog X.w H1 a ob xs ∧ RelK X.K nm ca β H1 kvs xs) ∧ te σ H1 fun y H2 => rUpN X nm ca x y H2 Q
theorem pe_upN {o e : Expr} {to te : TE} {apos pos : Pos} (hu : X.A.units + 64 < cLine) (ho : PE X o to) (he : PE X e te) (hb : plainO o = true) (hs : isSt e = false) (hline : (apos.endLine == pos.line) = true) : PE X (.Call (.Attribute o "update" apos) [e] [] pos) (tUpN X nm ca to te) := by
  refine ⟨fun pins s σ H Q I q => ?_⟩
  have few : (backTo pos (starEach [e] X.env)).all (fun x => !x.1) = true := star_all (by simp [hs])
  have tr : backTo pos (starEach [e] X.env) = [(false, eval e X.env)] := by rw [starEach_plain hs]; rfl
  refine wpAny_Call_method (base_ok hb) (by rw [few]; rfl) hline PySem.F.plainAttrs_dict PySem.F.slot_dict_update PySem.F.type_dict_update (thn (ho.run pins s σ H _ I q) fun u s1 ⟨x, H1, I1, rx, ⟨β, a, ob, kvs, xs, ex, e1, e2⟩, q1⟩ => ?_)
  subst ex
  cases rx
  obtain ⟨g0, _, _, ys, _, _, dd⟩ := dn_at I1 e1 e2
  refine ⟨dd.typeIs, fun c ec => ?_, ?_⟩
  · cases ec
    obtain ⟨oo, _, _, m1, m2, _⟩ := dd
    exact ⟨oo, m1, m2.2.1⟩
  rw [tr]
  refine Calls.callWith_builtin rfl (Calls.evalArgs_plain (Calls.spliced_cons (thn (he.run pins s1 σ H1 _ I1 q1) fun iv s2 ⟨y, H2, I2, ry, q2⟩ => Calls.spliced_nil ?_)))
  obtain ⟨β2, a2, b2, ob2, ob3, kvs2, more, xs2, ms, ea, rfl, hne, k1, k2, k3, k4, k5, k6, q2⟩ := q2
  cases ea
  cases ry
  obtain ⟨_, z1, hd, ys1, l1, _, dd1⟩ := dn_at I2 (.inl k1) k3
  obtain ⟨_, z2, hd2, zs, l2, _, dd2⟩ := dn_at I2 k2 k4
  have n1 := lies_len l1
  have n2 := lies_len l2
  have n3 := k3.len
  have n4 := k4.len
  obtain ⟨xs', p1, p2, p3⟩ := merge_rel k4 l2 k3 l1
  refine call_update_dictH (room_key hu) hne hd2 dd1 dd2 (.inl ?_) (by omega) fun h' dd' _ same => ?_
  · intro en
    rw [en] at n1
    exact k5 (List.length_eq_zero_iff.mp (n3.trans n1))
  · obtain ⟨oq, hq⟩ : ∃ q, h'.get? a = some q := let ⟨q, _, _, hq, _⟩ := dd'; ⟨q, hq⟩
    obtain ⟨ob', new'⟩ := dn_ok (H' := upd H2 a (dN X.prog X.w a oq xs')) (by omega) hd p2 dd'
    have ee : ob' = oq := by
      have := new'.1.1
      rw [hq] at this
      exact (Option.some.inj this).symm
    subst ee
    exact ⟨.non, _, d_write (t' := s2.toks) I2 (by rw [k1]; exact True.intro) same ⟨_, hq⟩ new', rfl, q2 ob' xs' p1⟩
theorem s_dupd {o e : Expr} {c c' : E} {apos pos : Pos} (hc : CaOk X ca) (hu : X.A.units + 64 < cLine) (ha : SE X nm ca T cl o c) (he : SE X nm ca T cl e c') (hb : plainO o = true) (hs : isSt e = false) (hline : (apos.endLine == pos.line) = true) : SE X nm ca T cl (.Call (.Attribute o "update" apos) [e] [] pos) (.dupd c c') := by
  refine PE.imp (pe_upN (nm := nm) (ca := ca) hu ha he hb hs hline) fun τ H Q ⟨σ, h, β, rs, rh, p⟩ => ?_
  simp only [evE] at p
  obtain ⟨x, h1, e1, p⟩ := p.bind
  cases q : x.kvs h1 with
  | none => simp only [q] at p; exact p.elim
  | some kv0 =>
    simp only [q] at p
    obtain ⟨y, h2, e2, p⟩ := p.bind
    refine re1 rs rh e1 fun vx H1 β1 st rs1 rh1 rx => ⟨?_, re1 rs1 rh1 e2 fun vy H2 β2 st2 rs2 rh2 ry => ?_⟩
    · obtain ⟨a, ob, xs, rfl, j1, j2⟩ := kvs_inv rh1 rx q
      rw [hc.1, hc.2] at j1
      exact ⟨β1, a, ob, kv0, xs, rfl, j1, j2⟩
    · have rx2 := rx.mono st2
      unfold updM at p
      cases x with
      | ref n =>
        cases q2 : y.kvs h2 with
        | none => simp only [q2] at p; exact p.elim
        | some more =>
          simp only [q2] at p
          cases q3 : h2[n]? with
          | none => rw [q3] at p; exact p.elim
          | some oo =>
            rw [q3] at p
            cases oo with
            | dct kvs =>
              simp only at p
              split at p
              · rename_i hcond
                rw [Bool.and_eq_true, Bool.and_eq_true] at hcond
                obtain ⟨⟨w1, w2⟩, w3⟩ := hcond
                have w1 : kvs ≠ [] := by rintro rfl; cases w1
                have w2 : kvs.length + more.length ≤ sizeLine := by simpa using w2
                obtain ⟨a, rfl, hβ⟩ := rx2.ref_inv
                obtain ⟨ob, xs, j1, j2⟩ := rh2.obj n _ a q3 hβ
                obtain ⟨b, ob2, ms, rfl, k1, k2⟩ := kvs_inv rh2 ry q2
                have hne : a ≠ b := by
                  rintro rfl
                  cases y with
                  | ref m =>
                    obtain ⟨b', eb, hb'⟩ := ry.ref_inv
                    cases eb
                    obtain ⟨h1', x1⟩ := List.getElem?_eq_some_iff.mp hβ
                    obtain ⟨h2', x2⟩ := List.getElem?_eq_some_iff.mp hb'
                    have := (List.getElem_inj rh2.nd).mp (x1.trans x2.symm)
                    subst this
                    simp [notRef] at w3
                  | dct _ =>
                    cases ry with
                    | dct _ nb _ => exact nb (List.mem_of_getElem? hβ)
                  | _ => cases q2
                refine ⟨β2, a, b, ob, ob2, kvs, more, xs, ms, rfl, rfl, hne, by rw [← hc.1, ← hc.2]; exact j1, by rw [← hc.1, ← hc.2]; exact k1, j2, k2, w1, w2, fun ob' xs' r' => ?_⟩
                rw [← hc.1, ← hc.2]
                have sw : Stp β2 H2 β2 (upd H2 a (dN ca.P ca.w a ob' xs')) := Stp.write (List.mem_of_getElem? hβ) j1 (fun _ z => nomatch z) (fun _ _ z => nomatch z)
                exact p _ _ β2 ((st.trans st2).trans sw) (rh2.write hβ sw ⟨ob', xs', upd_same, r'.mono sw⟩) .non
              · exact p.elim
            | _ => exact p.elim
      | _ => exact p.elim
/-! ### xs.pop(0) -/
theorem s_pop0 {o : Expr} {c : E} {k : Nat} {p0 apos pos : Pos} (ha : SE X nm ca T cl o c) (hb : plainO o = true) (hline : (apos.endLine == pos.line) = true) : SE X nm ca T cl (.Call (.Attribute o "pop" apos) [.Constant (.int 0) k p0] [] pos) (.pop0 c) := by
  refine PE.imp (pe_bm PySem.F.plainAttrs_list PySem.F.slot_list_pop PySem.F.type_list_pop mt_popAt ha (a_cons (s_cst (nm := nm) (ca := ca) (T := T) (cl := cl) (d := .int 0) (by rfl)) a_nil rfl) (base_ok hb) rfl hline rfl rfl) fun τ H Q ⟨σ, h, β, rs, rh, p⟩ => ?_
  simp only [evE] at p
  obtain ⟨x, h1, e1, p⟩ := p.bind
  unfold popM at p
  cases x with
  | ref n =>
    cases q : h1[n]? with
    | none => simp only [q] at p; exact p.elim
    | some oo =>
      simp only [q] at p
      cases oo with
      | lst xs =>
        cases xs with
        | nil => exact p.elim
        | cons y ys =>
          simp only at p
          refine re1 rs rh e1 fun vx H1 β1 st rs1 rh1 rx => ?_
          obtain ⟨a, rfl, hβ⟩ := rx.ref_inv
          obtain ⟨vs, j1, j2⟩ := rh1.obj n _ a q hβ
          cases j2 with
          | @cons _ v _ vs r1 r2 =>
            refine ⟨.inl ⟨rfl, _, SqL.of j1⟩, ra1 (x := [.int 0]) (h1 := h1) rs1 rh1 (by simp [evA, evE, Res.bind]) fun vxs H2 β2 st2 rs2 rh2 rxs => ?_⟩
            obtain ⟨w, rfl, rw'⟩ := one_rel rxs
            cases rw'
            have hβ2 := st2.get hβ
            obtain ⟨vs2, j3, j4⟩ := rh2.obj n _ a q hβ2
            cases j4 with
            | @cons _ v2 _ vs2 r3 r4 =>
              refine ⟨a, v2 :: vs2, 0, 0, v2, rfl, rfl, j3, by decide, by decide, by simp [seqIndex?], rfl, ?_⟩
              have sw : Stp β2 H2 β2 (upd H2 a (.lst vs2)) := Stp.write (List.mem_of_getElem? hβ2) j3 (fun _ z => nomatch z) (fun _ _ z => nomatch z)
              exact p v2 _ β2 ((st.trans st2).trans sw) (rh2.write hβ2 sw ⟨_, upd_same, r4.mono sw⟩) (r3.mono sw)
      | _ => exact p.elim
  | _ => exact p.elim
end
end MC

set_option Elab.async false
set_option linter.all false
set_option maxRecDepth 100000
set_option maxHeartbeats 4000000
namespace MC
open PySem PySem.Spec PyProof.Rows L2
section
variable {X : Cx} {nm : Nat → Str} {ca : CaT} {T : Tab} {cl : Nat → List D → Hs → Res D}
/-! ### dict([(k, v), ..]) -/
theorem pairsD_inv {y : D} {xs : List D} {kvs : List (D × D)} (e : pairsD (y :: xs) = some kvs) : ∃ a v k ks, y = .tup [a, v] ∧ a.tkey = some k ∧ pairsD xs = some ks ∧ kvs = (a, v) :: ks := by
  unfold pairsD at e
  split at e
  · cases ‹_ :: _ = []›
  · rename_i a v r heq
    cases heq
    split at e
    · rename_i k s q1 q2
      cases e
      exact ⟨a, v, _, _, rfl, q1, q2, rfl⟩
    · cases e
  · cases e
theorem gather {pins : List (Addr × Obj)} {σ : L2.St} {β : List Addr} {H : Hp} {s : Shared} (I : L2.Inv X pins σ H s) : ∀ {ds : List D} {vs : List V} {us : List Value} {kvs : List (D × D)}, RelL X.K nm ca β H ds vs → Vals vs us → pairsD ds = some kvs →
    ∃ (ts : List Addr) (xs : List (NestedKey × Addr × V)) (zs : List (NestedKey × Addr × Value)), us = ts.map Value.ref ∧ ts.length = zs.length ∧ (∀ (j : Nat) (z : NestedKey × Addr × Value), zs[j]? = some z → ∃ t, ts[j]? = some t ∧ s.heap.IsTuple t #[.ref z.2.1, z.2.2]) ∧ RelK X.K nm ca β H kvs xs ∧ Lies xs zs
  | _, _, _, _, .nil, r, e => by
    cases r
    cases e
    exact ⟨[], [], [], rfl, rfl, fun j z h => by simp at h, .nil, .nil⟩
  | _, _, _, _, .cons h t, r, e => by
    cases r with
    | cons r1 r2 =>
      obtain ⟨a, v, k, ks, rfl, e1, e2, rfl⟩ := pairsD_inv e
      obtain ⟨ts, xs, zs, i1, i2, i3, i4, i5⟩ := gather I t r2 e2
      obtain ⟨tp, ws, rfl, g1, g2⟩ := h.tup_inv
      cases r1
      cases g2 with
      | cons g3 g4 =>
        obtain ⟨y, rfl, g5⟩ := one_rel g4
        obtain ⟨b, rfl⟩ := tkey_ref g3 e1
        obtain ⟨its, rv, ⟨o, m1, m2, n, m3⟩, _⟩ := I.tuple g1
        cases rv with
        | cons rv1 rv2 =>
          cases rv1
          obtain ⟨u2, rfl, rv3⟩ := vals1 rv2
          refine ⟨tp :: ts, (k, b, y) :: xs, (k, b, u2) :: zs, by simp [i1], by simp [i2], fun j z hz => ?_, .cons e1 g3 g5 i4, .cons ⟨rfl, rfl, rv3⟩ i5⟩
          cases j with
          | zero =>
            simp at hz
            subst hz
            exact ⟨tp, rfl, o, m1, m2, n, m3⟩
          | succ j => exact i3 j z (by simpa using hz)
def rDof (X : Cx) (nm : Nat → Str) (ca : CaT) : List V → Hp → VK → Prop := fun us H Q => ∃ (β : List Addr) (a : Addr) (ds : List D) (vs : List V) (kvs : List (D × D)), us = [.ref a] ∧ SqL X.K H a vs ∧ RelL X.K nm ca β H ds vs ∧ pairsD ds = some kvs ∧ kvs.length ≤ sizeLine ∧
  ∀ p ob' xs', H p = none → RelK X.K nm ca β H (mergeN [] kvs) xs' → Q (.ref p) (upd H p (dN X.prog X.w p ob' xs'))
theorem call_dof (hcm : X.calm = true) (hu : X.A.units + 64 < cLine) : CallR X (.type "dict") (rDof X nm ca) := by
  intro pins s σ H us ws Q I r q
  obtain ⟨β, a, ds, vs, kvs, rfl, g1, g2, g3, g4, q⟩ := q
  obtain ⟨u, rfl, ru⟩ := vals1 r
  cases ru
  obtain ⟨its, rv, pl, hz⟩ := I.list g1
  obtain ⟨ts, xs, zs, i1, i2, i3, i4, i5⟩ := gather I g2 rv g3
  have n1 := lies_len i5
  have n2 := i4.len
  have hn := I.hok.fresh (Nat.le_refl s.heap.objs.size)
  obtain ⟨xs', p1, p2, p3⟩ := merge_rel i4 i5 (kvs := []) .nil .nil
  have hsm : sysModules < s.heap.objs.size := I.big
  refine call_dict_pairsH (knd := nestedKind X.prog X.w) (ps := zs) (PairArg.list a its.toArray (fun j => ts.getD j 0) (zs.map fun z => (Value.ref z.2.1, z.2.2))) (I.ok.hd hcm) ?_ ⟨?_, ?_, ?_⟩ ⟨by simp, ?_⟩ ?_ (by simp; omega) fun h' tk dd' keep => ?_
  · show X.A.units + 1 + 1 + 8 < cLine
    omega
  · obtain ⟨o, n, m1, m2, m3, m4⟩ := pl
    exact ⟨o, n, m1, m2, m3, m4⟩
  · have : its = ts.map Value.ref := i1
    simp [this, i2]
  · intro j k v hj
    rw [List.getElem?_map] at hj
    cases hz' : zs[j]? with
    | none => rw [hz'] at hj; cases hj
    | some z =>
      rw [hz'] at hj
      cases hj
      obtain ⟨t, t1, t2⟩ := i3 j z hz'
      have et : ts.getD j 0 = t := by simp [List.getD, t1]
      refine ⟨?_, ?_⟩
      · have : its = ts.map Value.ref := i1
        show its.toArray[j]? = some (Value.ref (ts.getD j 0))
        rw [this, et]
        simp [t1]
      · show PairAt s.heap (ts.getD j 0) _ _
        rw [et]
        exact .inl t2
  · intro i key v hr
    have hr : (zs.map fun z => (Value.ref z.2.1, z.2.2))[i]? = some (key, v) := hr
    rw [List.getElem?_map] at hr
    cases hz' : zs[i]? with
    | none => rw [hz'] at hr; cases hr
    | some z =>
      rw [hz'] at hr
      cases hr
      exact ⟨z.1, z.2.1, rfl, rfl⟩
  · intro h' keep x hx
    exact nestedKind_stays.stays (fun b o _ _ m _ => keep b o (Nat.ne_of_lt (Heap.lt_size m)) (fun zz => nomatch zz) m) (RelK.is I i4 i5 x hx)
  · obtain ⟨oq, hq⟩ : ∃ q, h'.get? s.heap.objs.size = some q := let ⟨q, _, _, hq, _⟩ := dd'; ⟨q, hq⟩
    have hd : (s.heap.objs.size == sysModules) = false := beq_eq_false_iff_ne.mpr (Ne.symm (Nat.ne_of_lt hsm))
    obtain ⟨ob', new'⟩ := dn_ok (H' := upd H s.heap.objs.size (dN X.prog X.w s.heap.objs.size oq xs')) (by simp at p3; omega) hd p2 dd'
    have ee : ob' = oq := by
      have := new'.1.1
      rw [hq] at this
      exact (Option.some.inj this).symm
    subst ee
    exact ⟨.ref s.heap.objs.size, _, I.laid (t' := tk) (fun c o m => keep c o (fun zz => nomatch zz) m) (Nat.le_refl _) new', rfl, q _ ob' xs' hn p1⟩
theorem s_dof {e : Expr} {c : E} {p pos : Pos} (hc : CaOk X ca) (hcm : X.calm = true) (hu : X.A.units + 64 < cLine) (hg : Gl X "dict") (hm : X.mg "dict" = none) (ha : SE X nm ca T cl e c) (hs : isSt e = false) : SE X nm ca T cl (.Call (.Name "dict" p) [e] [] pos) (.dof c) := by
  refine PE.imp (pe_callTy (call_dof (nm := nm) (ca := ca) hcm hu) hg hm (by decide +kernel) (a_cons ha a_nil hs) (by decide) (by decide) (starEach_plain hs) rfl) fun τ H Q ⟨σ, h, β, rs, rh, p⟩ => ?_
  simp only [evE] at p
  obtain ⟨x, h1, e1, p⟩ := p.bind
  cases q : x.lseq h1 with
  | none => simp only [q] at p; exact p.elim
  | some ds =>
    simp only [q] at p
    cases q2 : pairsD ds with
    | none => simp only [q2] at p; exact p.elim
    | some kvs =>
      simp only [q2] at p
      split at p
      · rename_i hz
        refine ra1 (x := [x]) (h1 := h1) rs rh (by simp [evA, e1, Res.bind]) fun vxs H1 β1 st rs1 rh1 rx => ?_
        obtain ⟨v, rfl, ry⟩ := one_rel rx
        obtain ⟨a, vs, rfl, k1, k2⟩ := lseq_inv rh1 q ry
        refine ⟨β1, a, ds, vs, kvs, rfl, k1, k2, q2, hz, fun l ob' xs' hl r' => ?_⟩
        rw [← hc.1, ← hc.2]
        exact PostE.push (d := .non) (p.step st) rh1 hl ⟨ob', xs', upd_same, r'.mono (Stp.push hl)⟩
      · exact p.elim
/-! ### a, b, c = x, y, z -/
theorem st_par3 {i j l : Nat} {x y z : Str} {a b c : Expr} {ka kb kc : E} {px py pz pt pt2 pos : Pos} {kt k2 : Nat} (hcm : X.calm = true) (hN : X.N.Nodup) (hi : X.N[i]? = some x) (hj : X.N[j]? = some y) (hl : X.N[l]? = some z) (hij : i ≠ j) (hil : i ≠ l) (hjl : j ≠ l) (hx : X.env.scope.names.lookup x = some .local) (hy : X.env.scope.names.lookup y = some .local) (hz : X.env.scope.names.lookup z = some .local) (ha : SE X nm ca T cl a ka) (hb : SE X nm ca T cl b kb) (hc : SE X nm ca T cl c kc)
    (hs : isSt a = false) (hs2 : isSt b = false) (hs3 : isSt c = false) (hw : swappedStores [.Tuple [.Name x px, .Name y py, .Name z pz] kt pt] (.Tuple [a, b, c] k2 pt2) X.env = pure (some [x, y, z])) : SS X nm ca T cl (.Assign [.Tuple [.Name x px, .Name y py, .Name z pz] kt pt] (.Tuple [a, b, c] k2 pt2) pos) (.par3 i j l ka kb kc) := by
  refine PS.imp (ps_par3 hcm hN hi hj hl hij hil hjl hx hy hz (a_cons ha (a_cons hb (a_cons hc a_nil hs3) hs2) hs) hw rfl) fun D τ H ⟨σ, h, β, rs, rh, p⟩ => ?_
  simp only [evS] at p
  obtain ⟨d, h1, e1, p⟩ := p.bind
  obtain ⟨d2, h2, e2, p⟩ := p.bind
  obtain ⟨d3, h3, e3, p⟩ := p.bind
  refine ra1 (x := [d, d2, d3]) (h1 := h3) rs rh (by simp [evA, e1, e2, e3, Res.bind]) fun vxs H1 β1 st rs1 rh1 rx => ?_
  cases rx with
  | cons r1 r2 =>
    cases r2 with
    | cons r2 r3 =>
      obtain ⟨v, rfl, ry⟩ := one_rel r3
      exact ⟨_, _, _, rfl, p _ H1 β1 st (((rs1.set r1).set r2).set ry) rh1⟩
end
end MC

set_option Elab.async false
set_option linter.all false
set_option maxRecDepth 100000
set_option maxHeartbeats 4000000
namespace MC
open PySem PySem.Spec PyProof.Rows L2
section
variable {X : Cx} {nm : Nat → Str} {ca : CaT} {T : Tab} {cl : Nat → List D → Hs → Res D} {tg : Expr}
/-! ### {k: v for ..}, the keys tuples -/
theorem dset_N {pins : List (Addr × Obj)} {σ : L2.St} {H : Hp} {s : Shared} {E : Value → Shared → Prop} {a : Addr} {y z : V} {yv zv : Value} {N : Hp → Prop} {R : Unit → Shared → Prop} (hu : X.A.units + 64 < cLine) (I : L2.Inv X pins σ H s) (ry : RelV y yv) (rz : RelV z zv) (q : rDst X nm ca (.ref a) y z H N) (fin : ∀ g G, L2.Inv X pins σ G g → N G → R () g) : wpAny (model X.prog X.w) X.A (dictSet a yv zv) R E s := by
  obtain ⟨β, a', b, ob, d, e, k, kvs, xs, ea, rfl, e1, e2, hz, e3, e4, e5, q⟩ := q
  cases ea
  cases ry
  obtain ⟨_, z', hd, ys, l, _, dd⟩ := dn_at I (.inl e1) e2
  have l1 := lies_len l
  have l2 := e2.len
  obtain ⟨xs', p1, p2, p3⟩ := put_rel e4 e3 e5 rz e2 l
  refine wpAny_dictSet_heap (hsz := by omega) (room_key0 hu) (key_is I e3 e4) dd fun h' dd' same => ?_
  obtain ⟨oq, hq⟩ : ∃ q, h'.get? a = some q := let ⟨q, _, _, hq, _⟩ := dd'; ⟨q, hq⟩
  obtain ⟨ob', new'⟩ := dn_ok (H' := upd H a (dN X.prog X.w a oq xs')) (by omega) hd p2 dd'
  have ee : ob' = oq := by
    have := new'.1.1
    rw [hq] at this
    exact (Option.some.inj this).symm
  subst ee
  exact fin _ _ (d_write I (by rw [e1]; exact True.intro) same ⟨_, hq⟩ new') (q ob' xs' p1)
def tDcN (X : Cx) (nm : Nat → Str) (ca : CaT) (wi : TI) (tgt : TG) (tt : TT) (tk tv : TE) (vs : List Nat) : TE := fun σ H Q => wi σ H fun J G => ∀ a ob, G a = none → ∃ W : Nat → Nat → Hp → Prop, (∃ m, W 0 m (upd G a (dN X.prog X.w a ob []))) ∧ ∀ i m G', W i m G' →
  (J.stop i G' ∧ Q (.ref a) G') ∨ (J.go i G' ∧ ∃ N : Hp → Prop, (∀ G2, N G2 → ∃ m', m' < m ∧ W (i + 1) m' G2) ∧ ∀ x G2, J.yld i G' x G2 → tgt x (wipe σ vs) G2 fun σ2 G3 => wipe σ2 vs = wipe σ vs ∧ tt σ2 G3 fun t G4 =>
    if t = true then tk σ2 G4 fun y G5 => tv σ2 G5 fun z G6 => rDst X nm ca (.ref a) y z G6 N else N G4)
abbrev Blk (X : Cx) (scope : Scope) (P : Cx → Prop) : Prop := ∀ (s : Shared) (H : Hp) (C : Addr) (cs : List (Str × Addr)) (fp : List Addr), P (X.blk s H scope (compEnvC scope cs C X.env) fp)
theorem dcN_core {pins : List (Addr × Obj)} {s0 : Shared} {σ : L2.St} {H : Hp} {Q : VK} {use : Option (Value → Sem Unit)} {Qf : Value → Shared → Prop} {kx vx iter : Expr} {ifs : List Expr} {scope : Scope} {own : List (Str × Nat)} {pos pos' : Pos} {wi : TI} {tgt : TG} {tt : TT} {tk tv : TE} (hu : X.A.units + 64 < cLine) (calm : X.calm = true) (nd : X.N.Nodup) (hi : PI X tg iter wi) (ok : BlkOk X.N X.env.scope scope own)
    (bg : Blk X scope fun Y => PG Y tg tgt) (bt : Blk X scope fun Y => PTs Y ifs tt) (bk : Blk X scope fun Y => PE Y kx tk) (bv : Blk X scope fun Y => PE Y vx tv) (hs : ∀ x, foldedSetIterable iter X.env x = pure x)
    (I0 : L2.Inv X pins σ H s0) (q0 : tDcN X nm ca wi tgt tt tk tv (own.map (·.2)) σ H Q) (fin : ∀ a C s' m G', L2.Inv X pins σ G' s' → Q (.ref a) G' → s'.heap.Ns C m → FpOk X pins G' C → compPost (model X.prog X.w) X.A X.xe use Qf (.ref a) C (.ok .next) s') :
    wpAny (model X.prog X.w) X.A (comprehension (.DictComp kx vx [⟨tg, iter, ifs, 0⟩] scope pos) scope X.env pos' newDict false (eval iter X.env) use) Qf X.xe s0 := by
  have cells : ∀ y ∈ scope.names, y.2 = .free → ∃ c, X.env.cells.lookup y.1 = some c := fun y m fr => by
    rcases ok.free y m fr with t | t
    · exact I0.ok.has _ (.inl t)
    · exact I0.ok.has _ (.inr t)
  refine wpAny_comprehension_free (use := use) rfl hs (closure_ok cells) ok.kind (fun y m fr => by rw [ok.uniq y m, fr]) (thn (hi.run pins s0 σ H _ I0 q0) fun xv s1 hx => thn hx fun itv s2 q2 => ?_)
  obtain ⟨it, fp, tn, J, G, rfl, I2, TT, t2, f2, q⟩ := q2
  refine wpAny_newObj_type (newEnv_comp ?_)
  generalize ha : s2.heap.objs.size = a
  have na : G a = none := I2.hok.fresh (Nat.le_of_eq ha)
  -- the new dict
  obtain ⟨ob, new⟩ := dn_new (P := X.prog) (w := X.w) (H := upd G a (dN X.prog X.w a { cls := .type "dict", data := .dict #[] } [])) s2.heap I2.big
  have eo : ob = { cls := .type "dict", data := .dict #[] } := by
    have := new.1.1
    rw [Heap.get?_push_size _ rfl] at this
    exact (Option.some.inj this).symm
  subst eo
  rw [ha] at new
  obtain ⟨W, ⟨m0, w0⟩, turn⟩ := q a { cls := .type "dict", data := .dict #[] } na
  have I3 := I2.laid (t' := s2.toks) (fun _ _ m => Heap.get?_push_of_some _ m) (Nat.le_of_eq ha) new
  generalize e3 : ({ s2 with heap := s2.heap.push { cls := .type "dict", data := .dict #[] } } : Shared) = s3 at I3
  have h3 : s3.heap = s2.heap.push { cls := .type "dict", data := .dict #[] } := by rw [← e3]
  have I3' : L2.Inv X pins σ (upd G a (dN X.prog X.w a { cls := .type "dict", data := .dict #[] } [])) s3 := by
    rw [← e3]
    exact I2.laid (t' := s2.toks) (fun _ _ m => Heap.get?_push_of_some _ m) (Nat.le_of_eq ha) new
  generalize eG : upd G a (dN X.prog X.w a { cls := .type "dict", data := .dict #[] } []) = G3 at I3' w0
  have f3 : ∀ c ∈ fp, FpOk X pins G3 c ∧ c < s3.heap.objs.size := fun c m => by
    obtain ⟨oc, ec, _⟩ := TT.obj _ _ t2 c m
    have lt := Heap.lt_size ec
    have nc : G3 c = none := by
      rw [← eG, upd_ne (by rw [← ha]; exact Nat.ne_of_lt lt)]
      exact (f2 c m).1
    exact ⟨⟨nc, (f2 c m).2⟩, by rw [h3, Heap.size_push]; exact Nat.lt_succ_of_lt lt⟩
  have t3 : tn 0 s3.heap := TT.keep _ _ _ t2 fun c _ o m => by rw [h3]; exact Heap.get?_push_of_some _ m
  have I4 := block_start I3' ok nd f3
  have pg := bg s3 G3 s3.heap.objs.size (cellsFrom (s3.heap.objs.size + 1) scope.names (cloFrom X.env.cells scope.names [])) fp
  have pt := bt s3 G3 s3.heap.objs.size (cellsFrom (s3.heap.objs.size + 1) scope.names (cloFrom X.env.cells scope.names [])) fp
  have pk := bk s3 G3 s3.heap.objs.size (cellsFrom (s3.heap.objs.size + 1) scope.names (cloFrom X.env.cells scope.names [])) fp
  have pv := bv s3 G3 s3.heap.objs.size (cellsFrom (s3.heap.objs.size + 1) scope.names (cloFrom X.env.cells scope.names [])) fp
  have shape : ∀ cs : List (Str × Addr), cs = cellsFrom (s3.heap.objs.size + 1) scope.names (cloFrom X.env.cells scope.names []) →
      codeAny (model X.prog X.w) X.A (.compStart (.DictComp kx vx [⟨tg, iter, ifs, 0⟩] scope pos) 0 (.ref it) (.ref a) (compEnvC scope cs s3.heap.objs.size X.env))
        (compPost (model X.prog X.w) X.A X.xe use Qf (.ref a) s3.heap.objs.size)
        { s3 with heap := pushCells (s3.heap.push { cls := .type "dict", data := .dict #[] }) scope.names } → _ := fun cs ecs z => by
    subst ecs
    exact z
  refine shape _ rfl ?_
  generalize ec : compEnvC scope (cellsFrom (s3.heap.objs.size + 1) scope.names (cloFrom X.env.cells scope.names [])) s3.heap.objs.size X.env = ce at I4 pg pt pk pv ⊢
  have lc : ce.locals = s3.heap.objs.size := by subst ec; rfl
  generalize e4 : ({ s3 with heap := pushCells (s3.heap.push { cls := .type "dict", data := .dict #[] }) scope.names } : Shared) = s4 at I4 ⊢
  have t4 : tn 0 s4.heap := TT.keep _ _ _ t3 fun c _ o m => by rw [← e4]; exact pushCells_keeps _ _ _ _ (Heap.get?_push_of_some _ m)
  have fpB : ∀ {σ' : L2.St} {G' : Hp} {s' : Shared}, L2.Inv (X.blk s3 G3 scope ce fp) [] σ' G' s' → (∀ c ∈ fp, G' c = none) → ∀ c ∈ fp, FpOk (X.blk s3 G3 scope ce fp) [] G' c := fun {σ' G' s'} I' nn c m =>
    ⟨nn c m, (I'.ok.exf c m).1, I'.ok.exfs c m, .inl m, fun x cc z => (I'.ok.exf c m).2 x cc z, fun p pm => absurd (show p ∈ ([] : List (Addr × Obj)) ++ [] from pm) (by simp)⟩
  refine codeAny_compStart_dict ?_ (TT.self X.A 0 _ _ _ t4 ?_)
  all_goals
    refine compLoop_anyD (fun n s' => ∃ i G', L2.Inv (X.blk s3 G3 scope ce fp) [] (wipe σ (own.map (·.2))) G' s' ∧ tn i s'.heap ∧ (∀ c ∈ fp, G' c = none) ∧ W i n G') ?_ m0 ⟨0, G3, I4, t4, fun c m => (f3 c m).1.1, w0⟩
    rintro n s5 ⟨i, G5, I5, t5, n5, w5⟩
    rcases turn i n G5 w5 with ⟨stop, qq⟩ | ⟨go, N, hN, step⟩
    · refine thnF (TT.done (X.blk s3 G3 scope ce fp) rfl rfl rfl calm i [] s5 _ G5 (fun _ _ => False) I5 (fpB I5 n5) t5 stop) fun r s6 ⟨er, I6⟩ => ?_
      subst er
      have I7 : L2.Inv X pins σ G5 s6 := I3'.call' (ch := fp) I6.os I6.base I6.hok I6.bare fun c m => ⟨(f3 c m).1.2.2.2.1, (f3 c m).1.2.1, (f3 c m).1.2.2.2.2.1, (f3 c m).1.2.2.2.2.2⟩
      have nC : G5 s3.heap.objs.size = none := by
        have z : G5 ce.locals = none := I6.free
        rwa [lc] at z
      obtain ⟨mm, hn, _⟩ := I6.loc
      have hn : s6.heap.Ns ce.locals mm := hn
      rw [lc] at hn
      exact fin a s3.heap.objs.size s6 mm G5 I7 qq hn (I3'.fpOk (Nat.le_refl _) nC)
    · refine thnF (TT.item (X.blk s3 G3 scope ce fp) rfl rfl rfl calm i [] s5 _ G5 (fun _ _ => False) I5 (fpB I5 n5) t5 go) fun r s6 ⟨u, er, q6⟩ => ?_
      subst er
      refine thnF q6 fun _ s7 ⟨x, G7, I7, r7, y7, t7, n7⟩ => ?_
      refine thnF (pg.run _ s7 _ G7 x u _ (I7.pinned (fpB I7 n7) (TT.obj _ _ t7)) r7 (step x G7 y7)) fun _ s8 ⟨σ8, G8, I8, w8, q8⟩ => thnF (pt.run _ s8 σ8 G8 _ I8 q8) fun t s9 ⟨G9, I9, q9⟩ => ?_
      have last : ∀ (s' : Shared) (G' : Hp), L2.Inv (X.blk s3 G3 scope ce fp) ([] ++ pinsAt fp s7.heap) σ8 G' s' → N G' → ∃ m, m < n ∧ ∃ i G', L2.Inv (X.blk s3 G3 scope ce fp) [] (wipe σ (own.map (·.2))) G' s' ∧ tn i s'.heap ∧ (∀ c ∈ fp, G' c = none) ∧ W i m G' := fun s' G' I' nx => by
        obtain ⟨m', lt, w'⟩ := hN G' nx
        have pin : ∀ c ∈ fp, ∀ o, s7.heap.get? c = some o → s'.heap.get? c = some o ∧ G' c = none := fun c m o z => by
          have zz := I'.pin (c, o) (List.mem_append_right _ (List.mem_append_right _ (mem_pinsAt m z)))
          exact ⟨zz.1, zz.2.1⟩
        have len : (wipe σ (own.map (·.2))).length = σ8.length := by rw [← w8, wipe_length]
        refine ⟨m', lt, i + 1, G', (I'.unpinned (pins := [])).weak len (fun j v z => ?_), TT.keep _ _ _ t7 fun c m o z => (pin c m o z).1, fun c m => ?_, w'⟩
        · rw [← w8] at z
          exact (wipe_some z).1
        · obtain ⟨o, z, _⟩ := TT.obj _ _ t7 c m
          exact (pin c m o z).2
      cases t with
      | false =>
        simp only [Bool.false_eq_true, if_false] at q9 ⊢
        exact last _ _ I9 q9
      | true =>
        simp only [if_true] at q9 ⊢
        refine thnF (pk.run _ s9 σ8 G9 _ I9 q9) fun kv s10 ⟨yk, G10, I10, r10, q10⟩ => thnF (pv.run _ s10 σ8 G10 _ I10 q10) fun vv s11 ⟨yv, G11, I11, r11, q11⟩ => ?_
        exact dset_N (X := X.blk s3 G3 scope ce fp) (nm := nm) (ca := ca) hu I11 r10 r11 q11 fun g' G' I' nx => last g' G' I' nx
theorem pe_dcN {kx vx iter : Expr} {ifs : List Expr} {scope : Scope} {own : List (Str × Nat)} {pos : Pos} {wi : TI} {tgt : TG} {tt : TT} {tk tv : TE} (hu : X.A.units + 64 < cLine) (calm : X.calm = true) (nd : X.N.Nodup) (hi : PI X tg iter wi) (ok : BlkOk X.N X.env.scope scope own)
    (bg : Blk X scope fun Y => PG Y tg tgt) (bt : Blk X scope fun Y => PTs Y ifs tt) (bk : Blk X scope fun Y => PE Y kx tk) (bv : Blk X scope fun Y => PE Y vx tv) (hs : ∀ x, foldedSetIterable iter X.env x = pure x) :
    PE X (.DictComp kx vx [⟨tg, iter, ifs, 0⟩] scope pos) (tDcN X nm ca wi tgt tt tk tv (own.map (·.2))) := by
  refine ⟨fun pins s0 σ H Q I0 q0 => ?_⟩
  rw [arm_eval_DictComp]
  refine dcN_core (nm := nm) (ca := ca) hu calm nd hi ok bg bt bk bv hs I0 q0 fun a C s' mm G' I' qq hn ff => ⟨mm, hn, fun g' same => ?_⟩
  obtain ⟨u0, u1, _, u3, u4, u5⟩ := ff
  exact ⟨.ref a, G', I'.turned (t' := s'.toks) (fun c o hc m => (same.2 c hc).trans m) u0 u1 u3 u4 u5, rfl, qq⟩
/-- the comprehension's own frame stores its name -/
theorem ps_dcN {i : Nat} {y : Str} {py : Pos} {kx vx iter : Expr} {ifs : List Expr} {scope : Scope} {own : List (Str × Nat)} {pos spos : Pos} {wi : TI} {tgt : TG} {tt : TT} {tk tv : TE} (hu : X.A.units + 64 < cLine) (calm : X.calm = true) (nd : X.N.Nodup) (hy : X.N[i]? = some y) (yl : X.env.scope.names.lookup y = some .local) (sw : swapsWith (.DictComp kx vx [⟨tg, iter, ifs, 0⟩] scope pos) (some (.Name y py)) spos.line X.env = pure true)
    (hi : PI X tg iter wi) (ok : BlkOk X.N X.env.scope scope own) (bg : Blk X scope fun Y => PG Y tg tgt) (bt : Blk X scope fun Y => PTs Y ifs tt) (bk : Blk X scope fun Y => PE Y kx tk) (bv : Blk X scope fun Y => PE Y vx tv) (hs : ∀ x, foldedSetIterable iter X.env x = pure x) :
    PS X (.Assign [.Name y py] (.DictComp kx vx [⟨tg, iter, ifs, 0⟩] scope pos) spos) (tAsg (tDcN X nm ca wi tgt tt tk tv (own.map (·.2))) (gName i)) := by
  refine ⟨fun pins s0 σ H D I0 q0 => ?_⟩
  rw [exec_Assign_Name_used _ _ _ _ sw]
  refine wpAny_bind (wpAny_standAt (wpAny_bind ?_))
  have q0 : tDcN X nm ca wi tgt tt tk tv (own.map (·.2)) σ H (fun x G => gName i x σ G D.nx) := q0
  have core := dcN_core (pos := pos) (pos' := firstIterPos [⟨tg, iter, ifs, 0⟩] pos) (use := some (assign (.Name y py) X.env)) (Qf := fun _ s' => SP X pins D .next s') (nm := nm) (ca := ca) hu calm nd hi ok bg bt bk bv hs I0 q0 fun a C s' mm G' I' qq hn ff => by
    show wpAny _ _ (assign (.Name y py) X.env (.ref a)) _ _ _
    refine wpAny_assign_Name (store_ok2 (v := V.ref a) I' nd hy (.inl yl) rfl (fun s2 I2 ⟨c, same, hc⟩ => ?_) (.inr yl))
    obtain ⟨u0, u1, _, u3, u4, u5⟩ := ff
    have ne : C ≠ c := by
      rcases hc with t | t
      · rw [t]; exact u1
      · exact fun t' => u4 y c t t'.symm
    exact ⟨mm, hn.sameBut same ne, fun g' more => ⟨_, G', I2.turned (t' := s2.toks) (fun b o hb m => (more.2 b hb).trans m) u0 u1 u3 u4 u5, qq⟩⟩
  exact wpAny_bind (thn core fun _ s' done => wpAny_pure (wpAny_pure done))
end
end MC

set_option Elab.async false
set_option linter.all false
set_option maxRecDepth 100000
set_option maxHeartbeats 4000000
namespace MC
open PySem PySem.Spec PyProof.Rows L2
section
variable {X : Cx} {nm : Nat → Str} {ca : CaT} {T : Tab} {cl : Nat → List D → Hs → Res D} {tg : Expr}
theorem storeM_ok {n : Nat} {x y : D} {h h' : Hs} (e : storeM n x y h = .ok () h') : ∃ acc k, h[n]? = some (.dct acc) ∧ x.tkey = some k ∧ acc.length < sizeLine ∧ h' = h.set n (.dct (putN x k y acc)) := by
  unfold storeM at e
  cases q : h[n]? with
  | none => rw [q] at e; cases e
  | some o =>
    cases o with
    | dct acc =>
      cases q2 : x.tkey with
      | none => rw [q, q2] at e; cases e
      | some k =>
        rw [q, q2] at e
        simp only at e
        split at e
        · cases e; exact ⟨acc, k, rfl, rfl, by assumption, rfl⟩
        · cases e
    | lst _ => rw [q] at e; cases e
    | ins _ _ => rw [q] at e; cases e
    | lkd _ => rw [q] at e; cases e
theorem s_dcm {kx elt iter : Expr} {ifs : List Expr} {scope : Scope} {own : List (Str × Nat)} {pos : Pos} {fz : Bool} {vs : List Nat} {ck ce : E} {g : G} {it : I} {c : OE} (hca : CaOk X ca) (hu : X.A.units + 64 < cLine) (hc : X.calm = true) (hN : X.N.Nodup) (hi : SI X nm ca T cl tg iter it) (ok : BlkOk X.N X.env.scope scope own)
    (hg : Blk X scope fun Y => SG Y nm ca T cl tg g) (ht : Blk X scope fun Y => PTsM Y nm ca T cl ifs c) (hk : Blk X scope fun Y => SE Y nm ca T cl kx ck)
    (he : Blk X scope fun Y => SE Y nm ca T cl elt ce) (hs : ∀ x, foldedSetIterable iter X.env x = pure x) (hv : own.map (·.2) = vs) (hgs : ∀ i ∈ g.slots, i ∈ vs) :
    SE X nm ca T cl (.DictComp kx elt [⟨tg, iter, ifs, 0⟩] scope pos) (.dcm fz vs ck ce g it c) ∧
    ∀ {i : Nat} {y : Str} {py spos : Pos}, X.N[i]? = some y → X.env.scope.names.lookup y = some .local → swapsWith (.DictComp kx elt [⟨tg, iter, ifs, 0⟩] scope pos) (some (.Name y py)) spos.line X.env = pure true →
      PS X (.Assign [.Name y py] (.DictComp kx elt [⟨tg, iter, ifs, 0⟩] scope pos) spos) (tAsg (RE X.K nm ca (evE T cl (.dcm fz vs ck ce g it c))) (gName i)) := by
  have key : ∀ τ H Q, RE X.K nm ca (evE T cl (.dcm fz vs ck ce g it c)) τ H Q → tDcN X nm ca (RI X.K nm ca (evI T cl it)) (RG X.K nm ca g.slots (evG T cl g)) (RT X.K nm ca (evOT T cl c)) (RE X.K nm ca (evE T cl ck)) (RE X.K nm ca (evE T cl ce)) (own.map (·.2)) τ H Q := by
    intro τ H Q ⟨σ, h, β, rs, rh, p⟩
    rw [hv]
    simp only [evE] at p
    obtain ⟨s, h1, e1, p⟩ := p.bind
    cases s with
    | live n =>
      cases qo : h1[n]? with
      | none => simp only [qo] at p; exact p.elim
      | some o =>
      cases qi : o.items with
      | none => simp only [qo, qi] at p; exact p.elim
      | some xs =>
      simp only [qo, qi] at p
      obtain ⟨u0, hf, ef, p⟩ := p.bind
      have ef : loopDCg (grd o n) (evG T cl g) (evOT T cl c) (evE T cl ck) (evE T cl ce) (wipeM vs σ) h1.length (xs.drop 0) (h1 ++ [.dct []]) = .ok () hf := ef
      refine ⟨σ, h, β, rs, rh, ?_⟩
      rw [e1]
      intro H1 β1 J a o' xs' st rh1 hβ ho hx lv D ob0 nD
      rw [← hca.1, ← hca.2]
      rw [qo] at ho; cases ho
      rw [qi] at hx; cases hx
      refine ⟨fun i m H' => ∃ h' β', Stp β1 H1 β' H' ∧ RelH X.K nm ca β' h' H' ∧ β'[n]? = some a ∧ β'[h1.length]? = some D ∧ m = xs.length - i ∧ i ≤ xs.length ∧ loopDCg (grd o n) (evG T cl g) (evOT T cl c) (evE T cl ck) (evE T cl ce) (wipeM vs σ) h1.length (xs.drop i) h' = .ok () hf, ⟨xs.length, h1 ++ [.dct []], β1 ++ [D], Stp.push nD, rh1.push (o := O.dct []) nD ⟨ob0, [], upd_same, .nil⟩, (Stp.push (o := dN ca.P ca.w D ob0 []) nD).get hβ, ?_, by simp, Nat.zero_le _, ef⟩, ?_⟩
      · rw [← rh1.len, List.getElem?_append_right (Nat.le_refl _)]
        simp
      · rintro i m H' ⟨h', β', st', rh', g', hD, rfl, hle, el⟩
        by_cases hlt : i < xs.length
        · have hgd : h'[n]? = some o := by
            refine grd_at ?_
            rw [List.drop_eq_getElem_cons hlt] at el
            simp only [loopDCg] at el
            split at el
            · assumption
            · cases el
          refine .inr ⟨lv.goes i β' h' H' hlt rh' hgd g', fun H2 => ∃ m', m' < xs.length - i ∧ ∃ h2 β2, Stp β1 H1 β2 H2 ∧ RelH X.K nm ca β2 h2 H2 ∧ β2[n]? = some a ∧ β2[h1.length]? = some D ∧ m' = xs.length - (i + 1) ∧ i + 1 ≤ xs.length ∧ loopDCg (grd o n) (evG T cl g) (evOT T cl c) (evE T cl ck) (evE T cl ce) (wipeM vs σ) h1.length (xs.drop (i + 1)) h2 = .ok () hf, fun H2 q => q, fun v H2 y => ?_⟩
          obtain ⟨s2, rh2, d, ed, rd⟩ := lv.yields i β' h' H' v H2 hlt rh' hgd g' y
          have edr : xs.drop i = d :: xs.drop (i + 1) := by
            rw [List.drop_eq_getElem_cons hlt]
            rw [List.getElem?_eq_getElem hlt] at ed
            cases ed
            rfl
          rw [edr] at el
          simp only [loopDCg, at_grd hgd, if_true] at el
          have rs2 : RelS X.K nm ca β' H2 (wipeM vs σ) (L2.wipe τ vs) := ((((rs.mono st).mono st').mono s2).wipe vs)
          refine ⟨d, wipeM vs σ, h', β', rs2, rh2, rd, ?_⟩
          cases q1 : evG T cl g d (wipeM vs σ) h' with
          | ex _ _ => rw [q1] at el; cases el
          | no => rw [q1] at el; cases el
          | ok σ3 h3 =>
            simp only [q1, Res.bind] at el
            intro τ3 H3 β3 st3 rs3 rh3 c3
            refine ⟨chg_wipe hgs c3, ?_⟩
            refine ⟨σ3, h3, β3, rs3, rh3, ?_⟩
            cases q2 : evOT T cl c σ3 h3 with
            | ex _ _ => rw [q2] at el; cases el
            | no => rw [q2] at el; cases el
            | ok k h4 =>
              simp only [q2] at el
              intro H4 β4 st4 rh4
              have s14 : Stp β1 H1 β4 H4 := ((st'.trans s2).trans st3).trans st4
              have g4 : β4[n]? = some a := st4.get (st3.get g')
              have hD4 : β4[h1.length]? = some D := st4.get (st3.get hD)
              cases k with
              | false =>
                rw [if_neg (by decide)]
                simp only [Bool.false_eq_true, if_false] at el
                exact ⟨xs.length - (i + 1), by omega, h4, β4, s14, rh4, g4, hD4, rfl, hlt, el⟩
              | true =>
                rw [if_pos rfl]
                simp only [if_true] at el
                refine ⟨σ3, h4, β4, rs3.mono st4, rh4, ?_⟩
                cases q3 : evE T cl ck σ3 h4 with
                | ex _ _ => rw [q3] at el; cases el
                | no => rw [q3] at el; cases el
                | ok yv h4' =>
                  simp only [q3] at el
                  intro w H4' β4' st4' rh4' rd4
                  refine ⟨σ3, h4', β4', (rs3.mono st4).mono st4', rh4', ?_⟩
                  cases q5 : evE T cl ce σ3 h4' with
                  | ex _ _ => rw [q5] at el; cases el
                  | no => rw [q5] at el; cases el
                  | ok zv h5 =>
                    simp only [q5] at el
                    intro w2 H5 β5 st5 rh5 rd5
                    cases q4 : storeM h1.length yv zv h5 with
                    | ex _ _ => rw [q4] at el; cases el
                    | no => rw [q4] at el; cases el
                    | ok u h6 =>
                      simp only [q4] at el
                      obtain ⟨acc, kk, a1, a2, a3, a4⟩ := storeM_ok q4
                      have hD5 := st5.get (st4'.get hD4)
                      obtain ⟨obx, us, j1, j2⟩ := rh5.obj _ _ D a1 hD5
                      have ry := rd4.mono st5
                      obtain ⟨b', rfl⟩ := tkey_ref ry a2
                      refine ⟨β5, D, b', obx, yv, zv, kk, acc, us, rfl, rfl, by rw [← hca.1, ← hca.2]; exact j1, j2, a3, ry, a2, rd5, fun ob' us' r' => ?_⟩
                      rw [← hca.1, ← hca.2]
                      have sw : Stp β5 H5 β5 (upd H5 D (dN ca.P ca.w D ob' us')) := Stp.write (List.mem_of_getElem? hD5) j1 (fun _ z => nomatch z) (fun _ _ z => nomatch z)
                      refine ⟨xs.length - (i + 1), by omega, h6, β5, ((s14.trans st4').trans st5).trans sw, ?_, st5.get (st4'.get g4), hD5, rfl, hlt, el⟩
                      rw [a4]
                      exact rh5.write hD5 sw ⟨ob', us', upd_same, r'.mono sw⟩
        · have e : i = xs.length := by omega
          subst e
          rw [List.drop_length] at el
          have hgd : h'[n]? = some o := by
            refine grd_at ?_
            simp only [loopDCg] at el
            split at el
            · assumption
            · cases el
          simp only [loopDCg, at_grd hgd, if_true] at el
          cases el
          refine .inl ⟨lv.stops β' _ H' rh' hgd g', ?_⟩
          exact back_ok rh1 st' rh' (.ref hD) (p.step st)
    | its xs =>
      obtain ⟨u0, hf, ef, p⟩ := p.bind
      have ef : loopDC (evG T cl g) (evOT T cl c) (evE T cl ck) (evE T cl ce) (wipeM vs σ) h1.length (xs.drop 0) (h1 ++ [.dct []]) = .ok () hf := ef
      refine ⟨σ, h, β, rs, rh, ?_⟩
      rw [e1]
      intro H1 β1 J G st rh1 itm g1 D ob0 nD
      rw [← hca.1, ← hca.2]
      refine ⟨fun i m H' => ∃ h' β', Stp β1 H1 β' H' ∧ RelH X.K nm ca β' h' H' ∧ G β' H' ∧ β'[h1.length]? = some D ∧ m = xs.length - i ∧ i ≤ xs.length ∧ loopDC (evG T cl g) (evOT T cl c) (evE T cl ck) (evE T cl ce) (wipeM vs σ) h1.length (xs.drop i) h' = .ok () hf, ⟨xs.length, h1 ++ [.dct []], β1 ++ [D], Stp.push nD, rh1.push (o := O.dct []) nD ⟨ob0, [], upd_same, .nil⟩, itm.mono (Stp.push nD) g1, ?_, by simp, Nat.zero_le _, ef⟩, ?_⟩
      · rw [← rh1.len, List.getElem?_append_right (Nat.le_refl _)]
        simp
      · rintro i m H' ⟨h', β', st', rh', g', hD, rfl, hle, el⟩
        by_cases hlt : i < xs.length
        · refine .inr ⟨itm.goes i β' H' hlt g', fun H2 => ∃ m', m' < xs.length - i ∧ ∃ h2 β2, Stp β1 H1 β2 H2 ∧ RelH X.K nm ca β2 h2 H2 ∧ G β2 H2 ∧ β2[h1.length]? = some D ∧ m' = xs.length - (i + 1) ∧ i + 1 ≤ xs.length ∧ loopDC (evG T cl g) (evOT T cl c) (evE T cl ck) (evE T cl ce) (wipeM vs σ) h1.length (xs.drop (i + 1)) h2 = .ok () hf, fun H2 q => q, fun v H2 y => ?_⟩
          obtain ⟨s2, rel2, d, ed, rd⟩ := itm.yields i β' H' v H2 hlt g' y
          have rh2 := rel2 h' rh'
          have edr : xs.drop i = d :: xs.drop (i + 1) := by
            rw [List.drop_eq_getElem_cons hlt]
            rw [List.getElem?_eq_getElem hlt] at ed
            cases ed
            rfl
          rw [edr] at el
          simp only [loopDC] at el
          have rs2 : RelS X.K nm ca β' H2 (wipeM vs σ) (L2.wipe τ vs) := ((((rs.mono st).mono st').mono s2).wipe vs)
          refine ⟨d, wipeM vs σ, h', β', rs2, rh2, rd, ?_⟩
          cases q1 : evG T cl g d (wipeM vs σ) h' with
          | ex _ _ => rw [q1] at el; cases el
          | no => rw [q1] at el; cases el
          | ok σ3 h3 =>
            simp only [q1, Res.bind] at el
            intro τ3 H3 β3 st3 rs3 rh3 c3
            refine ⟨chg_wipe hgs c3, ?_⟩
            refine ⟨σ3, h3, β3, rs3, rh3, ?_⟩
            cases q2 : evOT T cl c σ3 h3 with
            | ex _ _ => rw [q2] at el; cases el
            | no => rw [q2] at el; cases el
            | ok k h4 =>
              simp only [q2] at el
              intro H4 β4 st4 rh4
              have s14 : Stp β1 H1 β4 H4 := ((st'.trans s2).trans st3).trans st4
              have g4 : G β4 H4 := itm.mono st4 (itm.mono st3 (itm.mono s2 g'))
              have hD4 : β4[h1.length]? = some D := st4.get (st3.get hD)
              cases k with
              | false =>
                rw [if_neg (by decide)]
                simp only [Bool.false_eq_true, if_false] at el
                exact ⟨xs.length - (i + 1), by omega, h4, β4, s14, rh4, g4, hD4, rfl, hlt, el⟩
              | true =>
                rw [if_pos rfl]
                simp only [if_true] at el
                refine ⟨σ3, h4, β4, rs3.mono st4, rh4, ?_⟩
                cases q3 : evE T cl ck σ3 h4 with
                | ex _ _ => rw [q3] at el; cases el
                | no => rw [q3] at el; cases el
                | ok yv h4' =>
                  simp only [q3] at el
                  intro w H4' β4' st4' rh4' rd4
                  refine ⟨σ3, h4', β4', (rs3.mono st4).mono st4', rh4', ?_⟩
                  cases q5 : evE T cl ce σ3 h4' with
                  | ex _ _ => rw [q5] at el; cases el
                  | no => rw [q5] at el; cases el
                  | ok zv h5 =>
                    simp only [q5] at el
                    intro w2 H5 β5 st5 rh5 rd5
                    cases q4 : storeM h1.length yv zv h5 with
                    | ex _ _ => rw [q4] at el; cases el
                    | no => rw [q4] at el; cases el
                    | ok u h6 =>
                      simp only [q4] at el
                      obtain ⟨acc, kk, a1, a2, a3, a4⟩ := storeM_ok q4
                      have hD5 := st5.get (st4'.get hD4)
                      obtain ⟨obx, us, j1, j2⟩ := rh5.obj _ _ D a1 hD5
                      have ry := rd4.mono st5
                      obtain ⟨b', rfl⟩ := tkey_ref ry a2
                      refine ⟨β5, D, b', obx, yv, zv, kk, acc, us, rfl, rfl, by rw [← hca.1, ← hca.2]; exact j1, j2, a3, ry, a2, rd5, fun ob' us' r' => ?_⟩
                      rw [← hca.1, ← hca.2]
                      have sw : Stp β5 H5 β5 (upd H5 D (dN ca.P ca.w D ob' us')) := Stp.write (List.mem_of_getElem? hD5) j1 (fun _ z => nomatch z) (fun _ _ z => nomatch z)
                      refine ⟨xs.length - (i + 1), by omega, h6, β5, ((s14.trans st4').trans st5).trans sw, ?_, itm.mono sw (itm.mono st5 (itm.mono st4' g4)), hD5, rfl, hlt, el⟩
                      rw [a4]
                      exact rh5.write hD5 sw ⟨ob', us', upd_same, r'.mono sw⟩
        · have e : i = xs.length := by omega
          subst e
          rw [List.drop_length] at el
          simp only [loopDC] at el
          cases el
          refine .inl ⟨itm.stops β' H' g', ?_⟩
          exact back_ok rh1 st' rh' (.ref hD) (p.step st)
  exact ⟨PE.imp (pe_dcN (nm := nm) (ca := ca) hu hc hN hi ok hg ht hk he hs) key, fun hy yl sw => ⟨fun pins s σ H D I q => (ps_dcN (nm := nm) (ca := ca) hu hc hN hy yl sw hi ok hg ht hk he hs).run pins s σ H D I (key _ _ _ q)⟩⟩
end
end MC

set_option Elab.async false
set_option linter.all false
set_option maxRecDepth 100000
set_option maxHeartbeats 4000000
namespace MC
open PySem PySem.Spec PyProof.Rows L2
/-! ### the text against the core: what is looked up -/
structure Cs where
  nm : Nat → Str
  fnn : Nat → Option Str
  cls : Nat → Option Str
  mkk : Nat → Nat → Option (Nat × List Str)
  glo : Nat → D → Bool
  blt : Str → Bool
  isM : Nat → Bool
  isP : Nat → Bool
def isG (sc : Scope) (x : Str) : Bool := decide (sc.names.lookup x = some .globalImplicit) && !(x == ("__debug__" : Str))
def isB (cs : Cs) (sc : Scope) (x : Str) : Bool := isG sc x && cs.blt x
def visB (sc : Scope) (x : Str) : Bool := (match sc.names.lookup x with
  | some .local => true
  | some .cell => true
  | some .free => true
  | _ => false) && !(x == ("__debug__" : Str)) && !(x == ("__classdict__" : Str))
def tgtB (sc : Scope) (top : Bool) (x : Str) : Bool := match sc.names.lookup x with
  | some .local => true
  | some .cell => top
  | _ => false
def plainT : Expr → Bool
  | .UnaryOp .Not .. => false
  | .BoolOp .. => false
  | .IfExp .. => false
  | .Compare .. => false
  | _ => true
def noSt (es : List Expr) : Bool := es.all fun e => !isSt e
def tyStr : Ty → Option Str
  | .int => some "int" | .bool => some "bool" | .str => some "str" | .tuple => some "tuple" | .list => some "list" | .own _ => none
def chkTy (cs : Cs) (sc : Scope) (e : Expr) (t : Ty) : Bool := match e with
  | .Name x _ => (match t with
    | .own c => decide (cs.cls c = some x) && isG sc x
    | t => decide (tyStr t = some x) && isB cs sc x)
  | _ => false
def chkTys (cs : Cs) (sc : Scope) : List Expr → List Ty → Bool
  | [], [] => true
  | e :: es, t :: ts => chkTy cs sc e t && chkTys cs sc es ts
  | _, _ => false
def chkTyz (cs : Cs) (sc : Scope) (e : Expr) (ts : List Ty) : Bool := match e with
  | .Tuple es _ _ => decide (es.length ≤ 100) && chkTys cs sc es ts
  | e => (match ts with
    | [t] => chkTy cs sc e t
    | _ => false)
def ownN (N : List Str) (vs : List Nat) : List (Str × Nat) := vs.map fun i => ((N[i]?).getD Str.empty, i)
def notIs : CmpOp → Bool
  | .Is => false
  | .IsNot => false
  | _ => true
def isApp : Bm → Bool
  | .append => true
  | _ => false
section
variable (cs : Cs) (N : List Str)
mutual
def chkE : E → Bool → Scope → Bool → Expr → Bool
  | .cst d, _, _, _, e => match e with
    | .Constant c _ _ => cstB d c
    | _ => false
  | .var i, _, sc, _, e => match e with
    | .Name x _ => decide (N[i]? = some x) && visB sc x
    | _ => false
  | .glo g d, _, sc, _, e => match e with
    | .Name x _ => decide (x = cs.nm g) && isG sc x && cs.glo g d
    | _ => false
  | .bin op a b, _, sc, top, e => match e with
    | .BinOp x o y _ => decide (o = op) && chkE a false sc top x && chkE b false sc top y
    | _ => false
  | .neg a, _, sc, top, e => match e with
    | .UnaryOp .USub x _ => chkE a false sc top x
    | _ => false
  | .not a, t, sc, top, e => match e with
    | .UnaryOp .Not x _ => chkE a t sc top x
    | _ => false
  | .and a b, t, sc, top, e => match e with
    | .BoolOp .And (x :: y :: []) _ => chkE a t sc top x && chkE b t sc top y
    | .BoolOp .And (x :: y :: z :: r) p => chkE a t sc top x && chkE b t sc top (.BoolOp .And (y :: z :: r) p)
    | _ => false
  | .or a b, t, sc, top, e => match e with
    | .BoolOp .Or (x :: y :: []) _ => chkE a t sc top x && chkE b t sc top y
    | .BoolOp .Or (x :: y :: z :: r) p => chkE a t sc top x && chkE b t sc top (.BoolOp .Or (y :: z :: r) p)
    | _ => false
  | .cmp op a b, _, sc, top, e => match e with
    | .Compare x [o] [y] _ => decide (o = op) && !isSetE y && cmpOk op b && chkE a false sc top x && chkE b false sc top y
    | _ => false
  | .chn o1 o2 a b c, _, sc, top, e => match e with
    | .Compare x [p1, p2] [y, z] _ => decide (p1 = o1) && decide (p2 = o2) && notIs o1 && notIs o2 && !isSetE z && chkE a false sc top x && chkE b false sc top y && chkE c false sc top z
    | _ => false
  | .ite c a b, t, sc, top, e => match e with
    | .IfExp x y z _ => chkE c true sc top x && chkE a t sc top y && chkE b t sc top z
    | _ => false
  | .tup as, _, sc, top, e => match e with
    | .Tuple es _ _ => chkA as sc top es
    | _ => false
  | .lst _ as, _, sc, top, e => match e with
    | .List es _ => chkA as sc top es
    | _ => false
  | .idx a i, _, sc, top, e => match e with
    | .Subscript x y _ => !isSl y && chkE a false sc top x && chkE i false sc top y
    | _ => false
  | .slc a lo hi, _, sc, top, e => match e with
    | .Subscript x (.Slice l h none _) _ => chkE a false sc top x && chkO lo sc top l && chkO hi sc top h
    | _ => false
  | .fld a f, _, sc, top, e => match e with
    | .Attribute x y _ => decide (y = cs.nm f) && plainO x && chkE a false sc top x
    | _ => false
  | .fn f as, _, sc, top, e => match e with
    | .Call (.Name x _) es [] _ => decide (cs.fnn f = some x) && isG sc x && noSt es && chkA as sc top es
    | _ => false
  | .mk c sh as ks, _, sc, top, e => match e with
    | .Call (.Name x _) (e :: es) kws _ => (match cs.mkk c sh with
      | some (_, kn) => decide (cs.cls c = some x) && isG sc x && noSt (e :: es) && decide (kwNames kws = some kn) && chkA as sc top (e :: es) && chkK ks sc top kws
      | none => false)
    | _ => false
  | .mth m a as, _, sc, top, e => match e with
    | .Call (.Attribute x y ap) es [] pos => decide (y = cs.nm m) && cs.isM m && plainO x && noSt es && decide (es.length < 30) && (ap.endLine == pos.line) && chkE a false sc top x && chkA as sc top es
    | _ => false
  | .prp m a, _, sc, top, e => match e with
    | .Attribute x y _ => decide (y = cs.nm m) && cs.isP m && plainO x && chkE a false sc top x
    | _ => false
  | .bi b as, _, sc, top, e => match e with
    | .Call (.Name x _) (e :: es) [] _ => decide (x = biName b) && biHere b && isB cs sc x && noSt (e :: es) && chkA as sc top (e :: es)
    | _ => false
  | .isi a ts, _, sc, top, e => match e with
    | .Call (.Name x _) [y, z] [] _ => decide (x = "isinstance") && isB cs sc x && !isSt y && chkTyz cs sc z ts && chkE a false sc top y
    | _ => false
  | .bm m a as, _, sc, top, e => match e with
    | .Call (.Attribute o y ap) [z] [] pos => isApp m && decide (y = "append") && plainO o && !isSt z && (ap.endLine == pos.line) && chkE a false sc top o && chkA as sc top [z]
    | _ => false
  | .lc _ own elt g it c, _, sc, top, e => match e with
    | .ListComp el [⟨tg, iter, ifs, k⟩] scope _ => (k == 0) && blkC N sc scope (ownN N own) && g.slots.all (fun i => own.contains i) && !isSetE iter && chkI it sc top tg iter && chkG g (relS scope sc) false tg && chkF c (relS scope sc) false ifs && chkE elt false (relS scope sc) false el
    | _ => false
  | .dpl as k, _, sc, top, e => match e with
    | .Subscript (.Call (.Name x _) [.List es _] [] _) y _ => decide (x = "dict") && isB cs sc x && !isSl y && chkA as sc top es && chkE k false sc top y
    | _ => false
  | .nls a, _, sc, top, e => match e with
    | .Call (.Name x _) [y] [] _ => decide (x = "list") && isB cs sc x && !isSt y && chkE a false sc top y
    | _ => false
  | .ieq a b, _, sc, top, e => match e with
    | .Compare x [o] [y] _ => decide (o = .Eq) && !isSetE y && chkE a false sc top x && chkE b false sc top y
    | _ => false
  | .iln a, _, sc, top, e => match e with
    | .Call (.Name x _) [y] [] _ => decide (x = "len") && isB cs sc x && !isSt y && chkE a false sc top y
    | _ => false
  | .isb ng a b, _, sc, top, e => match e with
    | .Compare x [o] [y] _ => decide (o = isOp ng) && !isSetE y && chkE a false sc top x && chkE b false sc top y
    | _ => false
  | .rev a, _, sc, top, e => match e with
    | .Subscript x (.Slice none none (some (.UnaryOp .USub (.Constant (.int 1) _ _) _)) _) _ => chkE a false sc top x
    | _ => false
  | .pop0 a, _, sc, top, e => match e with
    | .Call (.Attribute o y ap) [.Constant (.int 0) _ _] [] pos => decide (y = "pop") && plainO o && (ap.endLine == pos.line) && chkE a false sc top o
    | _ => false
  | .din ng a b, _, sc, top, e => match e with
    | .Compare x [o] [y] _ => decide (o = inOp ng) && !isSetE y && chkE a false sc top x && chkE b false sc top y
    | _ => false
  | .dget a i, _, sc, top, e => match e with
    | .Subscript x y _ => !isSl y && chkE a false sc top x && chkE i false sc top y
    | _ => false
  | .dnew, _, _, _, e => match e with
    | .Dict [] [] _ => true
    | _ => false
  | .done a b, _, sc, top, e => match e with
    | .Dict [some x] [y] _ => chkE a false sc top x && chkE b false sc top y
    | _ => false
  | .dlen a, _, sc, top, e => match e with
    | .Call (.Name x _) [y] [] _ => decide (x = "len") && isB cs sc x && !isSt y && chkE a false sc top y
    | _ => false
  | .dlst _ a, _, sc, top, e => match e with
    | .Call (.Name x _) [y] [] _ => decide (x = "list") && isB cs sc x && !isSt y && chkE a false sc top y
    | _ => false
  | .dof a, _, sc, top, e => match e with
    | .Call (.Name x _) [y] [] _ => decide (x = "dict") && isB cs sc x && !isSt y && chkE a false sc top y
    | _ => false
  | .dupd a b, _, sc, top, e => match e with
    | .Call (.Attribute o y ap) [z] [] pos => decide (y = "update") && plainO o && !isSt z && (ap.endLine == pos.line) && chkE a false sc top o && chkE b false sc top z
    | _ => false
  | .dcm _ own k v g it c, _, sc, top, e => match e with
    | .DictComp kx vx [⟨tg, iter, ifs, j⟩] scope _ => (j == 0) && blkC N sc scope (ownN N own) && g.slots.all (fun i => own.contains i) && !isSetE iter && chkI it sc top tg iter && chkG g (relS scope sc) false tg && chkF c (relS scope sc) false ifs && chkE k false (relS scope sc) false kx && chkE v false (relS scope sc) false vx
    | _ => false
def chkA : A → Scope → Bool → List Expr → Bool
  | .nil, _, _, es => es.isEmpty
  | .cons c r, sc, top, es => match es with
    | e :: es => !isSt e && chkE c false sc top e && chkA r sc top es
    | [] => false
  | .star c r, sc, top, es => match es with
    | .Starred e _ :: es => chkE c false sc top e && chkA r sc top es
    | _ => false
def chkK : A → Scope → Bool → List Keyword → Bool
  | .nil, _, _, es => es.isEmpty
  | .cons c r, sc, top, es => match es with
    | ⟨_, e, _⟩ :: es => chkE c false sc top e && chkK r sc top es
    | [] => false
  | .star _ _, _, _, _ => false
def chkO : OE → Scope → Bool → Option Expr → Bool
  | .none, _, _, e => e.isNone
  | .some c, sc, top, e => match e with
    | some e => chkE c false sc top e
    | none => false
def chkF : OE → Scope → Bool → List Expr → Bool
  | .none, _, _, e => e.isEmpty
  | .some c, sc, top, e => match e with
    | [e] => chkE c true sc top e
    | _ => false
def chkG : G → Scope → Bool → Expr → Bool
  | .nm i, sc, top, e => match e with
    | .Name x _ => decide (N[i]? = some x) && tgtB sc top x
    | _ => false
  | .tup gs, sc, top, e => match e with
    | .Tuple es _ _ => noSt es && decide (es.length = gs.len) && chkGL gs sc top es
    | _ => false
  | .att a f, sc, top, e => match e with
    | .Attribute x y _ => decide (y = cs.nm f) && chkE a false sc top x
    | _ => false
  | .sub a i, sc, top, e => match e with
    | .Subscript x y _ => !isSl y && chkE a false sc top x && chkE i false sc top y
    | _ => false
  | .dsub a i, sc, top, e => match e with
    | .Subscript x y _ => !isSl y && chkE a false sc top x && chkE i false sc top y
    | _ => false
def chkGL : GL → Scope → Bool → List Expr → Bool
  | .nil, _, _, es => es.isEmpty
  | .cons g r, sc, top, es => match es with
    | e :: es => !isSt e && chkG g sc top e && chkGL r sc top es
    | [] => false
def chkI : I → Scope → Bool → Expr → Expr → Bool
  | .val c, sc, top, _, e => chkE c false sc top e
  | .rng1 a, sc, top, _, e => match e with
    | .Call (.Name x _) [y] [] _ => decide (x = "range") && isB cs sc x && !isSt y && chkE a false sc top y
    | _ => false
  | .rng2 a b, sc, top, _, e => match e with
    | .Call (.Name x _) [y, z] [] _ => decide (x = "range") && isB cs sc x && !isSt y && !isSt z && chkE a false sc top y && chkE b false sc top z
    | _ => false
  | .rng3 a b c, sc, top, _, e => match e with
    | .Call (.Name x _) [y, z, w] [] _ => decide (x = "range") && isB cs sc x && !isSt y && !isSt z && !isSt w && chkE a false sc top y && chkE b false sc top z && chkE c false sc top w
    | _ => false
  | .zip a b, sc, top, tg, e => match tg, e with
    | .Tuple _ _ _, .Call (.Name x _) [y, z] [] _ => decide (x = "zip") && isB cs sc x && !isSt y && !isSt z && chkE a false sc top y && chkE b false sc top z
    | _, _ => false
  | .enum a, sc, top, tg, e => match tg, e with
    | .Tuple _ _ _, .Call (.Name x _) [y] [] _ => decide (x = "enumerate") && isB cs sc x && !isSt y && chkE a false sc top y
    | _, _ => false
  | .dkeys c, sc, top, _, e => chkE c false sc top e
end
end
end MC

set_option Elab.async false
set_option linter.all false
set_option maxRecDepth 100000
set_option maxHeartbeats 4000000
namespace MC
open PySem PySem.Spec PyProof.Rows L2
/-- what stands for the text's names -/
structure Fk (X : Cx) (cs : Cs) (ca : CaT) (T : Tab) (cl : Nat → List D → Hs → Res D) (n : Nat) : Prop where
  inj : ∀ i j, cs.nm i = cs.nm j → i = j
  fld : ∀ c f, T.fok c f = true → Cls X.K (ca c) ∧ NoAttr X.K (ca c) (cs.nm f)
  mth : ∀ m c f, cs.isM m = true → T.meth c m = some f → MthF X cs.nm ca n (cl f) c m
  prp : ∀ m c f, cs.isP m = true → T.meth c m = some f → PrpF X cs.nm ca n (cl f) c m
  len : ∀ c f, T.meth c T.len = some f → LenF X cs.nm ca n (cl f) c
  eq : ∀ c f, T.meth c T.eq = some f → EqF X cs.nm ca n (cl f) c
  kit : KitF X ca T.cok
  fn : ∀ f x, cs.fnn f = some x → ∃ ad, X.mg x = some (.ref ad) ∧ PySem.W.keepIn X.K (.ref ad) = true ∧ FnF X cs.nm ca n (cl f) ad
  mkr : ∀ c sh np ks x, cs.mkk c sh = some (np, ks) → cs.cls c = some x → ∃ f fz, T.init c = some (f, fz) ∧ MkF X cs.nm ca n (cl f) c x np ks (T.shape sh)
  cls : ∀ c x, cs.cls c = some x → X.mg x = some (.ref (ca c))
  glo : ∀ g d, cs.glo g d = true → ∃ u v, X.mg (cs.nm g) = some u ∧ RelV v u ∧ ∀ β H, RelD X.K cs.nm ca β H d v
  blt : ∀ x, cs.blt x = true → X.mg x = none
  cok : CaOk X ca
structure Fx (X : Cx) (N : List Str) (sc : Scope) (top : Bool) (n : Nat) : Prop where
  N : X.N = N
  nd : X.N.Nodup
  sc : X.env.scope = sc
  fn : top = true → ∀ x, X.fn x = true
  calm : X.calm = true
  room : Room (n + 1) X.A
section
variable {X : Cx} {cs : Cs} {ca : CaT} {T : Tab} {cl : Nat → List D → Hs → Res D} {n : Nat} {N : List Str} {sc : Scope} {top : Bool}
theorem Fx.hu (F : Fx X N sc top n) : X.A.units + 64 < cLine := by have := F.room.un; omega
theorem Fx.gl (F : Fx X N sc top n) {x : Str} (h : isG sc x = true) : Gl X x ∧ (x == ("__debug__" : Str)) = false := by
  unfold isG at h
  simp only [Bool.and_eq_true, decide_eq_true_eq, Bool.not_eq_true'] at h
  exact ⟨by show X.env.scope.names.lookup x = _; rw [F.sc]; exact h.1, h.2⟩
theorem Fx.vis (F : Fx X N sc top n) {x : Str} (h : visB sc x = true) : Vis X.env.scope x ∧ (x == ("__debug__" : Str)) = false ∧ (x == ("__classdict__" : Str)) = false := by
  unfold visB at h
  simp only [Bool.and_eq_true, Bool.not_eq_true'] at h
  refine ⟨?_, h.1.2, h.2⟩
  rw [F.sc]
  have := h.1.1
  unfold Vis
  split at this <;> simp_all
theorem Fx.tgt (F : Fx X N sc top n) {x : Str} (h : tgtB sc top x = true) : L2.Loc X.env.scope x ∧ (X.fn x = true ∨ X.env.scope.names.lookup x = some .local) := by
  unfold tgtB at h
  rw [F.sc]
  unfold L2.Loc
  split at h
  · rename_i e; exact ⟨.inl e, .inr e⟩
  · rename_i e; exact ⟨.inr e, .inl (F.fn h x)⟩
  · cases h
theorem Fx.blk (F : Fx X N sc top n) {s : Shared} {H : Hp} {scope : Scope} {C : Addr} {cl' : List (Str × Addr)} {fp : List Addr} : Fx (X.blk s H scope (compEnvC scope cl' C X.env) fp) N (relS scope sc) false n :=
  ⟨F.N, F.nd, by rw [← F.sc]; rfl, (fun z => by cases z), F.calm, F.room⟩
theorem Fk.blk (F : Fk X cs ca T cl n) {s : Shared} {H : Hp} {scope : Scope} {env : Env} {fp : List Addr} : Fk (X.blk s H scope env fp) cs ca T cl n :=
  ⟨F.inj, F.fld, F.mth, F.prp, F.len, F.eq, ⟨F.kit.kit, F.kit.cls⟩, F.fn, F.mkr, F.cls, F.glo, F.blt, F.cok⟩
theorem isB_of {x : Str} (h : isB cs sc x = true) : isG sc x = true ∧ cs.blt x = true := by
  unfold isB at h
  rwa [Bool.and_eq_true] at h
theorem ty_ok (K : Fk X cs ca T cl n) (F : Fx X N sc top n) {e : Expr} {t : Ty} (h : chkTy cs sc e t = true) : TyE X ca e t ∧ isSt e = false := by
  unfold chkTy at h
  split at h
  · rename_i x p
    refine ⟨?_, rfl⟩
    cases t with
    | own c =>
      simp only [Bool.and_eq_true, decide_eq_true_eq] at h
      have g := F.gl h.2
      exact ⟨_, pe_glob g.1 (K.cls c x h.1) (show RelV (.ref (ca c)) (.ref (ca c)) from rfl) g.2, .own _⟩
    | int =>
      simp only [tyStr, Bool.and_eq_true, decide_eq_true_eq, Option.some.injEq] at h
      obtain ⟨rfl, h⟩ := h
      have g := F.gl (isB_of h).1
      exact ⟨.ty "int", pe_bltn g.1 (K.blt _ (isB_of h).2) (by decide +kernel) (show RelV (.ty "int") (.type "int") from rfl) (by decide) g.2, .ty _⟩
    | bool =>
      simp only [tyStr, Bool.and_eq_true, decide_eq_true_eq, Option.some.injEq] at h
      obtain ⟨rfl, h⟩ := h
      have g := F.gl (isB_of h).1
      exact ⟨.ty "bool", pe_bltn g.1 (K.blt _ (isB_of h).2) (by decide +kernel) (show RelV (.ty "bool") (.type "bool") from rfl) (by decide) g.2, .ty _⟩
    | str =>
      simp only [tyStr, Bool.and_eq_true, decide_eq_true_eq, Option.some.injEq] at h
      obtain ⟨rfl, h⟩ := h
      have g := F.gl (isB_of h).1
      exact ⟨.ty "str", pe_bltn g.1 (K.blt _ (isB_of h).2) (by decide +kernel) (show RelV (.ty "str") (.type "str") from rfl) (by decide) g.2, .ty _⟩
    | tuple =>
      simp only [tyStr, Bool.and_eq_true, decide_eq_true_eq, Option.some.injEq] at h
      obtain ⟨rfl, h⟩ := h
      have g := F.gl (isB_of h).1
      exact ⟨.ty "tuple", pe_bltn g.1 (K.blt _ (isB_of h).2) (by decide +kernel) (show RelV (.ty "tuple") (.type "tuple") from rfl) (by decide) g.2, .ty _⟩
    | list =>
      simp only [tyStr, Bool.and_eq_true, decide_eq_true_eq, Option.some.injEq] at h
      obtain ⟨rfl, h⟩ := h
      have g := F.gl (isB_of h).1
      exact ⟨.ty "list", pe_bltn g.1 (K.blt _ (isB_of h).2) (by decide +kernel) (show RelV (.ty "list") (.type "list") from rfl) (by decide) g.2, .ty _⟩
  · cases h
theorem tys_ok (K : Fk X cs ca T cl n) (F : Fx X N sc top n) : ∀ {es : List Expr} {ts : List Ty}, chkTys cs sc es ts = true → TyEs X ca es ts
  | [], [], _ => .nil
  | [], _ :: _, h => by cases h
  | _ :: _, [], h => by cases h
  | e :: es, t :: ts, h => by
    simp only [chkTys, Bool.and_eq_true] at h
    have g := ty_ok K F h.1
    exact .cons g.1 g.2 (tys_ok K F h.2)
theorem tyz_ok (K : Fk X cs ca T cl n) (F : Fx X N sc top n) {a z : Expr} {c : E} {ts : List Ty} {p pos : Pos} (ha : SE X cs.nm ca T cl a c) (hs : isSt a = false) (hg : isB cs sc "isinstance" = true) (h : chkTyz cs sc z ts = true) : SE X cs.nm ca T cl (.Call (.Name "isinstance" p) [a, z] [] pos) (.isi c ts) := by
  have g := F.gl (isB_of hg).1
  have b := K.blt _ (isB_of hg).2
  unfold chkTyz at h
  split at h
  · rename_i es k pt
    simp only [Bool.and_eq_true, decide_eq_true_eq] at h
    exact s_isiT K.kit g.1 b ha (tys_ok K F h.2) hs h.1
  · split at h
    · have q := ty_ok K F h
      exact s_isi1 K.kit g.1 b ha q.1 hs q.2
    · cases h
/-! ### the walk of the text -/
def Sx (t : Bool) (X : Cx) (nm : Nat → Str) (ca : CaT) (T : Tab) (cl : Nat → List D → Hs → Res D) (e : Expr) (c : E) : Prop := match t with
  | false => SE X nm ca T cl e c
  | true => ST X nm ca T cl e c ∧ ∀ op vs p, e = .BoolOp op vs p → SW X nm ca T cl e c
theorem plain_ok {e : Expr} {env : Env} (h : plainT e = true) (whole : Sem Value) : isTrue e env whole = (do let v ← whole; standAt e.pos; holding [v] (truthy v)) := by
  cases e with
  | UnaryOp op x p => cases op <;> first | (cases h; done) | rfl
  | BoolOp _ _ _ => cases h
  | IfExp _ _ _ _ => cases h
  | Compare _ _ _ _ => cases h
  | _ => rfl
theorem leaf {t : Bool} {nm : Nat → Str} {e : Expr} {c : E} (h : SE X nm ca T cl e c) (p : plainT e = true) : Sx t X nm ca T cl e c := by
  cases t with
  | false => exact h
  | true => exact ⟨t_val h (plain_ok p), fun op vs q z => by rw [z] at p; cases p⟩
theorem both {t : Bool} {nm : Nat → Str} {e : Expr} {c : E} (h : SE X nm ca T cl e c) (h2 : ST X nm ca T cl e c) (p : ∀ op vs p, e ≠ .BoolOp op vs p) : Sx t X nm ca T cl e c := by
  cases t with
  | false => exact h
  | true => exact ⟨h2, fun op vs q z => (p _ _ _ z).elim⟩
theorem notIs_of {o : CmpOp} (h : notIs o = true) : o ≠ .Is ∧ o ≠ .IsNot := ⟨(fun e => by rw [e] at h; cases h), (fun e => by rw [e] at h; cases h)⟩
theorem ownN_2 (vs : List Nat) : (ownN N vs).map (·.2) = vs := by
  unfold ownN
  induction vs with
  | nil => rfl
  | cons v vs ih => simp_all
theorem folded_ok {e : Expr} {env : Env} (h : isSetE e = false) (x : Value) : foldedSetIterable e env x = pure x := by
  cases e <;> first | rfl | cases h
theorem chkA_nil {c : A} (h : chkA cs N c sc top [] = true) : c = .nil := by
  cases c <;> first | rfl | (simp [chkA] at h)
mutual
theorem oE : ∀ (c : E) {X : Cx} {sc : Scope} {top t : Bool} {e : Expr}, Fk X cs ca T cl n → Fx X N sc top n → chkE cs N c t sc top e = true → Sx t X cs.nm ca T cl e c
  | .cst d, X, sc, top, t, e, K, F, h => by
    simp only [chkE] at h
    split at h
    · exact leaf (s_cst h) rfl
    · cases h
  | .var i, X, sc, top, t, e, K, F, h => by
    simp only [chkE] at h
    split at h
    · simp only [Bool.and_eq_true, decide_eq_true_eq] at h
      have g := F.vis h.2
      exact leaf (s_var (by rw [F.N]; exact h.1) g.1 g.2.1 g.2.2) rfl
    · cases h
  | .glo i d, X, sc, top, t, e, K, F, h => by
    simp only [chkE] at h
    split at h
    · simp only [Bool.and_eq_true, decide_eq_true_eq] at h
      obtain ⟨⟨rfl, h1⟩, h2⟩ := h
      have g := F.gl h1
      obtain ⟨u, v, e1, e2, e3⟩ := K.glo i d h2
      exact leaf (s_glo g.1 e1 e2 e3 g.2) rfl
    · cases h
  | .bin op a b, X, sc, top, t, e, K, F, h => by
    simp only [chkE] at h
    split at h
    · simp only [Bool.and_eq_true, decide_eq_true_eq] at h
      obtain ⟨⟨rfl, h1⟩, h2⟩ := h
      exact leaf (s_bin (oE a K F h1) (oE b K F h2)) rfl
    · cases h
  | .neg a, X, sc, top, t, e, K, F, h => by
    simp only [chkE] at h
    split at h
    · exact leaf (s_neg (oE a K F h)) rfl
    · cases h
  | .not a, X, sc, top, t, e, K, F, h => by
    simp only [chkE] at h
    split at h
    · have g := oE a K F h
      cases t with
      | false => exact s_not g
      | true => exact ⟨t_not g.1, fun _ _ _ z => by cases z⟩
    · cases h
  | .and a b, X, sc, top, t, e, K, F, h => by
    simp only [chkE] at h
    split at h
    · rename_i p0
      rw [Bool.and_eq_true] at h
      have g1 := oE a K F h.1
      have g2 := oE b K F h.2
      cases t with
      | false => exact s_and g1 (s_one g2)
      | true =>
        have w := t_and (pos := p0) g1.1 (pw_and1 g2.1)
        exact ⟨w.pt, fun _ _ _ _ => w⟩
    · rw [Bool.and_eq_true] at h
      have g1 := oE a K F h.1
      have g2 := oE b K F h.2
      cases t with
      | false => exact s_and g1 g2
      | true =>
        have w := t_and g1.1 (g2.2 _ _ _ rfl)
        exact ⟨w.pt, fun _ _ _ _ => w⟩
    · cases h
  | .or a b, X, sc, top, t, e, K, F, h => by
    simp only [chkE] at h
    split at h
    · rename_i p0
      rw [Bool.and_eq_true] at h
      have g1 := oE a K F h.1
      have g2 := oE b K F h.2
      cases t with
      | false => exact s_or g1 (s_one g2)
      | true =>
        have w := t_or (pos := p0) g1.1 (pw_or1 g2.1)
        exact ⟨w.pt, fun _ _ _ _ => w⟩
    · rw [Bool.and_eq_true] at h
      have g1 := oE a K F h.1
      have g2 := oE b K F h.2
      cases t with
      | false => exact s_or g1 g2
      | true =>
        have w := t_or g1.1 (g2.2 _ _ _ rfl)
        exact ⟨w.pt, fun _ _ _ _ => w⟩
    · cases h
  | .cmp op a b, X, sc, top, t, e, K, F, h => by
    simp only [chkE] at h
    split at h
    · simp only [Bool.and_eq_true, decide_eq_true_eq, Bool.not_eq_true'] at h
      obtain ⟨⟨⟨⟨rfl, h1⟩, h2⟩, h3⟩, h4⟩ := h
      have g1 := oE a K F h3
      have g2 := oE b K F h4
      exact both (s_cmp F.hu g1 g2 h1 h2) (t_cmp F.hu g1 g2 h1 h2) fun _ _ _ z => by cases z
    · cases h
  | .chn o1 o2 a b c, X, sc, top, t, e, K, F, h => by
    simp only [chkE] at h
    split at h
    · simp only [Bool.and_eq_true, decide_eq_true_eq, Bool.not_eq_true'] at h
      obtain ⟨⟨⟨⟨⟨⟨⟨rfl, rfl⟩, h1⟩, h2⟩, h3⟩, h4⟩, h5⟩, h6⟩ := h
      have g1 := oE a K F h4
      have g2 := oE b K F h5
      have g3 := oE c K F h6
      exact both (s_chn' F.hu g1 g2 g3 h3 (notIs_of h1) (notIs_of h2)) (t_chn F.hu g1 g2 g3 h3 (notIs_of h1) (notIs_of h2)) fun _ _ _ z => by cases z
    · cases h
  | .ite c a b, X, sc, top, t, e, K, F, h => by
    simp only [chkE] at h
    split at h
    · simp only [Bool.and_eq_true] at h
      obtain ⟨⟨h1, h2⟩, h3⟩ := h
      have g1 := oE c K F h1
      have g2 := oE a K F h2
      have g3 := oE b K F h3
      cases t with
      | false => exact s_ite g1.1 g2 g3
      | true => exact ⟨t_ite g1.1 g2.1 g3.1, fun _ _ _ z => by cases z⟩
    · cases h
  | .tup as, X, sc, top, t, e, K, F, h => by
    simp only [chkE] at h
    split at h
    · exact leaf (s_tup (oA as K F h)) rfl
    · cases h
  | .lst fz as, X, sc, top, t, e, K, F, h => by
    simp only [chkE] at h
    split at h
    · exact leaf (s_lst (oA as K F h)) rfl
    · cases h
  | .idx a i, X, sc, top, t, e, K, F, h => by
    simp only [chkE] at h
    split at h
    · simp only [Bool.and_eq_true, Bool.not_eq_true'] at h
      exact leaf (s_idx (oE a K F h.1.2) (oE i K F h.2) h.1.1) rfl
    · cases h
  | .slc a lo hi, X, sc, top, t, e, K, F, h => by
    simp only [chkE] at h
    split at h
    · simp only [Bool.and_eq_true] at h
      exact leaf (s_slc (oE a K F h.1.1) (oO lo K F h.1.2) (oO hi K F h.2)) rfl
    · cases h
  | .fld a f, X, sc, top, t, e, K, F, h => by
    simp only [chkE] at h
    split at h
    · simp only [Bool.and_eq_true, decide_eq_true_eq] at h
      obtain ⟨⟨rfl, h1⟩, h2⟩ := h
      exact leaf (s_fld K.inj (fun c => K.fld c f) (oE a K F h2) h1) rfl
    · cases h
  | .fn f as, X, sc, top, t, e, K, F, h => by
    simp only [chkE] at h
    split at h
    · simp only [Bool.and_eq_true, decide_eq_true_eq] at h
      obtain ⟨⟨⟨h1, h2⟩, h3⟩, h4⟩ := h
      obtain ⟨ad, k1, k2, k3⟩ := K.fn f _ h1
      have g := F.gl h2
      exact leaf (s_fn k3 (F.room.mono (Nat.le_succ n)) g.1 k1 k2 g.2 (oA as K F h4) h3 (fun z => by subst z; exact chkA_nil h4)) rfl
    · cases h
  | .mk c sh as ks, X, sc, top, t, e, K, F, h => by
    simp only [chkE] at h
    split at h
    · split at h
      · rename_i np kn q
        simp only [Bool.and_eq_true, decide_eq_true_eq] at h
        obtain ⟨⟨⟨⟨⟨h1, h2⟩, h3⟩, h4⟩, h5⟩, h6⟩ := h
        obtain ⟨f, fz, k1, k2⟩ := K.mkr c sh np kn _ q h1
        have g := F.gl h2
        exact leaf (s_mk k1 k2 F.room g.1 g.2 (oA as K F h5) h3 (oK ks K F h6) h4) rfl
      · cases h
    · cases h
  | .mth m a as, X, sc, top, t, e, K, F, h => by
    simp only [chkE] at h
    split at h
    · simp only [Bool.and_eq_true, decide_eq_true_eq] at h
      obtain ⟨⟨⟨⟨⟨⟨⟨rfl, h1⟩, h2⟩, h3⟩, h4⟩, h5⟩, h6⟩, h7⟩ := h
      exact leaf (s_mth K.inj (fun c f => K.mth m c f h1) (F.room.mono (Nat.le_succ n)) (oE a K F h6) h2 (oA as K F h7) h3 h4 h5 (fun z => by subst z; exact chkA_nil h7)) rfl
    · cases h
  | .prp m a, X, sc, top, t, e, K, F, h => by
    simp only [chkE] at h
    split at h
    · simp only [Bool.and_eq_true, decide_eq_true_eq] at h
      obtain ⟨⟨⟨rfl, h1⟩, h2⟩, h3⟩ := h
      exact leaf (s_prp (fun c f => K.prp m c f h1) F.room (oE a K F h3) h2) rfl
    · cases h
  | .bi b as, X, sc, top, t, e, K, F, h => by
    simp only [chkE] at h
    split at h
    · simp only [Bool.and_eq_true, decide_eq_true_eq] at h
      obtain ⟨⟨⟨⟨rfl, h1⟩, h2⟩, h3⟩, h4⟩ := h
      exact leaf (bi_all F.calm h1 (F.gl (isB_of h2).1).1 (K.blt _ (isB_of h2).2) (oA as K F h4) h3) rfl
    · cases h
  | .isi a ts, X, sc, top, t, e, K, F, h => by
    simp only [chkE] at h
    split at h
    · simp only [Bool.and_eq_true, decide_eq_true_eq, Bool.not_eq_true'] at h
      obtain ⟨⟨⟨⟨rfl, h1⟩, h2⟩, h3⟩, h4⟩ := h
      exact leaf (tyz_ok K F (oE a K F h4) h2 h1 h3) rfl
    · cases h
  | .bm m a .nil, X, sc, top, t, e, K, F, h => by
    simp only [chkE] at h
    split at h
    · simp only [Bool.and_eq_true, chkA, List.isEmpty_cons, Bool.false_eq_true, and_false] at h
    · cases h
  | .bm m a (.star _ _), X, sc, top, t, e, K, F, h => by
    simp only [chkE] at h
    split at h
    · simp only [Bool.and_eq_true, Bool.not_eq_true'] at h
      obtain ⟨⟨⟨h1, h2⟩, h3⟩, h4⟩ := h
      simp only [chkA] at h4
      split at h4
      · rename_i q; cases q; cases h1.2
      · cases h4
    · cases h
  | .bm m a (.cons k r), X, sc, top, t, e, K, F, h => by
    simp only [chkE] at h
    split at h
    · simp only [Bool.and_eq_true, decide_eq_true_eq, Bool.not_eq_true', chkA] at h
      obtain ⟨⟨⟨⟨⟨⟨h0, rfl⟩, h1⟩, h2⟩, h3⟩, h4⟩, ⟨h5, h6⟩, h7⟩ := h
      have := chkA_nil h7
      subst this
      cases m with
      | append => exact leaf (s_app (oE a K F h4) (oE k K F h6) h1 h2 h3) rfl
      | _ => cases h0
    · cases h
  | .lc fz own elt g it c, X, sc, top, t, e, K, F, h => by
    simp only [chkE] at h
    split at h
    · simp only [Bool.and_eq_true, Bool.not_eq_true', beq_iff_eq, List.all_eq_true] at h
      obtain ⟨⟨⟨⟨⟨⟨⟨rfl, h1⟩, h2⟩, h3⟩, h4⟩, h5⟩, h6⟩, h7⟩ := h
      have b := blkOk_by h1
      rw [← F.N, ← F.sc] at b
      exact leaf (s_lc (fz := fz) F.calm F.nd (oI it K F h4) b (fun s H C cl' fp => oG g K.blk F.blk h5) (fun s H C cl' fp => oF c K.blk F.blk h6) (fun s H C cl' fp => oE elt K.blk F.blk h7) (folded_ok h3) (by rw [F.N]; exact ownN_2 own) (fun i hi => by simpa using h2 i hi)).1 rfl
    · cases h
  | .dpl as k, X, sc, top, t, e, K, F, h => by
    simp only [chkE] at h
    split at h
    · simp only [Bool.and_eq_true, decide_eq_true_eq, Bool.not_eq_true'] at h
      obtain ⟨⟨⟨⟨rfl, h1⟩, h2⟩, h3⟩, h4⟩ := h
      exact leaf (s_dpl F.calm F.hu (F.gl (isB_of h1).1).1 (K.blt _ (isB_of h1).2) (oA as K F h3) (oE k K F h4) h2) rfl
    · cases h
  | .nls a, X, sc, top, t, e, K, F, h => by
    simp only [chkE] at h
    split at h
    · simp only [Bool.and_eq_true, decide_eq_true_eq, Bool.not_eq_true'] at h
      obtain ⟨⟨⟨rfl, h1⟩, h2⟩, h3⟩ := h
      exact leaf (s_nls (F.gl (isB_of h1).1).1 (K.blt _ (isB_of h1).2) (oE a K F h3) h2) rfl
    · cases h
  | .ieq a b, X, sc, top, t, e, K, F, h => by
    simp only [chkE] at h
    split at h
    · simp only [Bool.and_eq_true, decide_eq_true_eq, Bool.not_eq_true'] at h
      obtain ⟨⟨⟨rfl, h1⟩, h3⟩, h4⟩ := h
      have g1 := oE a K F h3
      have g2 := oE b K F h4
      exact both (s_ieq K.eq (F.room.mono (Nat.le_succ n)) g1 g2 h1) (t_ieq K.eq (F.room.mono (Nat.le_succ n)) g1 g2 h1) fun _ _ _ z => by cases z
    · cases h
  | .iln a, X, sc, top, t, e, K, F, h => by
    simp only [chkE] at h
    split at h
    · simp only [Bool.and_eq_true, decide_eq_true_eq, Bool.not_eq_true'] at h
      obtain ⟨⟨⟨rfl, h1⟩, h2⟩, h3⟩ := h
      exact leaf (s_iln K.len F.room (F.gl (isB_of h1).1).1 (K.blt _ (isB_of h1).2) (oE a K F h3) h2) rfl
    · cases h
  | .isb ng a b, X, sc, top, t, e, K, F, h => by
    simp only [chkE] at h
    split at h
    · simp only [Bool.and_eq_true, decide_eq_true_eq, Bool.not_eq_true'] at h
      obtain ⟨⟨⟨rfl, h1⟩, h3⟩, h4⟩ := h
      have g1 := oE a K F h3
      have g2 := oE b K F h4
      exact both (s_isb g1 g2 h1) (t_isb g1 g2 h1) fun _ _ _ z => by cases z
    · cases h
  | .rev a, X, sc, top, t, e, K, F, h => by
    simp only [chkE] at h
    split at h
    · exact leaf (s_rev (oE a K F h)) rfl
    · cases h
  | .pop0 a, X, sc, top, t, e, K, F, h => by
    simp only [chkE] at h
    split at h
    · simp only [Bool.and_eq_true, decide_eq_true_eq] at h
      obtain ⟨⟨⟨rfl, h1⟩, h2⟩, h3⟩ := h
      exact leaf (s_pop0 (oE a K F h3) h1 h2) rfl
    · cases h
  | .din ng a b, X, sc, top, t, e, K, F, h => by
    simp only [chkE] at h
    split at h
    · simp only [Bool.and_eq_true, decide_eq_true_eq, Bool.not_eq_true'] at h
      obtain ⟨⟨⟨rfl, h1⟩, h3⟩, h4⟩ := h
      have g1 := oE a K F h3
      have g2 := oE b K F h4
      exact both (s_din K.cok F.hu g1 g2 h1) (t_din K.cok F.hu g1 g2 h1) fun _ _ _ z => by cases z
    · cases h
  | .dget a i, X, sc, top, t, e, K, F, h => by
    simp only [chkE] at h
    split at h
    · simp only [Bool.and_eq_true, Bool.not_eq_true'] at h
      exact leaf (s_dget K.cok F.hu (oE a K F h.1.2) (oE i K F h.2) h.1.1) rfl
    · cases h
  | .dnew, X, sc, top, t, e, K, F, h => by
    simp only [chkE] at h
    split at h
    · exact leaf (s_dnew K.cok) rfl
    · cases h
  | .done a b, X, sc, top, t, e, K, F, h => by
    simp only [chkE] at h
    split at h
    · simp only [Bool.and_eq_true] at h
      exact leaf (s_done K.cok F.hu (oE a K F h.1) (oE b K F h.2)) rfl
    · cases h
  | .dlen a, X, sc, top, t, e, K, F, h => by
    simp only [chkE] at h
    split at h
    · simp only [Bool.and_eq_true, decide_eq_true_eq, Bool.not_eq_true'] at h
      obtain ⟨⟨⟨rfl, h1⟩, h2⟩, h3⟩ := h
      exact leaf (s_dlen K.cok (F.gl (isB_of h1).1).1 (K.blt _ (isB_of h1).2) (oE a K F h3) h2) rfl
    · cases h
  | .dlst fz a, X, sc, top, t, e, K, F, h => by
    simp only [chkE] at h
    split at h
    · simp only [Bool.and_eq_true, decide_eq_true_eq, Bool.not_eq_true'] at h
      obtain ⟨⟨⟨rfl, h1⟩, h2⟩, h3⟩ := h
      exact leaf (s_dlst K.cok F.calm (F.gl (isB_of h1).1).1 (K.blt _ (isB_of h1).2) (oE a K F h3) h2) rfl
    · cases h
  | .dof a, X, sc, top, t, e, K, F, h => by
    simp only [chkE] at h
    split at h
    · simp only [Bool.and_eq_true, decide_eq_true_eq, Bool.not_eq_true'] at h
      obtain ⟨⟨⟨rfl, h1⟩, h2⟩, h3⟩ := h
      exact leaf (s_dof K.cok F.calm F.hu (F.gl (isB_of h1).1).1 (K.blt _ (isB_of h1).2) (oE a K F h3) h2) rfl
    · cases h
  | .dupd a b, X, sc, top, t, e, K, F, h => by
    simp only [chkE] at h
    split at h
    · simp only [Bool.and_eq_true, decide_eq_true_eq, Bool.not_eq_true'] at h
      obtain ⟨⟨⟨⟨⟨rfl, h1⟩, h2⟩, h3⟩, h4⟩, h5⟩ := h
      exact leaf (s_dupd K.cok F.hu (oE a K F h4) (oE b K F h5) h1 h2 h3) rfl
    · cases h
  | .dcm fz own kk v g it c, X, sc, top, t, e, K, F, h => by
    simp only [chkE] at h
    split at h
    · simp only [Bool.and_eq_true, Bool.not_eq_true', beq_iff_eq, List.all_eq_true] at h
      obtain ⟨⟨⟨⟨⟨⟨⟨⟨rfl, h1⟩, h2⟩, h3⟩, h4⟩, h5⟩, h6⟩, h7⟩, h8⟩ := h
      have b := blkOk_by h1
      rw [← F.N, ← F.sc] at b
      exact leaf (s_dcm (fz := fz) K.cok F.hu F.calm F.nd (oI it K F h4) b (fun s H C cl' fp => oG g K.blk F.blk h5) (fun s H C cl' fp => oF c K.blk F.blk h6) (fun s H C cl' fp => oE kk K.blk F.blk h7) (fun s H C cl' fp => oE v K.blk F.blk h8) (folded_ok h3) (by rw [F.N]; exact ownN_2 own) (fun i hi => by simpa using h2 i hi)).1 rfl
    · cases h
theorem oA : ∀ (c : A) {X : Cx} {sc : Scope} {top : Bool} {e : List Expr}, Fk X cs ca T cl n → Fx X N sc top n → chkA cs N c sc top e = true → SA X cs.nm ca T cl e c
  | .nil, X, sc, top, e, K, F, h => by
    simp only [chkA, List.isEmpty_iff] at h
    subst h
    exact a_nil
  | .cons c r, X, sc, top, e, K, F, h => by
    simp only [chkA] at h
    split at h
    · simp only [Bool.and_eq_true, Bool.not_eq_true'] at h
      exact a_cons (oE c K F h.1.2) (oA r K F h.2) h.1.1
    · cases h
  | .star c r, X, sc, top, e, K, F, h => by
    simp only [chkA] at h
    split at h
    · simp only [Bool.and_eq_true, Bool.not_eq_true'] at h
      exact a_star (oE c K F h.1) (oA r K F h.2)
    · cases h
theorem oK : ∀ (c : A) {X : Cx} {sc : Scope} {top : Bool} {e : List Keyword}, Fk X cs ca T cl n → Fx X N sc top n → chkK cs N c sc top e = true → SK X cs.nm ca T cl e c
  | .nil, X, sc, top, e, K, F, h => by
    simp only [chkK, List.isEmpty_iff] at h
    subst h
    exact k_nil
  | .cons c r, X, sc, top, e, K, F, h => by
    simp only [chkK] at h
    split at h
    · simp only [Bool.and_eq_true] at h
      exact k_cons (oE c K F h.1) (oK r K F h.2)
    · cases h
  | .star c r, X, sc, top, e, K, F, h => by
    simp only [chkK] at h
    cases h
theorem oO : ∀ (c : OE) {X : Cx} {sc : Scope} {top : Bool} {e : Option Expr}, Fk X cs ca T cl n → Fx X N sc top n → chkO cs N c sc top e = true → SO X cs.nm ca T cl e c
  | .none, X, sc, top, e, K, F, h => by
    cases e with
    | none => trivial
    | some _ => cases h
  | .some c, X, sc, top, e, K, F, h => by
    simp only [chkO] at h
    split at h
    · exact oE c K F h
    · cases h
theorem oF : ∀ (c : OE) {X : Cx} {sc : Scope} {top : Bool} {e : List Expr}, Fk X cs ca T cl n → Fx X N sc top n → chkF cs N c sc top e = true → PTsM X cs.nm ca T cl e c
  | .none, X, sc, top, e, K, F, h => by
    simp only [chkF, List.isEmpty_iff] at h
    subst h
    exact ts_nil
  | .some c, X, sc, top, e, K, F, h => by
    simp only [chkF] at h
    split at h
    · exact ts_one (oE c K F h).1
    · cases h
theorem oG : ∀ (c : G) {X : Cx} {sc : Scope} {top : Bool} {e : Expr}, Fk X cs ca T cl n → Fx X N sc top n → chkG cs N c sc top e = true → SG X cs.nm ca T cl e c
  | .nm i, X, sc, top, e, K, F, h => by
    simp only [chkG] at h
    split at h
    · simp only [Bool.and_eq_true, decide_eq_true_eq] at h
      have g := F.tgt h.2
      exact g_nm F.nd (by rw [F.N]; exact h.1) g.1 g.2
    · cases h
  | .tup gs, X, sc, top, e, K, F, h => by
    simp only [chkG] at h
    split at h
    · simp only [Bool.and_eq_true, decide_eq_true_eq] at h
      exact g_tup F.calm (oGL gs K F h.2) h.1.1 h.1.2
    · cases h
  | .att a f, X, sc, top, e, K, F, h => by
    simp only [chkG] at h
    split at h
    · simp only [Bool.and_eq_true, decide_eq_true_eq] at h
      obtain ⟨rfl, h2⟩ := h
      exact g_att K.inj (fun c => K.fld c f) (oE a K F h2)
    · cases h
  | .sub a i, X, sc, top, e, K, F, h => by
    simp only [chkG] at h
    split at h
    · simp only [Bool.and_eq_true, Bool.not_eq_true'] at h
      exact g_sub (oE a K F h.1.2) (oE i K F h.2) h.1.1
    · cases h
  | .dsub a i, X, sc, top, e, K, F, h => by
    simp only [chkG] at h
    split at h
    · simp only [Bool.and_eq_true, Bool.not_eq_true'] at h
      exact g_dsub K.cok F.hu (oE a K F h.1.2) (oE i K F h.2) h.1.1
    · cases h
theorem oGL : ∀ (c : GL) {X : Cx} {sc : Scope} {top : Bool} {e : List Expr}, Fk X cs ca T cl n → Fx X N sc top n → chkGL cs N c sc top e = true → SGL X cs.nm ca T cl e c
  | .nil, X, sc, top, e, K, F, h => by
    simp only [chkGL, List.isEmpty_iff] at h
    subst h
    exact gl_nil
  | .cons g r, X, sc, top, e, K, F, h => by
    simp only [chkGL] at h
    split at h
    · simp only [Bool.and_eq_true, Bool.not_eq_true'] at h
      exact gl_cons (oG g K F h.1.2) (oGL r K F h.2) h.1.1
    · cases h
theorem oI : ∀ (c : I) {X : Cx} {sc : Scope} {top : Bool} {tg e : Expr}, Fk X cs ca T cl n → Fx X N sc top n → chkI cs N c sc top tg e = true → SI X cs.nm ca T cl tg e c
  | .val c, X, sc, top, tg, e, K, F, h => by
    simp only [chkI] at h
    exact i_val (oE c K F h)
  | .dkeys c, X, sc, top, tg, e, K, F, h => by
    simp only [chkI] at h
    exact i_dkeys K.cok (oE c K F h)
  | .rng1 a, X, sc, top, tg, e, K, F, h => by
    simp only [chkI] at h
    split at h
    · simp only [Bool.and_eq_true, decide_eq_true_eq, Bool.not_eq_true'] at h
      obtain ⟨⟨⟨rfl, h1⟩, h2⟩, h3⟩ := h
      exact i_rng1 (F.gl (isB_of h1).1).1 (K.blt _ (isB_of h1).2) (oE a K F h3) h2
    · cases h
  | .rng2 a b, X, sc, top, tg, e, K, F, h => by
    simp only [chkI] at h
    split at h
    · simp only [Bool.and_eq_true, decide_eq_true_eq, Bool.not_eq_true'] at h
      obtain ⟨⟨⟨⟨⟨rfl, h1⟩, h2⟩, h3⟩, h4⟩, h5⟩ := h
      exact i_rng2 (F.gl (isB_of h1).1).1 (K.blt _ (isB_of h1).2) (oE a K F h4) (oE b K F h5) h2 h3
    · cases h
  | .rng3 a b c, X, sc, top, tg, e, K, F, h => by
    simp only [chkI] at h
    split at h
    · simp only [Bool.and_eq_true, decide_eq_true_eq, Bool.not_eq_true'] at h
      obtain ⟨⟨⟨⟨⟨⟨⟨rfl, h1⟩, h2⟩, h3⟩, h4⟩, h5⟩, h6⟩, h7⟩ := h
      exact i_rng3 (F.gl (isB_of h1).1).1 (K.blt _ (isB_of h1).2) (oE a K F h5) (oE b K F h6) (oE c K F h7) h2 h3 h4
    · cases h
  | .zip a b, X, sc, top, tg, e, K, F, h => by
    simp only [chkI] at h
    split at h
    · simp only [Bool.and_eq_true, decide_eq_true_eq, Bool.not_eq_true'] at h
      obtain ⟨⟨⟨⟨⟨rfl, h1⟩, h2⟩, h3⟩, h4⟩, h5⟩ := h
      exact i_zip (F.gl (isB_of h1).1).1 (K.blt _ (isB_of h1).2) (oE a K F h4) (oE b K F h5) h2 h3
    · cases h
  | .enum a, X, sc, top, tg, e, K, F, h => by
    simp only [chkI] at h
    split at h
    · simp only [Bool.and_eq_true, decide_eq_true_eq, Bool.not_eq_true'] at h
      obtain ⟨⟨⟨rfl, h1⟩, h2⟩, h3⟩ := h
      exact i_enum (F.gl (isB_of h1).1).1 (K.blt _ (isB_of h1).2) (oE a K F h3) h2
    · cases h
end
end
end MC

set_option Elab.async false
set_option linter.all false
set_option maxRecDepth 100000
set_option maxHeartbeats 4000000
namespace MC
open PySem PySem.Spec PyProof.Rows L2
/-! ### statements -/
def parNames (sc : Scope) (ts : List Expr) : List Str := ts.filterMap fun
    | .Name id pos => if sc.names.lookup id == some .local && pos.line == (ts.head?.map (·.pos.line)).getD 0 then some id else none
    | _ => none
/-- no stores the other way round -/
def parNone (sc : Scope) (t e : Expr) : Bool := match t, e with
  | .Tuple ts _ _, .Tuple vs _ _ => !(ts.length == 2 || ts.length == 3) || vs.length != ts.length || (parNames sc ts).length != ts.length
  | .List _ _, .Tuple _ _ _ => false
  | _, _ => true
theorem parNone_ok {sc : Scope} {t e : Expr} {env : Env} (hs : env.scope = sc) (h : parNone sc t e = true) : swappedStores [t] e env = pure none := by
  subst hs
  unfold parNone at h
  split at h
  · rename_i ts k p vs k2 p2
    unfold swappedStores
    simp only
    have hk : ∀ x, env.kindOf x = env.scope.names.lookup x := fun _ => rfl
    by_cases h1 : (!(ts.length == 2 || ts.length == 3) || vs.length != ts.length || env.blockKind != .function) = true
    · rw [if_pos h1]
    · rw [if_neg h1]
      have h1' : (!(ts.length == 2 || ts.length == 3) || vs.length != ts.length) = false := by
        simp only [Bool.or_eq_true, not_or, Bool.not_eq_true] at h1
        simp only [Bool.or_eq_false_iff]
        exact h1.1
      rw [h1', Bool.false_or] at h
      split
      · rfl
      · have h2 : ((parNames env.scope ts).length != ts.length || (parNames env.scope ts).eraseDups.length != (parNames env.scope ts).length) = true := by rw [h, Bool.true_or]
        exact if_pos h2
  · cases h
  · rename_i h1 h2
    refine stores_no ?_
    cases t <;> first
      | rfl
      | (cases e <;> first | rfl | exact (h1 _ _ _ _ _ _ rfl rfl).elim | exact (h2 _ _ _ _ _ rfl rfl).elim)
def parSome (sc : Scope) (x y : Str) (px py : Pos) (a b : Expr) : Bool :=
  (match sc.kind with | .function => true | _ => false) && decide (sc.names.lookup x = some .local) && decide (sc.names.lookup y = some .local) && (py.line == px.line) && decide (x ≠ y) && !isSt a && !isSt b && !(foldedForSure 8 a && foldedForSure 8 b) && !(constantsAlone 8 a && constantsAlone 8 b)
theorem parSome_ok {sc : Scope} {x y : Str} {px py pt pt2 : Pos} {kt k2 : Nat} {a b : Expr} {env : Env} (hs : env.scope = sc) (h : parSome sc x y px py a b = true) : swappedStores [.Tuple [.Name x px, .Name y py] kt pt] (.Tuple [a, b] k2 pt2) env = pure (some [x, y]) := by
  subst hs
  unfold parSome at h
  simp only [Bool.and_eq_true, decide_eq_true_eq, Bool.not_eq_true', beq_iff_eq] at h
  obtain ⟨⟨⟨⟨⟨⟨⟨⟨h0, h1⟩, h2⟩, h3⟩, h4⟩, h5⟩, h6⟩, h7⟩, h8⟩ := h
  have hk : env.scope.kind = .function := by
    split at h0
    · assumption
    · cases h0
  have hb : env.blockKind = .function := by
    unfold Env.blockKind
    rw [hk]
    rfl
  have k1 : env.kindOf x = some .local := h1
  have k2 : env.kindOf y = some .local := h2
  unfold swappedStores
  simp [hb, k1, k2, h3, h7, h8, Expr.pos, List.eraseDups, List.eraseDupsBy, List.eraseDupsBy.loop]
  have n1 : (y == x) = false := beq_eq_false_iff_ne.mpr (Ne.symm h4)
  rw [n1]
  rw [if_neg (by
    rintro (z | z)
    · cases a <;> first | (cases h5; done) | cases z
    · cases b <;> first | (cases h6; done) | cases z)]
  rfl
/-- a name's comprehension, stored within its frame -/
def swB (sc : Scope) (y : Str) (py : Pos) (e : Expr) : Bool := match e with
  | .ListComp _ _ scope pos => (match sc.kind with | .function => true | _ => false) && decide (sc.names.lookup y = some .local) && (py.line == pos.line) && !(scope.names.any fun (n, k) => n == y && (k == .local || k == .cell))
  | .DictComp _ _ _ scope pos => (match sc.kind with | .function => true | _ => false) && decide (sc.names.lookup y = some .local) && (py.line == pos.line) && !(scope.names.any fun (n, k) => n == y && (k == .local || k == .cell))
  | _ => false
theorem swD_true {kx vx : Expr} {gs : List Comprehension} {scope : Scope} {pos py : Pos} {y : Str} {l : Nat} {env : Env} (fk : env.scope.kind = .function) (fy : env.scope.names.lookup y = some .local) (fl : (py.line == pos.line) = true) (fa : (scope.names.any fun (n, k) => n == y && (k == .local || k == .cell)) = false) : swapsWith (.DictComp kx vx gs scope pos) (some (.Name y py)) l env = pure true := by
  have e1 : env.kindOf y = some .local := fy
  have e2 : env.blockKind = .function := by
    unfold Env.blockKind
    rw [fk]
    rfl
  unfold swapsWith
  simp only [e2, e1, fa, Expr.pos, fl]
  rfl
/-- three names at once -/
def parSome3 (sc : Scope) (x y z : Str) (px py pz : Pos) (a b c : Expr) : Bool :=
  (match sc.kind with | .function => true | _ => false) && decide (sc.names.lookup x = some .local) && decide (sc.names.lookup y = some .local) && decide (sc.names.lookup z = some .local) && (py.line == px.line) && (pz.line == px.line) && decide (x ≠ y) && decide (x ≠ z) && decide (y ≠ z) && !isSt a && !isSt b && !isSt c && !(foldedForSure 8 a && (foldedForSure 8 b && foldedForSure 8 c)) && !(constantsAlone 8 a && (constantsAlone 8 b && constantsAlone 8 c))
theorem parSome3_ok {sc : Scope} {x y z : Str} {px py pz pt pt2 : Pos} {kt k2 : Nat} {a b c : Expr} {env : Env} (hs : env.scope = sc) (h : parSome3 sc x y z px py pz a b c = true) : swappedStores [.Tuple [.Name x px, .Name y py, .Name z pz] kt pt] (.Tuple [a, b, c] k2 pt2) env = pure (some [x, y, z]) := by
  subst hs
  unfold parSome3 at h
  simp only [Bool.and_eq_true, decide_eq_true_eq, Bool.not_eq_true', beq_iff_eq] at h
  obtain ⟨⟨⟨⟨⟨⟨⟨⟨⟨⟨⟨⟨⟨h0, h1⟩, h2⟩, h2'⟩, h3⟩, h3'⟩, h4⟩, h4'⟩, h4''⟩, h5⟩, h6⟩, h6'⟩, h7⟩, h8⟩ := h
  have hk : env.scope.kind = .function := by
    split at h0
    · assumption
    · cases h0
  have hb : env.blockKind = .function := by
    unfold Env.blockKind
    rw [hk]
    rfl
  have k1 : env.kindOf x = some .local := h1
  have k2 : env.kindOf y = some .local := h2
  have k3 : env.kindOf z = some .local := h2'
  have n1 : (y == x) = false := beq_eq_false_iff_ne.mpr (Ne.symm h4)
  have n2 : (z == x) = false := beq_eq_false_iff_ne.mpr (Ne.symm h4')
  have n3 : (z == y) = false := beq_eq_false_iff_ne.mpr (Ne.symm h4'')
  unfold swappedStores
  simp [hb, k1, k2, k3, h3, h3', h7, h8, Expr.pos, List.eraseDups, List.eraseDupsBy, List.eraseDupsBy.loop, n1, n2, n3]
  rintro (z | z | z)
  · cases a <;> first | (cases h5; done) | cases z
  · cases b <;> first | (cases h6; done) | cases z
  · cases c <;> first | (cases h6'; done) | cases z
def isAttr : Expr → Bool
  | .Attribute .. => true
  | _ => false
def isLc : Expr → Bool
  | .ListComp .. => true
  | _ => false
/-- swapped stores: none -/
def asgB (sc : Scope) (t e : Expr) : Bool := !isSt t && ((!isComp e && parNone sc t e) || isAttr t)
section
variable (cs : Cs) (N : List Str) (sc : Scope)
def fnName (g : G) : Option Nat := match g with
  | .nm i => some i
  | _ => none
mutual
def chkS : S → Stmt → Bool
  | .exp c, s => match s with
    | .Expr e _ => !isComp e && chkE cs N c false sc true e
    | _ => false
  | .ret c, s => match s with
    | .Return (some e) _ => chkE cs N c false sc true e
    | _ => false
  | .retN, s => match s with
    | .Return none _ => true
    | _ => false
  | .asg g c, s => match s with
    | .Assign [t] e _ => (asgB sc t e && chkG cs N g sc true t && chkE cs N c false sc true e) || (match t, g with
      | .Name y py, .nm i => swB sc y py e && decide (N[i]? = some y) && chkE cs N c false sc true e
      | _, _ => false)
    | _ => false
  | .par i j a b, s => match s with
    | .Assign [.Tuple [.Name x px, .Name y py] _ _] (.Tuple [u, v] _ _) _ => decide (N[i]? = some x) && decide (N[j]? = some y) && decide (i ≠ j) && parSome sc x y px py u v && chkE cs N a false sc true u && chkE cs N b false sc true v
    | _ => false
  | .par3 i j l a b c, s => match s with
    | .Assign [.Tuple [.Name x px, .Name y py, .Name z pz] _ _] (.Tuple [u, v, w] _ _) _ => decide (N[i]? = some x) && decide (N[j]? = some y) && decide (N[l]? = some z) && decide (i ≠ j) && decide (i ≠ l) && decide (j ≠ l) && parSome3 sc x y z px py pz u v w && chkE cs N a false sc true u && chkE cs N b false sc true v && chkE cs N c false sc true w
    | _ => false
  | .aug i op c, s => match s with
    | .AugAssign (.Name x _) o e _ => decide (o = op) && decide (N[i]? = some x) && tgtB sc true x && chkE cs N c false sc true e
    | _ => false
  | .ifs c t f, s => match s with
    | .If e a b _ => chkE cs N c true sc true e && chkB t a && chkB f b
    | _ => false
  | .for_ g it b, s => match s with
    | .For tg iter bd [] _ => !isSetE iter && chkI cs N it sc true tg iter && chkG cs N g sc true tg && chkB b bd
    | _ => false
  | .whl c b, s => match s with
    | .While e bd [] _ => chkE cs N c true sc true e && chkB b bd
    | _ => false
  | .pass, s => match s with
    | .Pass _ => true
    | _ => false
  | .brk, s => match s with
    | .Break _ => true
    | _ => false
  | .cnt, s => match s with
    | .Continue _ => true
    | _ => false
  | .mat e k, s => match s with
    | .Match x ms _ => chkE cs N e false sc true x && chkC k ms
    | _ => false
  | .never, _ => true
def chkB : B → List Stmt → Bool
  | .nil, ss => ss.isEmpty
  | .cons c r, ss => match ss with
    | s :: ss => chkS c s && chkB r ss
    | [] => false
def chkC : C → List MatchCase → Bool
  | .nil, ms => ms.isEmpty
  | .cons k b r, ms => match ms with
    | ⟨.MatchValue (.Constant (.str x) _ _) _, none, bd⟩ :: ms => decide (x = k) && chkB b bd && chkC r ms
    | _ => false
end
end
section
variable {X : Cx} {cs : Cs} {ca : CaT} {T : Tab} {cl : Nat → List D → Hs → Res D} {n : Nat} {N : List Str} {sc : Scope}
theorem oLc {fz : Bool} {own : List Nat} {elt : E} {g : G} {it : I} {c : OE} {top t : Bool} {e : Expr} {i : Nat} {y : Str} {py spos : Pos} (K : Fk X cs ca T cl n) (F : Fx X N sc top n) (h : chkE cs N (.lc fz own elt g it c) t sc top e = true) (hi : X.N[i]? = some y) (hw : swB sc y py e = true) : SS X cs.nm ca T cl (.Assign [.Name y py] e spos) (.asg (.nm i) (.lc fz own elt g it c)) := by
  simp only [chkE] at h
  split at h
  · simp only [Bool.and_eq_true, Bool.not_eq_true', beq_iff_eq, List.all_eq_true] at h
    obtain ⟨⟨⟨⟨⟨⟨⟨rfl, h1⟩, h2⟩, h3⟩, h4⟩, h5⟩, h6⟩, h7⟩ := h
    have b := blkOk_by h1
    rw [← F.N, ← F.sc] at b
    simp only [swB, Bool.and_eq_true, decide_eq_true_eq, Bool.not_eq_true', beq_iff_eq] at hw
    obtain ⟨⟨⟨w1, w2⟩, w3⟩, w4⟩ := hw
    have hk : X.env.scope.kind = .function := by
      rw [F.sc]
      split at w1
      · assumption
      · cases w1
    have hl : X.env.scope.names.lookup y = some .local := by rw [F.sc]; exact w2
    exact st_asgLc ((s_lc (fz := fz) F.calm F.nd (oI it K F h4) b (fun s H C cl' fp => oG g K.blk F.blk h5) (fun s H C cl' fp => oF c K.blk F.blk h6) (fun s H C cl' fp => oE elt K.blk F.blk h7) (folded_ok h3) (by rw [F.N]; exact ownN_2 own) (fun i hi => by simpa using h2 i hi)).2 hi hl (sw_true hk hl (by rw [w3]; exact beq_self_eq_true _) w4))
  · cases h
theorem oDc {fz : Bool} {own : List Nat} {kk elt : E} {g : G} {it : I} {c : OE} {top t : Bool} {e : Expr} {i : Nat} {y : Str} {py spos : Pos} (K : Fk X cs ca T cl n) (F : Fx X N sc top n) (h : chkE cs N (.dcm fz own kk elt g it c) t sc top e = true) (hi : X.N[i]? = some y) (hw : swB sc y py e = true) : SS X cs.nm ca T cl (.Assign [.Name y py] e spos) (.asg (.nm i) (.dcm fz own kk elt g it c)) := by
  simp only [chkE] at h
  split at h
  · simp only [Bool.and_eq_true, Bool.not_eq_true', beq_iff_eq, List.all_eq_true] at h
    obtain ⟨⟨⟨⟨⟨⟨⟨⟨rfl, h1⟩, h2⟩, h3⟩, h4⟩, h5⟩, h6⟩, h7⟩, h8⟩ := h
    have b := blkOk_by h1
    rw [← F.N, ← F.sc] at b
    simp only [swB, Bool.and_eq_true, decide_eq_true_eq, Bool.not_eq_true', beq_iff_eq] at hw
    obtain ⟨⟨⟨w1, w2⟩, w3⟩, w4⟩ := hw
    have hk : X.env.scope.kind = .function := by
      rw [F.sc]
      split at w1
      · assumption
      · cases w1
    have hl : X.env.scope.names.lookup y = some .local := by rw [F.sc]; exact w2
    exact st_asgLc ((s_dcm (fz := fz) K.cok F.hu F.calm F.nd (oI it K F h4) b (fun s H C cl' fp => oG g K.blk F.blk h5) (fun s H C cl' fp => oF c K.blk F.blk h6) (fun s H C cl' fp => oE kk K.blk F.blk h7) (fun s H C cl' fp => oE elt K.blk F.blk h8) (folded_ok h3) (by rw [F.N]; exact ownN_2 own) (fun i hi => by simpa using h2 i hi)).2 hi hl (swD_true hk hl (by rw [w3]; exact beq_self_eq_true _) w4))
  · cases h
theorem isLc_of {c : E} {t top : Bool} {y : Str} {py : Pos} {e : Expr} (h : chkE cs N c t sc top e = true) (hw : swB sc y py e = true) : (∃ fz own elt g it k, c = .lc fz own elt g it k) ∨ ∃ fz own kk elt g it k, c = .dcm fz own kk elt g it k := by
  cases e with
  | ListComp _ _ _ _ =>
    cases c with
    | lc fz own elt g it k => exact .inl ⟨_, _, _, _, _, _, rfl⟩
    | _ => simp [chkE] at h
  | DictComp _ _ _ _ _ =>
    cases c with
    | dcm fz own kk elt g it k => exact .inr ⟨_, _, _, _, _, _, _, rfl⟩
    | _ => simp [chkE] at h
  | _ => cases hw
mutual
theorem oS : ∀ (c : S) {s : Stmt}, Fk X cs ca T cl n → Fx X N sc true n → PassesOwn (model X.prog X.w) X.A X.env X.xe → chkS cs N sc c s = true → SS X cs.nm ca T cl s c
  | .exp c, s, K, F, P, h => by
    simp only [chkS] at h
    split at h
    · simp only [Bool.and_eq_true, Bool.not_eq_true'] at h
      exact st_exp (oE c K F h.2) h.1
    · cases h
  | .ret c, s, K, F, P, h => by
    simp only [chkS] at h
    split at h
    · exact st_ret (oE c K F h)
    · cases h
  | .retN, s, K, F, P, h => by
    simp only [chkS] at h
    split at h
    · exact st_retN
    · cases h
  | .asg g c, s, K, F, P, h => by
    simp only [chkS] at h
    split at h
    · rename_i t e pos
      rw [Bool.or_eq_true] at h
      rcases h with h | h
      · simp only [Bool.and_eq_true] at h
        obtain ⟨⟨h1, h2⟩, h3⟩ := h
        unfold asgB at h1
        simp only [Bool.and_eq_true, Bool.not_eq_true', Bool.or_eq_true] at h1
        obtain ⟨h4, h5 | h5⟩ := h1
        · exact st_asg (oE c K F h3) (oG g K F h2) h5.1 (parNone_ok F.sc h5.2) h4
        · cases t with
          | Attribute o f pa => exact st_asgLcA (oE c K F h3) (oG g K F h2)
          | _ => cases h5
      · split at h
        · rename_i y py i
          simp only [Bool.and_eq_true, decide_eq_true_eq] at h
          rcases isLc_of h.2 h.1.1 with ⟨fz, own, elt, g, it, k, rfl⟩ | ⟨fz, own, kk, elt, g, it, k, rfl⟩
          · exact oLc K F h.2 (by rw [F.N]; exact h.1.2) h.1.1
          · exact oDc K F h.2 (by rw [F.N]; exact h.1.2) h.1.1
        · cases h
    · cases h
  | .par i j a b, s, K, F, P, h => by
    simp only [chkS] at h
    split at h
    · simp only [Bool.and_eq_true, decide_eq_true_eq] at h
      obtain ⟨⟨⟨⟨⟨h1, h2⟩, h3⟩, h4⟩, h5⟩, h6⟩ := h
      have h7 := h4
      unfold parSome at h7
      simp only [Bool.and_eq_true, decide_eq_true_eq, Bool.not_eq_true', beq_iff_eq] at h7
      obtain ⟨⟨⟨⟨⟨⟨⟨⟨_, k1⟩, k2⟩, _⟩, _⟩, k5⟩, k6⟩, _⟩, _⟩ := h7
      exact st_par F.calm F.nd (by rw [F.N]; exact h1) (by rw [F.N]; exact h2) h3 (by rw [F.sc]; exact k1) (by rw [F.sc]; exact k2) (oE a K F h5) (oE b K F h6) k5 k6 (parSome_ok F.sc h4)
    · cases h
  | .par3 i j l a b c, s, K, F, P, h => by
    simp only [chkS] at h
    split at h
    · simp only [Bool.and_eq_true, decide_eq_true_eq] at h
      obtain ⟨⟨⟨⟨⟨⟨⟨⟨⟨h1, h2⟩, h2'⟩, h3⟩, h3'⟩, h3''⟩, h4⟩, h5⟩, h6⟩, h6'⟩ := h
      have h7 := h4
      unfold parSome3 at h7
      simp only [Bool.and_eq_true, decide_eq_true_eq, Bool.not_eq_true', beq_iff_eq] at h7
      obtain ⟨⟨⟨⟨⟨⟨⟨⟨⟨⟨⟨⟨⟨_, k1⟩, k2⟩, k3⟩, _⟩, _⟩, _⟩, _⟩, _⟩, k5⟩, k6⟩, k7⟩, _⟩, _⟩ := h7
      exact st_par3 F.calm F.nd (by rw [F.N]; exact h1) (by rw [F.N]; exact h2) (by rw [F.N]; exact h2') h3 h3' h3'' (by rw [F.sc]; exact k1) (by rw [F.sc]; exact k2) (by rw [F.sc]; exact k3) (oE a K F h5) (oE b K F h6) (oE c K F h6') k5 k6 k7 (parSome3_ok F.sc h4)
    · cases h
  | .aug i op c, s, K, F, P, h => by
    simp only [chkS] at h
    split at h
    · simp only [Bool.and_eq_true, decide_eq_true_eq] at h
      obtain ⟨⟨⟨rfl, h1⟩, h2⟩, h3⟩ := h
      have g := F.tgt h2
      exact st_aug F.nd (by rw [F.N]; exact h1) g.1 g.2 (oE c K F h3)
    · cases h
  | .ifs c t f, s, K, F, P, h => by
    simp only [chkS] at h
    split at h
    · simp only [Bool.and_eq_true] at h
      exact st_if (oE c K F h.1.1).1 (oB t K F P h.1.2) (oB f K F P h.2)
    · cases h
  | .for_ g it b, s, K, F, P, h => by
    simp only [chkS] at h
    split at h
    · simp only [Bool.and_eq_true, Bool.not_eq_true'] at h
      exact st_for P F.calm (oI it K F h.1.1.2) (oG g K F h.1.2) (oB b K F P h.2) (folded_ok h.1.1.1)
    · cases h
  | .whl c b, s, K, F, P, h => by
    simp only [chkS] at h
    split at h
    · simp only [Bool.and_eq_true] at h
      exact st_while P (oE c K F h.1).1 (oB b K F P h.2)
    · cases h
  | .pass, s, K, F, P, h => by
    simp only [chkS] at h
    split at h
    · exact st_pass
    · cases h
  | .brk, s, K, F, P, h => by
    simp only [chkS] at h
    split at h
    · exact st_brk
    · cases h
  | .cnt, s, K, F, P, h => by
    simp only [chkS] at h
    split at h
    · exact st_cnt
    · cases h
  | .mat e k, s, K, F, P, h => by
    simp only [chkS] at h
    split at h
    · simp only [Bool.and_eq_true] at h
      exact st_mat (oE e K F h.1) (oC k K F P h.2)
    · cases h
  | .never, s, K, F, P, h => st_never
theorem oB : ∀ (c : B) {s : List Stmt}, Fk X cs ca T cl n → Fx X N sc true n → PassesOwn (model X.prog X.w) X.A X.env X.xe → chkB cs N sc c s = true → SB X cs.nm ca T cl s c
  | .nil, s, K, F, P, h => by
    simp only [chkB, List.isEmpty_iff] at h
    subst h
    exact b_nil
  | .cons c r, s, K, F, P, h => by
    simp only [chkB] at h
    split at h
    · simp only [Bool.and_eq_true] at h
      exact b_cons (oS c K F P h.1) (oB r K F P h.2)
    · cases h
theorem oC : ∀ (c : C) {s : List MatchCase}, Fk X cs ca T cl n → Fx X N sc true n → PassesOwn (model X.prog X.w) X.A X.env X.xe → chkC cs N sc c s = true → SC X cs.nm ca T cl s c
  | .nil, s, K, F, P, h => by
    simp only [chkC, List.isEmpty_iff] at h
    subst h
    exact .nil
  | .cons k b r, s, K, F, P, h => by
    simp only [chkC] at h
    split at h
    · simp only [Bool.and_eq_true, decide_eq_true_eq] at h
      obtain ⟨⟨rfl, h1⟩, h2⟩ := h
      exact .cons (oB b K F P h1) (oC r K F P h2)
    · cases h
end
end
end MC

set_option Elab.async false
set_option linter.all false
set_option maxRecDepth 100000
set_option maxHeartbeats 4000000
namespace MC
open PySem PySem.Spec PyProof.Rows L2
/-! ### every def of the text by M -/
/-- a def as it stands behind the top, and its core -/
structure FnI (K : PySem.W.Frag) (cs : Cs) (fn : Fn) (a : Addr) (fd : FuncData) (ps : List Str) : Prop where
  ex : ∃ x qual params body scope dvs kws N, FunD K x qual params body scope dvs kws a fd ∧ FnScope N ps scope ∧ chkB cs N scope fn.body body = true ∧ fn.ar = ps.length ∧ fn.ns = N.length
/-- what stands behind the top -/
structure Stat (P : Program) (w : World) (K : PySem.W.Frag) (mg : Str → Option Value) (base : Heap) (cs : Cs) (T : Tab) (F : Nat → Option Fn) (ca : CaT) (fa : Nat → Addr) (fd : Nat → FuncData) (ps : Nat → List Str) : Prop where
  inj : ∀ i j, cs.nm i = cs.nm j → i = j
  fns : ∀ f fn, F f = some fn → FnI K cs fn (fa f) (fd f) (ps f)
  fld : ∀ c f, T.fok c f = true → Cls K (ca c) ∧ NoAttr K (ca c) (cs.nm f)
  mth : ∀ m c f, cs.isM m = true → T.meth c m = some f → (∃ fn, F f = some fn) ∧ Cls K (ca c) ∧ Meth K (ca c) (cs.nm m) (fa f) ∧ Binds K (fd f) (ps f) []
  prp : ∀ m c f, cs.isP m = true → T.meth c m = some f → (∃ fn, F f = some fn) ∧ Cls K (ca c) ∧ (∃ p, PropOf K (ca c) (cs.nm m) p (fa f)) ∧ Binds K (fd f) (ps f) []
  len : ∀ c f, T.meth c T.len = some f → (∃ fn, F f = some fn) ∧ PySem.W.findIn K (.ref (ca c)) "__len__" = some (some (.ref (fa f))) ∧ PySem.W.isFn K (.ref (fa f)) = true ∧ Binds K (fd f) (ps f) []
  eq : ∀ c f, T.meth c T.eq = some f → (∃ fn, F f = some fn) ∧ PySem.W.notFirst K (ca c) (.ref (ca c)) = true ∧ PySem.W.findIn K (.ref (ca c)) "__eq__" = some (some (.ref (fa f))) ∧ PySem.W.isFn K (.ref (fa f)) = true ∧ Binds K (fd f) (ps f) []
  kit : ∀ X : Cx, X.K = K → KitF X ca T.cok
  fn : ∀ f x, cs.fnn f = some x → (∃ fn, F f = some fn) ∧ mg x = some (.ref (fa f)) ∧ PySem.W.keepIn K (.ref (fa f)) = true ∧ Binds K (fd f) (ps f) []
  mkr : ∀ c sh np ks x, cs.mkk c sh = some (np, ks) → cs.cls c = some x → ∃ f fz, T.init c = some (f, fz) ∧ (∃ fn, F f = some fn) ∧ Mk K (ca c) (fa f) ∧ ∃ g gV, KBn K (fd f) (ps f) (np + 1) ks g gV ∧
    ∀ (β : List Addr) (H : Hp) (d : D) (v : V) (xs ys ws : List D) (vs zs : List V), RelD K cs.nm ca β H d v → RelL K cs.nm ca β H xs vs → RelL K cs.nm ca β H ys zs → T.shape sh xs ys = some ws → xs.length = np ∧ ys.length = ks.length ∧ RelL K cs.nm ca β H (d :: ws) (gV (v :: vs) zs)
  cls : ∀ c x, cs.cls c = some x → mg x = some (.ref (ca c))
  glo : ∀ g d, cs.glo g d = true → ∃ u v, mg (cs.nm g) = some u ∧ RelV v u ∧ ∀ β H, RelD K cs.nm ca β H d v
  blt : ∀ x, cs.blt x = true → mg x = none
  cok : ca.P = P ∧ ca.w = w
section
variable {P : Program} {w : World} {K : PySem.W.Frag} {mg : Str → Option Value} {base : Heap} {cs : Cs} {T : Tab} {F : Nat → Option Fn} {ca : CaT} {fa : Nat → Addr} {fd : Nat → FuncData} {ps : Nat → List Str}
abbrev AllOk (P : Program) (w : World) (K : PySem.W.Frag) (mg : Str → Option Value) (base : Heap) (cs : Cs) (T : Tab) (F : Nat → Option Fn) (ca : CaT) (fa : Nat → Addr) (fd : Nat → FuncData) (ps : Nat → List Str) (n : Nat) : Prop := ∀ f fn, F f = some fn → FnOk P w K mg base CX0 (2 * n) (fa f) (fd f) (ps f) (spM K cs.nm ca (callM T F n f))
theorem Stat.fk (S : Stat P w K mg base cs T F ca fa fd ps) {n : Nat} (ih : AllOk P w K mg base cs T F ca fa fd ps n) (X : Cx) (h1 : X.prog = P) (h2 : X.w = w) (h3 : X.K = K) (h4 : X.mg = mg) (h5 : X.base = base) : Fk X cs ca T (callM T F n) (2 * n) := by
  subst h1 h2 h3 h4 h5
  refine ⟨S.inj, S.fld, fun m c f a b => ?_, fun m c f a b => ?_, fun c f a => ?_, fun c f a => ?_, S.kit X rfl, fun f x a => ?_, fun c sh np ks x a b => ?_, S.cls, S.glo, S.blt, S.cok⟩
  · obtain ⟨⟨fn, e⟩, k1, k2, k3⟩ := S.mth m c f a b
    exact ⟨k1, _, k2, _, _, k3, ih f fn e⟩
  · obtain ⟨⟨fn, e⟩, k1, ⟨p, k2⟩, k3⟩ := S.prp m c f a b
    exact ⟨k1, p, _, k2, _, _, k3, ih f fn e⟩
  · obtain ⟨⟨fn, e⟩, k1, k2, k3⟩ := S.len c f a
    exact ⟨_, k1, k2, _, _, k3, ih f fn e⟩
  · obtain ⟨⟨fn, e⟩, k0, k1, k2, k3⟩ := S.eq c f a
    exact ⟨k0, _, k1, k2, _, _, k3, ih f fn e⟩
  · obtain ⟨⟨fn, e⟩, k1, k2, k3⟩ := S.fn f x a
    exact ⟨_, k1, k2, _, _, k3, ih f fn e⟩
  · obtain ⟨f, fz, e0, ⟨fn, e⟩, k1, g, gV, k2, k3⟩ := S.mkr c sh np ks x a b
    exact ⟨f, fz, e0, _, _, _, g, gV, k1, S.cls c x b, k2, ih f fn e, k3⟩
theorem start_rel {N : List Str} {β : List Addr} {H : Hp} {nm : Nat → Str} {xs : List D} {vs : List V} (r : RelL K nm ca β H xs vs) : RelS K nm ca β H (startM N.length xs) (start N vs) := by
  unfold startM L2.start
  refine ⟨by simp [r.length], fun i d e => ?_⟩
  by_cases hi : i < xs.length
  · rw [List.getElem?_append_left (by simpa using hi)] at e
    rw [List.getElem?_map] at e
    cases q : xs[i]? with
    | none => rw [q] at e; cases e
    | some x =>
      rw [q] at e
      cases e
      obtain ⟨v, k1, k2⟩ := r.get q
      refine ⟨v, ?_, k2⟩
      rw [List.getElem?_append_left (by simp; rw [← r.length]; exact hi), List.getElem?_map, k1]
      rfl
  · rw [List.getElem?_append_right (by simp; omega)] at e
    rw [List.getElem?_replicate] at e
    split at e <;> cases e
theorem callM_inv {n f : Nat} {xs : List D} {h : Hs} {Q : VK} {fn : Fn} {nm : Nat → Str} {β : List Addr} {H : Hp} (e : F f = some fn) (p : PostE K nm ca β H (callM T F (n + 1) f xs h) Q) : xs.length = fn.ar ∧ ∃ r h1, evB T (callM T F n) fn.body (startM fn.ns xs) h = .ok r h1 ∧ PostE K nm ca β H (match r.1 with
        | .rt d => back fn.fz h d h1
        | .nx => back fn.fz h .non h1
        | _ => .no) Q := by
  unfold callM at p
  rw [e] at p
  simp only at p
  split at p
  · rename_i hl
    obtain ⟨r, h1, e1, p⟩ := p.bind
    exact ⟨hl, r, h1, e1, p⟩
  · exact p.elim
theorem Stat.all (S : Stat P w K mg base cs T F ca fa fd ps) : ∀ n, AllOk P w K mg base cs T F ca fa fd ps n
  | 0 => fun f fn e => ⟨fun vs H Q E ⟨xs, h, β, _, _, p⟩ => p.elim, fun A outer s H args us vs Q E _ _ _ _ ⟨xs, h, β, _, _, p⟩ => p.elim⟩
  | n + 1 => fun f fn e => by
    have ih := S.all n
    obtain ⟨x, qual, params, body, scope, dvs, kws, N, hF, hS, hchk, har, hns⟩ := (S.fns f fn e).ex
    have e2 : 2 * (n + 1) = (2 * n + 1) + 1 := by omega
    rw [e2]
    refine hF.ok hS (fun vs H Q E ⟨xs, h, β, rl, rh, p⟩ => ?_) fun cdv A outer s H vs Q E hr ⟨xs, h, β, rl, rh, p⟩ => ?_
    · rw [← rl.length, (callM_inv e p).1]
      exact har
    · obtain ⟨hl, r, h1, e1, p⟩ := callM_inv e p
      let X := (cxOf CX0 P w K mg base N qual scope (fa f) cdv A outer s H E).nox
      have K1 : Fk X cs ca T (callM T F n) (2 * n) := S.fk ih X rfl rfl rfl rfl rfl
      have F1 : Fx X N scope true (2 * n) := ⟨rfl, hS.nd, rfl, fun _ _ => rfl, rfl, hr⟩
      refine ⟨_, PSs.nox (oB (X := X) fn.body K1 F1 PassesOwn.never hchk), ?_⟩
      refine ⟨startM fn.ns xs, h, β, ?_, rh, ?_⟩
      · rw [hns]; exact start_rel rl
      · rw [e1]
        intro τ' H' β' st rs' rh'
        cases q : r.1 with
        | nx =>
          rw [q] at p
          exact back_ok rh st rh' .non p
        | rt d =>
          rw [q] at p
          exact fun v rd => back_ok rh st rh' rd p
        | bk => rw [q] at p; exact p.elim
        | ct => rw [q] at p; exact p.elim
end
end MC

set_option Elab.async false
set_option linter.all false
set_option maxRecDepth 100000
set_option maxHeartbeats 4000000
namespace MC
open PySem PySem.Spec PyProof.Rows L2 He
/-! ### the head's facts, from a table -/
inductive At where
  | glo (x : Str) | mth (c m : Str) | prp (c m : Str)
deriving DecidableEq
def prA (K : PySem.W.Frag) (p : Addr) : Addr := match PySem.W.recIn K p "property" with
  | some (.ref g :: _) => g
  | _ => 0
def At.adr (K : PySem.W.Frag) : At → Addr
  | .glo x => ga K x
  | .mth c m => ma K (ga K c) m
  | .prp c m => prA K (ma K (ga K c) m)
structure FR where
  at_ : At
  d : DefD
  N : List Str
  ps : List Str
  fn : Fn
def fdAt (K : PySem.W.Frag) (a : Addr) : FuncData := match K.lookup a with
  | some ⟨_, _, .func fd, _⟩ => fd
  | _ => PySem.W.fnOf Str.empty Str.empty ⟨[], [], none, [], [], none, []⟩ [] ⟨.function, [], false, false, []⟩ .none .none .none .none none .none .none
def fnWa (K : PySem.W.Frag) (a : Addr) : FnW := match K.lookup a with
  | some ⟨_, _, .func fd, _⟩ => some (fd.name, fd.qualname, fd.params, fd.body, fd.scope, fd.globals, fd.closure, fd.builtins)
  | _ => none
def okM (K : PySem.W.Frag) (a : Addr) (d : DefD) : Bool := PySem.W.keepIn K (.ref a) && (match K.lookup a with
  | some ⟨_, _, .func fd, _⟩ => PySem.W.codeIn K fd.code d.qual && (dflB K fd.defaults (d.dvs K) && kwdB K fd.kwdefaults (d.kws K))
  | _ => false)
theorem funM {K : PySem.W.Frag} {a : Addr} {d : DefD} (e : fnWa K a = d.val) (c : okM K a d = true) : FunD K d.name d.qual d.params d.body d.scope (d.dvs K) (d.kws K) a (fdAt K a) := by
  obtain ⟨kp, c2⟩ := ba c
  unfold fnWa at e
  unfold fdAt
  cases q : K.lookup a with
  | none => rw [q] at c2; cases c2
  | some o =>
    obtain ⟨oc, od, dt, osl⟩ := o
    rw [q] at c2 e
    cases dt with
    | func fd =>
      simp only at e c2 ⊢
      obtain ⟨n1, n2, n3, n4, n5, n6, n7, n8, n9, n10, n11, n12, n13, n14, n15⟩ := fd
      unfold DefD.val at e
      simp only [Option.some.injEq, Prod.mk.injEq] at e
      obtain ⟨h1, h2, h3, h4, h5, h6, h7, h8⟩ := e
      subst h1 h2 h3 h4 h5 h6 h7 h8
      obtain ⟨k1, k2⟩ := ba c2
      obtain ⟨k3, k4⟩ := ba k2
      exact ⟨⟨oc, od, n8, n9, n10, n11, n12, n13, n14, osl, rfl, q, k1, dflB_ok k3, kwdB_ok k4⟩, kp⟩
    | _ => cases c2
/-- the program's tables -/
structure PD where
  cn : List (Nat × Str)
  nms : List Str
  frs : List (Nat × FR)
  mths : List ((Nat × Nat) × Nat)
  prps : List ((Nat × Nat) × Nat)
  lens : List (Nat × Nat)
  eqs : List (Nat × Nat)
  inits : List (Nat × (Nat × Bool))
  flds : List (Nat × Nat)
  glos : List (Nat × D)
  blts : List Str
  mkk : Nat → Nat → Option (Nat × List Str)
  shape : Nat → List D → List D → Option (List D)
  fuel : Nat
  leq : Nat
  llen : Nat
section
variable (p : PD)
def PD.nm (i : Nat) : Str := match p.nms[i]? with
  | some x => x
  | none => ⟨(List.replicate (i + 200) 0).toArray⟩
def PD.meth (c m : Nat) : Option Nat := if m = p.llen then p.lens.lookup c else if m = p.leq then p.eqs.lookup c else match p.mths.lookup (c, m) with
  | some f => some f
  | none => p.prps.lookup (c, m)
def PD.tab : Tab where
  meth := p.meth
  init := fun c => p.inits.lookup c
  shape := p.shape
  fuel := p.fuel
  cok := fun c => (p.cn.lookup c).isSome
  fok := fun c f => p.flds.contains (c, f)
  eq := p.leq
  len := p.llen
def PD.F (f : Nat) : Option Fn := (p.frs.lookup f).map (·.fn)
def fnNm (r : FR) : Option Str := match r.at_ with
  | .glo x => some x
  | _ => none
def PD.cs : Cs where
  nm := p.nm
  fnn := fun f => (p.frs.lookup f).bind fnNm
  cls := fun c => p.cn.lookup c
  mkk := p.mkk
  glo := fun g d => match p.glos.lookup g with
    | some e => D.eqb e d
    | none => false
  blt := fun x => p.blts.contains x
  isM := fun m => p.mths.any fun q => q.1.2 == m
  isP := fun m => p.prps.any fun q => q.1.2 == m
def PD.ca (K : PySem.W.Frag) (c : Nat) : Addr := ga K ((p.cn.lookup c).getD Str.empty)
def PD.cb (K : PySem.W.Frag) (P : Program) (w : World) : CaT := ⟨p.ca K, P, w⟩
def PD.fa (K : PySem.W.Frag) (f : Nat) : Addr := match p.frs.lookup f with
  | some r => r.at_.adr K
  | none => 0
def PD.fd (K : PySem.W.Frag) (f : Nat) : FuncData := fdAt K (p.fa K f)
def PD.ps (f : Nat) : List Str := match p.frs.lookup f with
  | some r => r.ps
  | none => []
/-! #### what is looked at in the text alone -/
def scopeB (N P : List Str) (sc : Scope) : Bool := (match sc.kind with | .function => true | _ => false) && !sc.isCoroutine && !sc.isGenerator && decide N.Nodup && decide (N.take P.length = P) &&
  (P.all fun x => match sc.names.lookup x with | some .local => true | some .cell => true | _ => false) && sc.names.all fun y => match y.2 with | .free => false | _ => true
theorem scopeB_ok {N P : List Str} {sc : Scope} (h : scopeB N P sc = true) : FnScope N P sc := by
  unfold scopeB at h
  simp only [Bool.and_eq_true, Bool.not_eq_true', decide_eq_true_eq, List.all_eq_true] at h
  obtain ⟨⟨⟨⟨⟨⟨h1, h2⟩, h3⟩, h4⟩, h5⟩, h6⟩, h7⟩ := h
  refine ⟨?_, h2, h3, h4, h5, fun x hx => ?_, fun y hy z => ?_⟩
  · split at h1
    · assumption
    · cases h1
  · have := h6 x hx
    split at this
    · exact .inl (by assumption)
    · exact .inr (by assumption)
    · cases this
  · have := h7 y hy
    rw [z] at this
    cases this
/-- plain parameters -/
def plainP (a : Arguments) : Bool := a.posonlyargs.isEmpty && a.vararg.isNone && a.kwonlyargs.isEmpty && a.kwarg.isNone && a.defaults.isEmpty && a.kw_defaults.isEmpty
def frB (r : FR) : Bool := scopeB r.N r.ps r.d.scope && chkB p.cs r.N r.d.scope r.fn.body r.d.body && decide (r.fn.ar = r.ps.length) && decide (r.fn.ns = r.N.length) && r.d.dfl.isEmpty && decide (r.ps.length ≤ 6)
def posB (f : Nat) : Bool := match p.frs.lookup f with
  | some r => plainP r.d.params && decide (r.d.params.args.map (·.arg) = r.ps)
  | none => false
def atB (f : Nat) (a : At) : Bool := match p.frs.lookup f with
  | some r => decide (r.at_ = a)
  | none => false
def clsN (c : Nat) : Str := (p.cn.lookup c).getD Str.empty
def PD.stat : Bool :=
  decide p.nms.Nodup && (p.nms.all fun x => decide (x.cps.size < 200)) && (p.frs.all fun q => frB p q.2) &&
  (p.mths.all fun q => posB p q.2 && atB p q.2 (.mth (clsN p q.1.1) (p.nm q.1.2)) && (p.cn.lookup q.1.1).isSome && !(q.1.2 == p.llen) && !(q.1.2 == p.leq) && !(p.prps.any fun r => r.1.2 == q.1.2)) &&
  (p.prps.all fun q => posB p q.2 && atB p q.2 (.prp (clsN p q.1.1) (p.nm q.1.2)) && (p.cn.lookup q.1.1).isSome && !(q.1.2 == p.llen) && !(q.1.2 == p.leq) && !(p.mths.any fun r => r.1.2 == q.1.2)) &&
  (p.lens.all fun q => posB p q.2 && atB p q.2 (.mth (clsN p q.1) "__len__") && (p.cn.lookup q.1).isSome) &&
  (p.eqs.all fun q => posB p q.2 && atB p q.2 (.mth (clsN p q.1) "__eq__") && (p.cn.lookup q.1).isSome) &&
  (p.frs.all fun q => match q.2.at_ with | .glo x => posB p q.1 | _ => true) &&
  (p.flds.all fun q => (p.cn.lookup q.1).isSome) &&
  !(p.leq == p.llen)
/-! #### what is looked at in K -/
def dvOf : D → Option Dv
  | .non => some .non
  | .bl b => some (.bl b)
  | .int i => some (.int i)
  | .str x => some (.str x)
  | _ => none
def gloB (K : PySem.W.Frag) (x : Str) : D → Bool
  | .int i => (Fa.int x i).ok K
  | .str z => (Fa.str x z).ok K
  | .tup xs => (Fa.glo x).ok K && (match xs.mapM (m := Option) dvOf with
    | some vs => tupB K x vs
    | none => false)
  | _ => false
def propB (K : PySem.W.Frag) (x m : Str) : Bool := eqO (PySem.W.findIn K (.ref (ga K x)) m) (some (some (.ref (ma K (ga K x) m)))) && eqO (PySem.W.specialIn K (.ref (ma K (ga K x) m)) "__get__") (some (some (.builtin "property.__get__"))) && decide (PySem.W.takesIn K (.ref (ma K (ga K x) m)) = some true) && (match PySem.W.recIn K (ma K (ga K x) m) "property" with
  | some (.ref _ :: _) => true
  | _ => false)
def tks (p : PD) : List TK := [.non, .bl, .int, .str, .lst, .tup] ++ p.cn.map fun q => .own q.1
def tys (p : PD) : List Ty := [.int, .bool, .str, .tuple, .list] ++ p.cn.map fun q => .own q.1
def PD.inK (K : PySem.W.Frag) : Bool :=
  (p.cn.all fun q => (Fa.cls q.2).ok K && (Fa.glo q.2).ok K && eqO (PySem.W.findIn K (.ref (ga K q.2)) "__class__") (some (some (.builtin "object.__class__"))) && decide (PySem.W.mroIn K (ga K q.2) (.type "object") = some true)) &&
  eqO (PySem.W.specialIn K (.builtin "object.__class__") "__get__") (some (some (.builtin "getset_descriptor.__get__"))) && decide (PySem.W.takesIn K (.builtin "object.__class__") = some true) &&
  ((tks p).all fun t => (tys p).all fun ty => decide (PySem.W.kitOne K (tkV (p.ca K) t) (tyU (p.ca K) ty) = some (tkIs t ty))) &&
  (p.flds.all fun q => (Fa.noat (clsN p q.1) (p.nm q.2)).ok K) &&
  (p.mths.all fun q => (Fa.meth (clsN p q.1.1) (p.nm q.1.2)).ok K) &&
  (p.prps.all fun q => propB K (clsN p q.1.1) (p.nm q.1.2)) &&
  (p.lens.all fun q => (Fa.meth (clsN p q.1) "__len__").ok K) &&
  (p.eqs.all fun q => (Fa.meth (clsN p q.1) "__eq__").ok K) &&
  (p.inits.all fun q => (Fa.mkr (clsN p q.1)).ok K) &&
  (p.frs.all fun q => match q.2.at_ with | .glo x => (Fa.glo x).ok K | _ => true) &&
  (p.glos.all fun q => gloB K (p.nm q.1) q.2) &&
  (p.blts.all fun x => (Fa.free x).ok K)
def obsM (K : PySem.W.Frag) : AlD := (p.inK K && p.frs.all fun q => okM K (q.2.at_.adr K) q.2.d, p.frs.map fun q => fnWa K (q.2.at_.adr K))
def valM : AlD := (true, p.frs.map fun q => q.2.d.val)
def obsMG (n : Nat) (g : Addr → Option Obj) : AlD := obsM p (frG g (List.range n))
def hookM (n : Nat) : PySem.W.Hook where
  α := AlD
  obs := fun s => obsMG p n s.heap.get?
  val := fun _ => valM p
  says := fun _ h => ∃ K : PySem.W.Frag, K.In h ∧ obsM p K = valM p
  of := fun _ _ e => ⟨_, frG_in, e⟩
  keeps := fun _ _ _ ⟨K, hK, c⟩ k => ⟨K, PySem.W.Frag.In.keeps hK k, c⟩
theorem obsMG_eq {n : Nat} {g : Addr → Option Obj} {s : Shared} (h : ∀ a, g a = s.heap.get? a) : obsMG p n g = (hookM p n).obs s := by
  have e : g = s.heap.get? := funext h
  rw [e] <;> rfl
end
end MC

set_option Elab.async false
set_option linter.all false
set_option maxRecDepth 100000
set_option maxHeartbeats 4000000
namespace MC
open PySem PySem.Spec PyProof.Rows L2 He
theorem lookup_mem {α β : Type} [BEq α] [LawfulBEq α] {k : α} {v : β} : ∀ {l : List (α × β)}, l.lookup k = some v → (k, v) ∈ l
  | [], h => by cases h
  | (a, b) :: l, h => by
    rw [List.lookup_cons] at h
    by_cases e : k == a
    · rw [e] at h
      cases h
      rw [eq_of_beq e]
      exact List.mem_cons_self ..
    · have e' : (k == a) = false := by simpa using e
      rw [e'] at h
      exact List.mem_cons_of_mem _ (lookup_mem h)
theorem PD.inj (p : PD) (h1 : p.nms.Nodup) (h2 : (p.nms.all fun x => decide (x.cps.size < 200)) = true) (i j : Nat) (e : p.nm i = p.nm j) : i = j := by
  have key : ∀ {k : Nat} {x : Str}, p.nms[k]? = some x → x.cps.size < 200 := fun {k x} q => by
    have := List.all_eq_true.mp h2 x (List.mem_of_getElem? q)
    simpa using this
  unfold PD.nm at e
  cases qi : p.nms[i]? with
  | some x =>
    cases qj : p.nms[j]? with
    | some y =>
      rw [qi, qj] at e
      simp only at e
      subst e
      obtain ⟨a1, a2⟩ := List.getElem?_eq_some_iff.mp qi
      obtain ⟨b1, b2⟩ := List.getElem?_eq_some_iff.mp qj
      exact (List.getElem_inj h1).mp (a2.trans b2.symm)
    | none =>
      rw [qi, qj] at e
      have := key qi
      simp only at e
      rw [e] at this
      simp at this
      omega
  | none =>
    cases qj : p.nms[j]? with
    | some y =>
      rw [qi, qj] at e
      have := key qj
      simp only at e
      rw [← e] at this
      simp at this
      omega
    | none =>
      rw [qi, qj] at e
      simp only [Str.mk.injEq] at e
      have := congrArg Array.size e
      simp at this
      omega
theorem bnd1 {x qual : Str} {a : Arg} {body : List Stmt} {scope : Scope} {kV doc pm : Value} {an : Option Addr} {cdv ct u : Value} : bindArgs (PySem.W.fnOf x qual ⟨[], [a], none, [], [], none, []⟩ body scope .none kV doc pm an cdv ct) ⟨[u], []⟩ = pure [(a.arg, u)] := by
  have hn : notAStandIn Value.none = pure () := rfl
  unfold bindArgs
  simp [PySem.W.fnOf, seqItems?, List.lookup, hn]
theorem bnd2 {x qual : Str} {a b : Arg} {body : List Stmt} {scope : Scope} {kV doc pm : Value} {an : Option Addr} {cdv ct u v : Value} (h : b.arg ≠ a.arg) : bindArgs (PySem.W.fnOf x qual ⟨[], [a, b], none, [], [], none, []⟩ body scope .none kV doc pm an cdv ct) ⟨[u, v], []⟩ = pure [(a.arg, u), (b.arg, v)] := by
  have hn : notAStandIn Value.none = pure () := rfl
  have h1 : (b.arg == a.arg) = false := beq_eq_false_iff_ne.mpr h
  unfold bindArgs
  simp [PySem.W.fnOf, seqItems?, List.lookup, hn, h1]
theorem bnd3 {x qual : Str} {a b c : Arg} {body : List Stmt} {scope : Scope} {kV doc pm : Value} {an : Option Addr} {cdv ct u v w : Value} (h1 : b.arg ≠ a.arg) (h2 : c.arg ≠ a.arg) (h3 : c.arg ≠ b.arg) : bindArgs (PySem.W.fnOf x qual ⟨[], [a, b, c], none, [], [], none, []⟩ body scope .none kV doc pm an cdv ct) ⟨[u, v, w], []⟩ = pure [(a.arg, u), (b.arg, v), (c.arg, w)] := by
  have hn : notAStandIn Value.none = pure () := rfl
  have g1 : (b.arg == a.arg) = false := beq_eq_false_iff_ne.mpr h1
  have g2 : (c.arg == a.arg) = false := beq_eq_false_iff_ne.mpr h2
  have g3 : (c.arg == b.arg) = false := beq_eq_false_iff_ne.mpr h3
  unfold bindArgs
  simp [PySem.W.fnOf, seqItems?, List.lookup, hn, g1, g2, g3]
theorem bnd4 {x qual : Str} {a b c d : Arg} {body : List Stmt} {scope : Scope} {kV doc pm : Value} {an : Option Addr} {cdv ct u v w z : Value} (h1 : b.arg ≠ a.arg) (h2 : c.arg ≠ a.arg) (h3 : c.arg ≠ b.arg) (h4 : d.arg ≠ a.arg) (h5 : d.arg ≠ b.arg) (h6 : d.arg ≠ c.arg) : bindArgs (PySem.W.fnOf x qual ⟨[], [a, b, c, d], none, [], [], none, []⟩ body scope .none kV doc pm an cdv ct) ⟨[u, v, w, z], []⟩ = pure [(a.arg, u), (b.arg, v), (c.arg, w), (d.arg, z)] := by
  have hn : notAStandIn Value.none = pure () := rfl
  have g1 : (b.arg == a.arg) = false := beq_eq_false_iff_ne.mpr h1
  have g2 : (c.arg == a.arg) = false := beq_eq_false_iff_ne.mpr h2
  have g3 : (c.arg == b.arg) = false := beq_eq_false_iff_ne.mpr h3
  have g4 : (d.arg == a.arg) = false := beq_eq_false_iff_ne.mpr h4
  have g5 : (d.arg == b.arg) = false := beq_eq_false_iff_ne.mpr h5
  have g6 : (d.arg == c.arg) = false := beq_eq_false_iff_ne.mpr h6
  unfold bindArgs
  simp [PySem.W.fnOf, seqItems?, List.lookup, hn, g1, g2, g3, g4, g5, g6]
theorem bnd5 {x qual : Str} {a b c d e : Arg} {body : List Stmt} {scope : Scope} {kV doc pm : Value} {an : Option Addr} {cdv ct u0 u1 u2 u3 u4 : Value} (h1 : b.arg ≠ a.arg) (h2 : c.arg ≠ a.arg) (h3 : c.arg ≠ b.arg) (h4 : d.arg ≠ a.arg) (h5 : d.arg ≠ b.arg) (h6 : d.arg ≠ c.arg) (h7 : e.arg ≠ a.arg) (h8 : e.arg ≠ b.arg) (h9 : e.arg ≠ c.arg) (h10 : e.arg ≠ d.arg) : bindArgs (PySem.W.fnOf x qual ⟨[], [a, b, c, d, e], none, [], [], none, []⟩ body scope .none kV doc pm an cdv ct) ⟨[u0, u1, u2, u3, u4], []⟩ = pure [(a.arg, u0), (b.arg, u1), (c.arg, u2), (d.arg, u3), (e.arg, u4)] := by
  have hn : notAStandIn Value.none = pure () := rfl
  have g1 : (b.arg == a.arg) = false := beq_eq_false_iff_ne.mpr h1
  have g2 : (c.arg == a.arg) = false := beq_eq_false_iff_ne.mpr h2
  have g3 : (c.arg == b.arg) = false := beq_eq_false_iff_ne.mpr h3
  have g4 : (d.arg == a.arg) = false := beq_eq_false_iff_ne.mpr h4
  have g5 : (d.arg == b.arg) = false := beq_eq_false_iff_ne.mpr h5
  have g6 : (d.arg == c.arg) = false := beq_eq_false_iff_ne.mpr h6
  have g7 : (e.arg == a.arg) = false := beq_eq_false_iff_ne.mpr h7
  have g8 : (e.arg == b.arg) = false := beq_eq_false_iff_ne.mpr h8
  have g9 : (e.arg == c.arg) = false := beq_eq_false_iff_ne.mpr h9
  have g10 : (e.arg == d.arg) = false := beq_eq_false_iff_ne.mpr h10
  unfold bindArgs
  simp [PySem.W.fnOf, seqItems?, List.lookup, hn, g1, g2, g3, g4, g5, g6, g7, g8, g9, g10]
theorem bnd6 {x qual : Str} {a b c d e f : Arg} {body : List Stmt} {scope : Scope} {kV doc pm : Value} {an : Option Addr} {cdv ct u0 u1 u2 u3 u4 u5 : Value} (h1 : b.arg ≠ a.arg) (h2 : c.arg ≠ a.arg) (h3 : c.arg ≠ b.arg) (h4 : d.arg ≠ a.arg) (h5 : d.arg ≠ b.arg) (h6 : d.arg ≠ c.arg) (h7 : e.arg ≠ a.arg) (h8 : e.arg ≠ b.arg) (h9 : e.arg ≠ c.arg) (h10 : e.arg ≠ d.arg) (h11 : f.arg ≠ a.arg) (h12 : f.arg ≠ b.arg) (h13 : f.arg ≠ c.arg) (h14 : f.arg ≠ d.arg) (h15 : f.arg ≠ e.arg) : bindArgs (PySem.W.fnOf x qual ⟨[], [a, b, c, d, e, f], none, [], [], none, []⟩ body scope .none kV doc pm an cdv ct) ⟨[u0, u1, u2, u3, u4, u5], []⟩ = pure [(a.arg, u0), (b.arg, u1), (c.arg, u2), (d.arg, u3), (e.arg, u4), (f.arg, u5)] := by
  have hn : notAStandIn Value.none = pure () := rfl
  have g1 : (b.arg == a.arg) = false := beq_eq_false_iff_ne.mpr h1
  have g2 : (c.arg == a.arg) = false := beq_eq_false_iff_ne.mpr h2
  have g3 : (c.arg == b.arg) = false := beq_eq_false_iff_ne.mpr h3
  have g4 : (d.arg == a.arg) = false := beq_eq_false_iff_ne.mpr h4
  have g5 : (d.arg == b.arg) = false := beq_eq_false_iff_ne.mpr h5
  have g6 : (d.arg == c.arg) = false := beq_eq_false_iff_ne.mpr h6
  have g7 : (e.arg == a.arg) = false := beq_eq_false_iff_ne.mpr h7
  have g8 : (e.arg == b.arg) = false := beq_eq_false_iff_ne.mpr h8
  have g9 : (e.arg == c.arg) = false := beq_eq_false_iff_ne.mpr h9
  have g10 : (e.arg == d.arg) = false := beq_eq_false_iff_ne.mpr h10
  have g11 : (f.arg == a.arg) = false := beq_eq_false_iff_ne.mpr h11
  have g12 : (f.arg == b.arg) = false := beq_eq_false_iff_ne.mpr h12
  have g13 : (f.arg == c.arg) = false := beq_eq_false_iff_ne.mpr h13
  have g14 : (f.arg == d.arg) = false := beq_eq_false_iff_ne.mpr h14
  have g15 : (f.arg == e.arg) = false := beq_eq_false_iff_ne.mpr h15
  unfold bindArgs
  simp [PySem.W.fnOf, seqItems?, List.lookup, hn, g1, g2, g3, g4, g5, g6, g7, g8, g9, g10, g11, g12, g13, g14, g15]
section
variable {K : PySem.W.Frag} {x qual : Str} {body : List Stmt} {scope : Scope} {kws : List (Str × V)} {f : Addr} {fd : FuncData} {ps : List Str}
/-- plain parameters are bound in order -/
theorem plain_binds {params : Arguments} (F : FunD K x qual params body scope [] kws f fd) (h : plainP params = true) (hp : params.args.map (·.arg) = ps) (hl : ps.length ≤ 6) (nd : ps.Nodup) : Binds K fd ps [] := by
  obtain ⟨po, ag, va, ko, kd, kw, df⟩ := params
  unfold plainP at h
  simp only [Bool.and_eq_true, List.isEmpty_iff, Option.isNone_iff_eq_none] at h
  obtain ⟨⟨⟨⟨⟨rfl, rfl⟩, rfl⟩, rfl⟩, rfl⟩, rfl⟩ := h
  simp only at hp
  subst hp
  refine F.bindsN fun kV doc pm an cdv ct us hu => ?_
  match ag, us, hu, hl, nd with
  | [], [], _, _, _ => rfl
  | [a], [_], _, _, _ => exact bnd1
  | [a, b], [_, _], _, _, nd =>
    simp only [List.map_cons, List.map_nil, List.nodup_cons, List.mem_cons, List.not_mem_nil, or_false, not_or] at nd
    exact bnd2 (Ne.symm nd.1)
  | [a, b, c], [_, _, _], _, _, nd =>
    simp only [List.map_cons, List.map_nil, List.nodup_cons, List.mem_cons, List.not_mem_nil, or_false, not_or] at nd
    exact bnd3 (Ne.symm nd.1.1) (Ne.symm nd.1.2) (Ne.symm nd.2.1)
  | [a, b, c, d], [_, _, _, _], _, _, nd =>
    simp only [List.map_cons, List.map_nil, List.nodup_cons, List.mem_cons, List.not_mem_nil, or_false, not_or] at nd
    exact bnd4 (Ne.symm nd.1.1) (Ne.symm nd.1.2.1) (Ne.symm nd.2.1.1) (Ne.symm nd.1.2.2) (Ne.symm nd.2.1.2) (Ne.symm nd.2.2.1)
  | [a, b, c, d, e], [_, _, _, _, _], _, _, nd =>
    simp only [List.map_cons, List.map_nil, List.nodup_cons, List.mem_cons, List.not_mem_nil, or_false, not_or] at nd
    exact bnd5 (Ne.symm nd.1.1) (Ne.symm nd.1.2.1) (Ne.symm nd.2.1.1) (Ne.symm nd.1.2.2.1) (Ne.symm nd.2.1.2.1) (Ne.symm nd.2.2.1.1) (Ne.symm nd.1.2.2.2) (Ne.symm nd.2.1.2.2) (Ne.symm nd.2.2.1.2) (Ne.symm nd.2.2.2.1)
  | [a, b, c, d, e, f], [_, _, _, _, _, _], _, _, nd =>
    simp only [List.map_cons, List.map_nil, List.nodup_cons, List.mem_cons, List.not_mem_nil, or_false, not_or] at nd
    exact bnd6 (Ne.symm nd.1.1) (Ne.symm nd.1.2.1) (Ne.symm nd.2.1.1) (Ne.symm nd.1.2.2.1) (Ne.symm nd.2.1.2.1) (Ne.symm nd.2.2.1.1) (Ne.symm nd.1.2.2.2.1) (Ne.symm nd.2.1.2.2.1) (Ne.symm nd.2.2.1.2.1) (Ne.symm nd.2.2.2.1.1) (Ne.symm nd.1.2.2.2.2) (Ne.symm nd.2.1.2.2.2) (Ne.symm nd.2.2.1.2.2) (Ne.symm nd.2.2.2.1.2) (Ne.symm nd.2.2.2.2.1)
  | _ :: _ :: _ :: _ :: _ :: _ :: _ :: _, _, _, hl, _ => exact absurd hl (by simp)
end
theorem map_fst_mem {α β : Type} {l : List (α × β)} {i : Nat} {q : α × β} (h : l[i]? = some q) : q ∈ l := List.mem_of_getElem? h
section
variable {p : PD} {K : PySem.W.Frag} {h : Heap} {mg : Str → Option Value}
theorem obs_in (c : obsM p K = valM p) : p.inK K = true ∧ (p.frs.all fun q => okM K (q.2.at_.adr K) q.2.d) = true ∧ (p.frs.map fun q => fnWa K (q.2.at_.adr K)) = p.frs.map fun q => q.2.d.val := by
  have c1 : (p.inK K && p.frs.all fun q => okM K (q.2.at_.adr K) q.2.d) = true := congrArg (fun z : AlD => z.1) c
  rw [Bool.and_eq_true] at c1
  exact ⟨c1.1, c1.2, congrArg (fun z : AlD => z.2) c⟩
theorem fr_fun (c : obsM p K = valM p) {f : Nat} {r : FR} (e : p.frs.lookup f = some r) : FunD K r.d.name r.d.qual r.d.params r.d.body r.d.scope (r.d.dvs K) (r.d.kws K) (p.fa K f) (p.fd K f) := by
  obtain ⟨_, c2, c3⟩ := obs_in c
  have m := lookup_mem e
  have a : p.fa K f = r.at_.adr K := by unfold PD.fa; rw [e]
  unfold PD.fd
  rw [a]
  refine funM ?_ (List.all_eq_true.mp c2 _ m)
  obtain ⟨i, hi⟩ := List.getElem?_of_mem m
  have := congrArg (fun l => l[i]?) c3
  simp only [List.getElem?_map, hi, Option.map_some] at this
  exact Option.some.inj this
theorem nodup_take {l : List Str} (h : l.Nodup) (n : Nat) : (l.take n).Nodup := h.sublist (List.take_sublist n l)
theorem PD.toStat (p : PD) {P : Program} {w : World} {base : Heap} (hs : p.stat = true) (X : K.In h) (G : h.Ns mainGlobals mg) (c : obsM p K = valM p)
    (hmk : ∀ c sh np ks x, p.mkk c sh = some (np, ks) → p.cn.lookup c = some x → ∃ f fz r, p.inits.lookup c = some (f, fz) ∧ p.frs.lookup f = some r ∧ r.at_ = .mth x "__init__" ∧ ∃ g gV, KBn K (p.fd K f) (p.ps f) (np + 1) ks g gV ∧
      ∀ (β : List Addr) (H : Hp) (d : D) (v : V) (xs ys ws : List D) (vs zs : List V), RelD K p.nm (p.cb K P w) β H d v → RelL K p.nm (p.cb K P w) β H xs vs → RelL K p.nm (p.cb K P w) β H ys zs → p.shape sh xs ys = some ws → xs.length = np ∧ ys.length = ks.length ∧ RelL K p.nm (p.cb K P w) β H (d :: ws) (gV (v :: vs) zs)) :
    Stat P w K mg base p.cs p.tab p.F (p.cb K P w) (p.fa K) (p.fd K) p.ps := by
  obtain ⟨ci, _, _⟩ := obs_in c
  unfold PD.stat at hs
  simp only [Bool.and_eq_true, decide_eq_true_eq] at hs
  obtain ⟨⟨⟨⟨⟨⟨⟨⟨⟨s1, s2⟩, s3⟩, s4⟩, s5⟩, s6⟩, s7⟩, s8⟩, s9⟩, s10⟩ := hs
  unfold PD.inK at ci
  simp only [Bool.and_eq_true, decide_eq_true_eq] at ci
  obtain ⟨⟨⟨⟨⟨⟨⟨⟨⟨⟨⟨⟨k1, k2⟩, k3⟩, k4⟩, k5⟩, k6⟩, k7⟩, k8⟩, k9⟩, k10⟩, k11⟩, k12⟩, k13⟩ := ci
  have hfr : ∀ {f : Nat} {r : FR}, p.frs.lookup f = some r → scopeB r.N r.ps r.d.scope = true ∧ chkB p.cs r.N r.d.scope r.fn.body r.d.body = true ∧ r.fn.ar = r.ps.length ∧ r.fn.ns = r.N.length ∧ r.d.dfl = [] ∧ r.ps.length ≤ 6 := fun {f r} e => by
    have := List.all_eq_true.mp s3 _ (lookup_mem e)
    unfold frB at this
    simp only [Bool.and_eq_true, decide_eq_true_eq, List.isEmpty_iff] at this
    obtain ⟨⟨⟨⟨⟨a1, a2⟩, a3⟩, a4⟩, a5⟩, a6⟩ := this
    exact ⟨a1, a2, a3, a4, a5, a6⟩
  have hF : ∀ {f : Nat} {r : FR}, p.frs.lookup f = some r → ∃ fn, p.F f = some fn := fun {f r} e => ⟨r.fn, by unfold PD.F; rw [e]; rfl⟩
  have hbind : ∀ {f : Nat}, posB p f = true → ∃ r, p.frs.lookup f = some r ∧ Binds K (p.fd K f) (p.ps f) [] := fun {f} hp => by
    unfold posB at hp
    cases e : p.frs.lookup f with
    | none => rw [e] at hp; cases hp
    | some r =>
      rw [e] at hp
      simp only [Bool.and_eq_true, decide_eq_true_eq] at hp
      obtain ⟨a1, a2, a3, a4, a5, a6⟩ := hfr e
      have S := scopeB_ok a1
      have F := fr_fun c e
      have d0 : r.d.dvs K = [] := by unfold DefD.dvs; rw [a5]; rfl
      rw [d0] at F
      have hps : p.ps f = r.ps := by unfold PD.ps; rw [e]
      rw [hps]
      exact ⟨r, rfl, plain_binds F hp.1 hp.2 a6 (by rw [← S.pre]; exact nodup_take S.nd _)⟩
  have hat : ∀ {f : Nat} {a : At}, atB p f a = true → p.fa K f = a.adr K := fun {f a} ha => by
    unfold atB at ha
    unfold PD.fa
    cases e : p.frs.lookup f with
    | none => rw [e] at ha; cases ha
    | some r => rw [e] at ha; simp only [decide_eq_true_eq] at ha; simp only [ha]
  have hcl : ∀ {c : Nat} {x : Str}, p.cn.lookup c = some x → Cls K ((p.cb K P w).f c) ∧ mg x = some (.ref ((p.cb K P w).f c)) ∧ (p.cb K P w).f c = ga K x := fun {c x} e => by
    have := List.all_eq_true.mp k1 _ (lookup_mem e)
    simp only [Bool.and_eq_true, decide_eq_true_eq] at this
    have ec : (p.cb K P w).f c = ga K x := by show p.ca K c = ga K x; unfold PD.ca; rw [e]; rfl
    rw [ec]
    exact ⟨cls_ok this.1.1.1, glo_ok X G this.1.1.2, rfl⟩
  have hcc : ∀ {c : Nat}, (p.cn.lookup c).isSome = true → Cls K ((p.cb K P w).f c) ∧ (p.cb K P w).f c = ga K (clsN p c) := fun {c} e => by
    cases q : p.cn.lookup c with
    | none => rw [q] at e; cases e
    | some x => exact ⟨(hcl q).1, rfl⟩
  refine ⟨p.inj s1 s2, fun f fn e => ?_, fun c f e => ?_, fun m c f hm e => ?_, fun m c f hm e => ?_, fun c f e => ?_, fun c f e => ?_, fun Y hY => ?_, fun f x e => ?_, fun c sh np ks x e1 e2 => ?_, fun c x e => (hcl e).2.1, fun g d e => ?_, fun x e => ?_, rfl, rfl⟩
  · unfold PD.F at e
    cases q : p.frs.lookup f with
    | none => rw [q] at e; cases e
    | some r =>
      rw [q] at e
      cases e
      obtain ⟨a1, a2, a3, a4, a5, a6⟩ := hfr q
      have hps : p.ps f = r.ps := by unfold PD.ps; rw [q]
      rw [hps]
      exact ⟨_, _, _, _, _, _, _, r.N, fr_fun c q, scopeB_ok a1, a2, a3, a4⟩
  · have m : (c, f) ∈ p.flds := by simpa [PD.tab] using e
    have a := hcc (List.all_eq_true.mp s9 _ m)
    refine ⟨a.1, ?_⟩
    rw [a.2]
    exact noat_ok (List.all_eq_true.mp k5 _ m)
  · have e0 : p.meth c m = some f := e
    unfold PD.meth at e0
    have hm' : (p.mths.any fun q => q.1.2 == m) = true := hm
    obtain ⟨q, hq, hqm⟩ := List.any_eq_true.mp hm'
    have hqm : q.1.2 = m := eq_of_beq hqm
    have sq := List.all_eq_true.mp s4 q hq
    simp only [Bool.and_eq_true, Bool.not_eq_true', beq_eq_false_iff_ne] at sq
    obtain ⟨⟨⟨⟨⟨_, _⟩, _⟩, n1⟩, n2⟩, n3⟩ := sq
    rw [hqm] at n1 n2 n3
    rw [if_neg n1, if_neg n2] at e0
    cases q2 : p.mths.lookup (c, m) with
    | none =>
      rw [q2] at e0
      have := List.any_eq_false.mp n3 _ (lookup_mem e0)
      simp at this
    | some f' =>
      rw [q2] at e0
      cases e0
      have mm := lookup_mem q2
      have sm := List.all_eq_true.mp s4 _ mm
      simp only [Bool.and_eq_true] at sm
      obtain ⟨r, e3, b⟩ := hbind sm.1.1.1.1.1
      have a := hcc sm.1.1.1.2
      have ad := hat sm.1.1.1.1.2
      refine ⟨hF e3, a.1, ?_, b⟩
      rw [a.2, ad]
      exact meth_ok (List.all_eq_true.mp k6 _ mm)
  · have e0 : p.meth c m = some f := e
    unfold PD.meth at e0
    have hm' : (p.prps.any fun q => q.1.2 == m) = true := hm
    obtain ⟨q, hq, hqm⟩ := List.any_eq_true.mp hm'
    have hqm : q.1.2 = m := eq_of_beq hqm
    have sq := List.all_eq_true.mp s5 q hq
    simp only [Bool.and_eq_true, Bool.not_eq_true', beq_eq_false_iff_ne] at sq
    obtain ⟨⟨⟨⟨⟨_, _⟩, _⟩, n1⟩, n2⟩, n3⟩ := sq
    rw [hqm] at n1 n2 n3
    rw [if_neg n1, if_neg n2] at e0
    cases q2 : p.mths.lookup (c, m) with
    | some f' =>
      have := List.any_eq_false.mp n3 _ (lookup_mem q2)
      simp at this
    | none =>
      rw [q2] at e0
      have mm := lookup_mem e0
      have sm := List.all_eq_true.mp s5 _ mm
      simp only [Bool.and_eq_true] at sm
      obtain ⟨r, e3, b⟩ := hbind sm.1.1.1.1.1
      have a := hcc sm.1.1.1.2
      have ad := hat sm.1.1.1.1.2
      refine ⟨hF e3, a.1, ⟨ma K (ga K (clsN p c)) (p.nm m), ?_⟩, b⟩
      rw [a.2, ad]
      have pb := List.all_eq_true.mp k7 _ mm
      unfold propB at pb
      simp only [Bool.and_eq_true, decide_eq_true_eq] at pb
      obtain ⟨⟨⟨p1, p2⟩, p3⟩, p4⟩ := pb
      refine ⟨eqO_ok p1, eqO_ok p2, p3, ?_⟩
      show ∃ rest, PySem.W.recIn K _ "property" = some (.ref (prA K _) :: rest)
      unfold prA
      split at p4
      · rename_i g rest hg
        rw [hg]
        exact ⟨rest, rfl⟩
      · cases p4
  · have e0 : p.meth c p.llen = some f := e
    unfold PD.meth at e0
    rw [if_pos rfl] at e0
    have mm := lookup_mem e0
    have sm := List.all_eq_true.mp s6 _ mm
    simp only [Bool.and_eq_true] at sm
    obtain ⟨r, e3, b⟩ := hbind sm.1.1
    have a := hcc sm.2
    have ad := hat sm.1.2
    have M := meth_ok (List.all_eq_true.mp k8 _ mm)
    refine ⟨hF e3, ?_, ?_, b⟩
    · rw [a.2, ad]; exact M.at_
    · rw [ad]; exact M.fn
  · have e0 : p.meth c p.leq = some f := e
    unfold PD.meth at e0
    rw [Bool.not_eq_true', beq_eq_false_iff_ne] at s10
    rw [if_neg s10, if_pos rfl] at e0
    have mm := lookup_mem e0
    have sm := List.all_eq_true.mp s7 _ mm
    simp only [Bool.and_eq_true] at sm
    obtain ⟨r, e3, b⟩ := hbind sm.1.1
    have a := hcc sm.2
    have ad := hat sm.1.2
    have M := meth_ok (List.all_eq_true.mp k9 _ mm)
    refine ⟨hF e3, ?_, ?_, ?_, b⟩
    · unfold PySem.W.notFirst; simp
    · rw [a.2, ad]; exact M.at_
    · rw [ad]; exact M.fn
  · subst hY
    have hown : ∀ {c : Nat}, (p.cn.lookup c).isSome = true → ∃ x, (c, x) ∈ p.cn := fun {c} q => by
      obtain ⟨x, hx⟩ := Option.isSome_iff_exists.mp q
      exact ⟨x, lookup_mem hx⟩
    refine ⟨fun t ty ht hty => ?_, fun c hc => ?_⟩
    · have mt : t ∈ tks p := by
        unfold tks
        cases t with
        | own c =>
          obtain ⟨x, hx⟩ := hown (show (p.cn.lookup c).isSome = true from ht)
          exact List.mem_append_right _ (List.mem_map.mpr ⟨_, hx, rfl⟩)
        | _ => simp
      have my : ty ∈ tys p := by
        unfold tys
        cases ty with
        | own c =>
          obtain ⟨x, hx⟩ := hown (show (p.cn.lookup c).isSome = true from hty)
          exact List.mem_append_right _ (List.mem_map.mpr ⟨_, hx, rfl⟩)
        | _ => simp
      have := List.all_eq_true.mp (List.all_eq_true.mp k4 t mt) ty my
      have this' := this; simp at this'; exact this'
    · obtain ⟨x, hx⟩ := Option.isSome_iff_exists.mp (show (p.cn.lookup c).isSome = true from hc)
      have a := hcl hx
      have q := List.all_eq_true.mp k1 _ (lookup_mem hx)
      simp only [Bool.and_eq_true, decide_eq_true_eq] at q
      refine ⟨a.1, ?_, eqO_ok k2, k3, ?_⟩
      · rw [a.2.2]; exact eqO_ok q.1.2
      · rw [a.2.2]; exact q.2
  · have e0 : (p.frs.lookup f).bind fnNm = some x := e
    cases q : p.frs.lookup f with
    | none => rw [q] at e0; cases e0
    | some r =>
      rw [q] at e0
      simp only [Option.bind_some] at e0
      unfold fnNm at e0
      have mm := lookup_mem q
      have sm := List.all_eq_true.mp s8 _ mm
      have km := List.all_eq_true.mp k11 _ mm
      split at e0
      · rename_i y hy
        cases e0
        simp only [hy] at sm km
        obtain ⟨r', e3, b⟩ := hbind sm
        have ad : p.fa K f = ga K x := by unfold PD.fa; rw [q]; simp only [hy]; rfl
        refine ⟨hF q, ?_, (fr_fun c q).kp, b⟩
        rw [ad]
        exact glo_ok X G km
      · cases e0
  · obtain ⟨f, fz, r, i1, i2, i3, g, gV, i4, i5⟩ := hmk c sh np ks x e1 e2
    refine ⟨f, fz, i1, hF i2, ?_, g, gV, i4, i5⟩
    have M := mkr_ok (List.all_eq_true.mp k10 _ (lookup_mem i1))
    have ec : clsN p c = x := by
      unfold clsN
      have e2' : p.cn.lookup c = some x := e2
      rw [e2']; rfl
    have ad : p.fa K f = ma K (ga K x) "__init__" := by unfold PD.fa; rw [i2]; simp only [i3]; rfl
    rw [(hcl e2).2.2, ad]
    simp only at M
    rw [ec] at M
    exact M
  · have e0 : (match p.glos.lookup g with
      | some e => D.eqb e d
      | none => false) = true := e
    cases q : p.glos.lookup g with
    | none => rw [q] at e0; cases e0
    | some d' =>
      rw [q] at e0
      have := D.eqb_eq e0
      subst this
      have b := List.all_eq_true.mp k12 _ (lookup_mem q)
      simp only at b
      cases d' with
      | int i =>
        obtain ⟨t, ht⟩ := He.int_ok X G (show (Fa.int (p.nm g) i).ok K = true from b)
        exact ⟨_, .int i, ht, ⟨t, rfl⟩, fun β H => .int i⟩
      | str z =>
        obtain ⟨t, ht⟩ := He.str_ok X G (show (Fa.str (p.nm g) z).ok K = true from b)
        exact ⟨_, .str z, ht, ⟨t, rfl⟩, fun β H => .str z⟩
      | tup xs =>
        unfold gloB at b
        rw [Bool.and_eq_true] at b
        obtain ⟨b1, b2⟩ := b
        split at b2
        · rename_i vs hvs
          refine ⟨_, .ref (ga K (p.nm g)), glo_ok X G b1, rfl, fun β H => .tup (tupB_ok b2 H) ?_⟩
          clear b2 q e e0
          induction xs generalizing vs with
          | nil => cases hvs; exact .nil
          | cons a as ih =>
            rw [List.mapM_cons] at hvs
            cases qa : dvOf a with
            | none => rw [qa] at hvs; cases hvs
            | some v =>
              cases qs : as.mapM (m := Option) dvOf with
              | none => rw [qa, qs] at hvs; cases hvs
              | some us =>
                rw [qa, qs] at hvs
                cases hvs
                refine .cons ?_ (ih us qs)
                cases a <;> first | (cases qa; constructor) | cases qa
        · cases b2
      | _ => cases b
  · have m : x ∈ p.blts := by simpa [PD.cs] using e
    exact free_ok X G (List.all_eq_true.mp k13 _ m)
end
end MC

set_option Elab.async false
set_option linter.all false
set_option maxRecDepth 100000
set_option maxHeartbeats 1000000
namespace MC
open PySem PySem.Spec PyProof.Rows L2
/-! ### plain lemmas on the evaluator -/
mutual
theorem D.eqb_refl : ∀ d : D, D.eqb d d = true
  | .non => by simp [D.eqb]
  | .bl _ => by simp [D.eqb]
  | .int _ => by simp [D.eqb]
  | .str _ => by simp [D.eqb]
  | .tup xs => by simp [D.eqb, D.eqbL_refl xs]
  | .lst xs => by simp [D.eqb, D.eqbL_refl xs]
  | .dct xs => by simp [D.eqb, D.eqbK_refl xs]
  | .ins c xs => by simp [D.eqb, D.eqbF_refl xs]
  | .ref _ => by simp [D.eqb]
theorem D.eqbL_refl : ∀ d : List D, D.eqbL d d = true
  | [] => by simp [D.eqbL]
  | x :: xs => by simp [D.eqbL, D.eqb_refl x, D.eqbL_refl xs]
theorem D.eqbK_refl : ∀ d : List (D × D), D.eqbK d d = true
  | [] => by simp [D.eqbK]
  | (x, y) :: xs => by simp [D.eqbK, D.eqb_refl x, D.eqb_refl y, D.eqbK_refl xs]
theorem D.eqbF_refl : ∀ d : List (Nat × D), D.eqbF d d = true
  | [] => by simp [D.eqbF]
  | (x, y) :: xs => by simp [D.eqbF, D.eqb_refl y, D.eqbF_refl xs]
end
theorem O.eqb_refl (o : O) : O.eqb o o = true := by
  cases o <;> simp [O.eqb, D.eqbL_refl, D.eqbK_refl, D.eqbF_refl]
theorem Hs.eqb_refl : ∀ h : Hs, Hs.eqb h h = true
  | [] => rfl
  | o :: h => by simp [Hs.eqb, O.eqb_refl o, Hs.eqb_refl h]
theorem frz_nr {new : Hs} {b k : Nat} {d : D} (h : d.nr = true) : frzD new b (k + 1) d = some d := by
  simp [frzD, h]
theorem frz_all {new : Hs} {b k : Nat} : ∀ {xs : List D}, (∀ x ∈ xs, x.nr = true) → xs.mapM (m := Option) (frzD new b (k + 1)) = some xs
  | [], _ => rfl
  | x :: xs, h => by
    rw [List.mapM_cons, frz_nr (h x (List.mem_cons_self ..)), frz_all fun y hy => h y (List.mem_cons_of_mem _ hy)]
    rfl
theorem back_nr {h new : Hs} {d : D} (hd : d.nr = true) : back true h d (h ++ new) = .ok d h := by
  unfold back
  by_cases hn : new = []
  · subst hn; simp
  · have : ¬ (h ++ new).length = h.length := by simp [hn]
    rw [if_neg this]
    simp [Hs.eqb_refl, frz_nr (new := new) (b := h.length) (k := 5) hd]
theorem back_same {fz : Bool} {h : Hs} {d : D} : back fz h d h = .ok d h := by simp [back]
theorem back_len {fz : Bool} {h h' : Hs} {d : D} (e : h'.length = h.length) : back fz h d h' = .ok d h' := by simp [back, e]
theorem back_no {h h' : Hs} {d : D} : back false h d h' = .ok d h' := by
  unfold back
  split <;> simp
theorem back_list {h : Hs} {ys : List D} (hy : ∀ y ∈ ys, y.nr = true) : back true h (.ref h.length) (h ++ [.lst ys]) = .ok (.lst ys) h := by
  unfold back
  have : ¬ (h ++ [O.lst ys]).length = h.length := by simp
  rw [if_neg this]
  have e : frzD [O.lst ys] h.length 6 (.ref h.length) = some (.lst ys) := by
    unfold frzD
    simp only [D.nr]
    simp [frz_all hy]
  simp [Hs.eqb_refl, e]
theorem hget (h : Hs) (o : O) : (h ++ [o])[h.length]? = some o := by simp
theorem hset (h : Hs) (o u : O) : (h ++ [o]).set h.length u = h ++ [u] := by simp
theorem push_ok {g : Hs} {acc : List D} {y : D} (hl : acc.length < sizeLine) : pushM g.length y (g ++ [.lst acc]) = .ok () (g ++ [.lst (acc ++ [y])]) := by
  unfold pushM
  simp [hl]
/-- a comprehension whose parts leave the heap as it is -/
theorem loopLC_pure {tg : D → Sg → Hs → Res Sg} {ts : Sg → Hs → Res Bool} {el : Sg → Hs → Res D} {σ : Sg} {g : Hs} {f : D → Option D} : ∀ {xs acc : List D}, acc.length + xs.length ≤ sizeLine →
    (∀ x ∈ xs, ∀ h, ∃ σ', tg x σ h = .ok σ' h ∧ ((f x = none ∧ ts σ' h = .ok false h) ∨ ∃ y, f x = some y ∧ ts σ' h = .ok true h ∧ el σ' h = .ok y h)) →
    loopLC tg ts el σ g.length xs (g ++ [.lst acc]) = .ok () (g ++ [.lst (acc ++ xs.filterMap f)])
  | [], acc, _, _ => by simp [loopLC]
  | x :: xs, acc, hl, hx => by
    obtain ⟨σ', e1, h1⟩ := hx x (List.mem_cons_self ..) (g ++ [.lst acc])
    have hx' := fun z hz => hx z (List.mem_cons_of_mem _ hz)
    simp only [List.length_cons] at hl
    rcases h1 with ⟨e2, e3⟩ | ⟨y, e2, e3, e4⟩
    · simp only [loopLC, e1, e3, Res.bind, Bool.false_eq_true, if_false]
      rw [loopLC_pure (acc := acc) (by omega) hx', List.filterMap_cons, e2]
    · simp only [loopLC, e1, e3, e4, Res.bind, if_true]
      rw [push_ok (by omega)]
      simp only
      rw [loopLC_pure (acc := acc ++ [y]) (by simp; omega) hx', List.filterMap_cons, e2]
      simp
theorem lc_pure {T : Tab} {cl : Nat → List D → Hs → Res D} {own : List Nat} {elt : E} {g : G} {it : I} {c : OE} {σ : Sg} {h : Hs} {xs : List D} {f : D → Option D} (hi : evI T cl it σ h = .ok (.its xs) h) (hl : xs.length ≤ sizeLine)
    (hx : ∀ x ∈ xs, ∀ h, ∃ σ', evG T cl g x (wipeM own σ) h = .ok σ' h ∧ ((f x = none ∧ evOT T cl c σ' h = .ok false h) ∨ ∃ y, f x = some y ∧ evOT T cl c σ' h = .ok true h ∧ evE T cl elt σ' h = .ok y h)) (hn : ∀ y ∈ xs.filterMap f, y.nr = true) :
    evE T cl (.lc true own elt g it c) σ h = .ok (.lst (xs.filterMap f)) h := by
  simp only [evE, hi, Res.bind]
  rw [loopLC_pure (f := f) (acc := []) (by simpa using hl) hx]
  simp only [List.nil_append]
  exact back_list hn
/-- a comprehension over encoded items -/
theorem loopLC_map {α : Type} {en f : α → D} {tg : D → Sg → Hs → Res Sg} {ts : Sg → Hs → Res Bool} {el : Sg → Hs → Res D} {σ : Sg} {g : Hs} : ∀ {as : List α} {acc : List D}, acc.length + as.length ≤ sizeLine →
    (∀ a ∈ as, ∀ h, ∃ σ', tg (en a) σ h = .ok σ' h ∧ ts σ' h = .ok true h ∧ el σ' h = .ok (f a) h) →
    loopLC tg ts el σ g.length (as.map en) (g ++ [.lst acc]) = .ok () (g ++ [.lst (acc ++ as.map f)])
  | [], acc, _, _ => by simp [loopLC]
  | x :: xs, acc, hl, hx => by
    obtain ⟨σ', e1, e3, e4⟩ := hx x (List.mem_cons_self ..) (g ++ [.lst acc])
    have hx' := fun z hz => hx z (List.mem_cons_of_mem _ hz)
    simp only [List.length_cons] at hl
    simp only [List.map_cons, loopLC, e1, e3, e4, Res.bind, if_true]
    rw [push_ok (by omega)]
    simp only
    rw [loopLC_map (acc := acc ++ [f x]) (by simp; omega) hx']
    simp
theorem lc_map {α : Type} {en f : α → D} {T : Tab} {cl : Nat → List D → Hs → Res D} {own : List Nat} {elt : E} {g : G} {it : I} {c : OE} {σ : Sg} {h : Hs} {as : List α} (hi : evI T cl it σ h = .ok (.its (as.map en)) h) (hl : as.length ≤ sizeLine)
    (hx : ∀ a ∈ as, ∀ h, ∃ σ', evG T cl g (en a) (wipeM own σ) h = .ok σ' h ∧ evOT T cl c σ' h = .ok true h ∧ evE T cl elt σ' h = .ok (f a) h) (hn : ∀ a ∈ as, (f a).nr = true) :
    evE T cl (.lc true own elt g it c) σ h = .ok (.lst (as.map f)) h := by
  simp only [evE, hi, Res.bind]
  rw [loopLC_map (f := f) (acc := []) (by simpa using hl) hx]
  simp only [List.nil_append]
  exact back_list (fun y hy => by
    obtain ⟨a, ha, rfl⟩ := List.mem_map.mp hy
    exact hn a ha)
theorem pairs_map {α β : Type} {e1 : α → D} {e2 : β → D} : ∀ (as : List α) (bs : List β), pairs (as.map e1) (bs.map e2) = (as.zip bs).map fun p => .tup [e1 p.1, e2 p.2]
  | [], _ => by simp [pairs]
  | _ :: _, [] => by simp [pairs]
  | a :: as, b :: bs => by
    have := pairs_map (e1 := e1) (e2 := e2) as bs
    simp only [pairs] at this ⊢
    simp [this]
theorem big_nat (n : Nat) (h : n ≤ 1000000) : big (n : Int) = true := by
  unfold big
  exact Bool.and_eq_true_iff.mpr ⟨decide_eq_true (by omega), decide_eq_true (by omega)⟩
theorem rng_nat (n : Nat) : rngD 0 1 ((n : Int)).toNat = (List.range n).map fun (i : Nat) => D.int (i : Int) := by
  simp [rngD]
theorem evI_rng1 {T : Tab} {cl : Nat → List D → Hs → Res D} {a : E} {σ : Sg} {h h1 : Hs} {n : Nat} (e : evE T cl a σ h = .ok (.int n) h1) (hn : n ≤ 1000000) : evI T cl (.rng1 a) σ h = .ok (.its ((List.range n).map fun (i : Nat) => D.int (i : Int))) h1 := by
  have hb := big_nat n hn
  simp only [evI, e, Res.bind]
  rw [if_pos hb, rng_nat]
end MC

set_option Elab.async false
set_option linter.all false
set_option maxRecDepth 100000
set_option maxHeartbeats 1000000
namespace MP
open PySem PySem.Spec PyProof.Rows L2 MC
section
variable {T : Tab} {cl : Nat → List D → Hs → Res D} {σ σ1 σ2 : Sg} {h h1 h2 : Hs} {R : MC.R2}
theorem q_nil : evB T cl .nil σ h = .ok (.nx, σ) h := by simp only [evB]
theorem b_nx {s : S} {r : B} (e : evS T cl s σ h = .ok (.nx, σ1) h1) (e2 : evB T cl r σ1 h1 = R) : evB T cl (.cons s r) σ h = R := by
  simp only [evB, e, Res.bind]; exact e2
theorem b_rt {s : S} {r : B} {d : D} (e : evS T cl s σ h = .ok (.rt d, σ1) h1) : evB T cl (.cons s r) σ h = .ok (.rt d, σ1) h1 := by
  simp only [evB, e, Res.bind]
theorem b_bk {s : S} {r : B} (e : evS T cl s σ h = .ok (.bk, σ1) h1) : evB T cl (.cons s r) σ h = .ok (.bk, σ1) h1 := by
  simp only [evB, e, Res.bind]
theorem b_ret {e : E} {r : B} {d : D} (e1 : evE T cl e σ h = .ok d h1) : evB T cl (.cons (.ret e) r) σ h = .ok (.rt d, σ) h1 := by
  simp only [evB, evS, e1, Res.bind]
theorem s_ret {e : E} {d : D} (e1 : evE T cl e σ h = .ok d h1) : evS T cl (.ret e) σ h = .ok (.rt d, σ) h1 := by
  simp only [evS, e1, Res.bind]
theorem s_exp {a : E} {d : D} (e : evE T cl a σ h = .ok d h1) : evS T cl (.exp a) σ h = .ok (.nx, σ) h1 := by
  simp only [evS, e, Res.bind]
theorem s_asg {g : G} {a : E} {d : D} (e : evE T cl a σ h = .ok d h1) (e2 : evG T cl g d σ h1 = .ok σ1 h2) : evS T cl (.asg g a) σ h = .ok (.nx, σ1) h2 := by
  simp only [evS, e, e2, Res.bind]
theorem s_set {i : Nat} {a : E} {d : D} (e : evE T cl a σ h = .ok d h1) : evS T cl (.asg (.nm i) a) σ h = .ok (.nx, σ.set i (some d)) h1 := by
  simp only [evS, e, evG, Res.bind]
theorem s_par {i j : Nat} {a b : E} {d d' : D} (e : evE T cl a σ h = .ok d h1) (e2 : evE T cl b σ h1 = .ok d' h2) : evS T cl (.par i j a b) σ h = .ok (.nx, (σ.set i (some d)).set j (some d')) h2 := by
  simp only [evS, e, e2, Res.bind]
theorem s_ift {c : E} {t f : B} {d : D} (e : evE T cl c σ h = .ok d h1) (k : tru h1 d = some true) (e2 : evB T cl t σ h1 = R) : evS T cl (.ifs c t f) σ h = R := by
  simp only [evS, e, Res.bind, tst, k, Res.of, if_true, e2]
theorem s_iff {c : E} {t f : B} {d : D} (e : evE T cl c σ h = .ok d h1) (k : tru h1 d = some false) (e2 : evB T cl f σ h1 = R) : evS T cl (.ifs c t f) σ h = R := by
  simp only [evS, e, Res.bind, tst, k, Res.of, Bool.false_eq_true, if_false, e2]
theorem s_for {g : G} {it : I} {b : B} {xs : List D} (e : evI T cl it σ h = .ok (.its xs) h1) (e2 : loopF (evG T cl g) (evB T cl b) xs σ h1 = R) : evS T cl (.for_ g it b) σ h = R := by
  simp only [evS, e, Res.bind, e2]
theorem e_fn {f : Nat} {as : A} {xs : List D} {r : Res D} (e : evA T cl as σ h = .ok xs h1) (e2 : cl f xs h1 = r) : evE T cl (.fn f as) σ h = r := by
  simp only [evE, e, Res.bind, e2]
theorem e_not {a : E} {d : D} {k : Bool} (e : evE T cl a σ h = .ok d h1) (t : tru h1 d = some k) : evE T cl (.not a) σ h = .ok (.bl !k) h1 := by
  simp only [evE, e, Res.bind, t]
theorem e_andt {a b : E} {d : D} {r : Res D} (e : evE T cl a σ h = .ok d h1) (t : tru h1 d = some true) (e2 : evE T cl b σ h1 = r) : evE T cl (.and a b) σ h = r := by
  simp only [evE, e, Res.bind, t, e2]
theorem e_andf {a b : E} {d : D} (e : evE T cl a σ h = .ok d h1) (t : tru h1 d = some false) : evE T cl (.and a b) σ h = .ok d h1 := by
  simp only [evE, e, Res.bind, t]
theorem e_ort {a b : E} {d : D} (e : evE T cl a σ h = .ok d h1) (t : tru h1 d = some true) : evE T cl (.or a b) σ h = .ok d h1 := by
  simp only [evE, e, Res.bind, t]
theorem e_orf {a b : E} {d : D} {r : Res D} (e : evE T cl a σ h = .ok d h1) (t : tru h1 d = some false) (e2 : evE T cl b σ h1 = r) : evE T cl (.or a b) σ h = r := by
  simp only [evE, e, Res.bind, t, e2]
theorem e_itet {c a b : E} {d : D} {r : Res D} (e : evE T cl c σ h = .ok d h1) (t : tru h1 d = some true) (e2 : evE T cl a σ h1 = r) : evE T cl (.ite c a b) σ h = r := by
  simp only [evE, e, Res.bind, tst, t, Res.of, if_true, e2]
theorem e_itef {c a b : E} {d : D} {r : Res D} (e : evE T cl c σ h = .ok d h1) (t : tru h1 d = some false) (e2 : evE T cl b σ h1 = r) : evE T cl (.ite c a b) σ h = r := by
  simp only [evE, e, Res.bind, tst, t, Res.of, Bool.false_eq_true, if_false, e2]
theorem e_var {i : Nat} {d : D} (e : σ[i]? = some (some d)) : evE T cl (.var i) σ h = .ok d h := by simp only [evE, e]
theorem qa {e : E} {r : A} {d : D} {ds : List D} (e1 : evE T cl e σ h = .ok d h1) (e2 : evA T cl r σ h1 = .ok ds h2) : evA T cl (.cons e r) σ h = .ok (d :: ds) h2 := by
  simp only [evA, e1, e2, Res.bind]
theorem q0 : evA T cl .nil σ h = .ok [] h := by simp only [evA]
theorem e_bin {op : Operator} {a b : E} {x y d : D} (e1 : evE T cl a σ h = .ok x h1) (e2 : evE T cl b σ h1 = .ok y h2) (e3 : opBin h2 op x y = some d) : evE T cl (.bin op a b) σ h = .ok d h2 := by
  simp only [evE, e1, e2, e3, Res.bind, Res.of]
theorem e_cmp {op : CmpOp} {a b : E} {x y d : D} (e1 : evE T cl a σ h = .ok x h1) (e2 : evE T cl b σ h1 = .ok y h2) (e3 : opCmp h2 op x y = some d) : evE T cl (.cmp op a b) σ h = .ok d h2 := by
  simp only [evE, e1, e2, e3, Res.bind, Res.of]
theorem e_idx {a i : E} {x y d : D} (e1 : evE T cl a σ h = .ok x h1) (e2 : evE T cl i σ h1 = .ok y h2) (e3 : idxD h2 x y = some d) : evE T cl (.idx a i) σ h = .ok d h2 := by
  simp only [evE, e1, e2, e3, Res.bind, Res.of]
theorem e_tup {as : A} {xs : List D} (e : evA T cl as σ h = .ok xs h1) (hl : xs.length ≤ sizeLine) : evE T cl (.tup as) σ h = .ok (.tup xs) h1 := by
  simp only [evE, e, Res.bind, if_pos hl]
theorem e_bi {b : Bi} {as : A} {xs : List D} {d : D} (e : evA T cl as σ h = .ok xs h1) (e2 : biD h1 b xs = some d) : evE T cl (.bi b as) σ h = .ok d h1 := by
  simp only [evE, e, Res.bind, Res.of, e2]
theorem e_fld {a : E} {f c : Nat} {x d : D} {fs : List (Nat × D)} (e : evE T cl a σ h = .ok x h1) (e2 : x.fields h1 = some (c, fs)) (k : T.fok c f = true) (e3 : getF f fs = some d) : evE T cl (.fld a f) σ h = .ok d h1 := by
  simp only [evE, e, Res.bind, Res.of, e2, e3, k, if_true]
theorem e_mth {m c f : Nat} {a : E} {as : A} {x : D} {fs fs' : List (Nat × D)} {xs : List D} {r : Res D} (e : evE T cl a σ h = .ok x h1) (e2 : x.fields h1 = some (c, fs)) (e3 : getF m fs = none) (e4 : T.meth c m = some f) (e5 : evA T cl as σ h1 = .ok xs h2) (e6 : x.fields h2 = some (c, fs')) (e7 : cl f (x :: xs) h2 = r) : evE T cl (.mth m a as) σ h = r := by
  simp only [evE, e, Res.bind, e2, e3, e4, e5, e6, if_true, e7]
theorem e_prp {m c f : Nat} {a : E} {x : D} {fs : List (Nat × D)} {r : Res D} (e : evE T cl a σ h = .ok x h1) (e2 : x.fields h1 = some (c, fs)) (e4 : T.meth c m = some f) (e7 : cl f [x] h1 = r) : evE T cl (.prp m a) σ h = r := by
  simp only [evE, e, Res.bind, e2, e4, e7]
theorem e_cst {d : D} : evE T cl (.cst d) σ h = .ok d h := by simp only [evE]
theorem e_glo {x : Nat} {d : D} : evE T cl (.glo x d) σ h = .ok d h := by simp only [evE]
theorem s_brk : evS T cl .brk σ h = .ok (.bk, σ) h := by simp only [evS]
theorem s_cnt : evS T cl .cnt σ h = .ok (.ct, σ) h := by simp only [evS]
theorem s_pass : evS T cl .pass σ h = .ok (.nx, σ) h := by simp only [evS]
theorem e_nls {a : E} {x : D} {xs : List D} (e : evE T cl a σ h = .ok x h1) (e2 : x.seq h1 = some xs) : evE T cl (.nls a) σ h = .ok (.ref h1.length) (h1 ++ [.lst xs]) := by
  simp only [evE, e, Res.bind, e2]
theorem e_lstT {as : A} {xs : List D} (e : evA T cl as σ h = .ok xs h1) (hl : xs.length ≤ sizeLine) : evE T cl (.lst true as) σ h = .ok (.lst xs) h1 := by
  simp only [evE, e, Res.bind, if_pos hl, if_true]
theorem e_lstF {as : A} {xs : List D} (e : evA T cl as σ h = .ok xs h1) (hl : xs.length ≤ sizeLine) : evE T cl (.lst false as) σ h = .ok (.ref h1.length) (h1 ++ [.lst xs]) := by
  simp only [evE, e, Res.bind, if_pos hl, Bool.false_eq_true, if_false]
theorem e_slc01 {a b : E} {x d : D} {u : Int} (e : evE T cl a σ h = .ok x h1) (e2 : evE T cl b σ h1 = .ok (.int u) h2) (e3 : slcD h2 x none (some u) = some d) : evE T cl (.slc a .none (.some b)) σ h = .ok d h2 := by
  simp only [evE, evOE, e, e2, e3, Res.bind, Res.of]
theorem e_slc10 {a b : E} {x d : D} {u : Int} (e : evE T cl a σ h = .ok x h1) (e2 : evE T cl b σ h1 = .ok (.int u) h2) (e3 : slcD h2 x (some u) none = some d) : evE T cl (.slc a (.some b) .none) σ h = .ok d h2 := by
  simp only [evE, evOE, e, e2, e3, Res.bind, Res.of]
theorem e_chnt {o1 o2 : CmpOp} {a b c : E} {x y z d : D} {h3 : Hs} (e1 : evE T cl a σ h = .ok x h1) (e2 : evE T cl b σ h1 = .ok y h2) (e3 : opCmp h2 o1 x y = some (.bl true)) (e4 : evE T cl c σ h2 = .ok z h3) (e5 : opCmp h3 o2 y z = some d) : evE T cl (.chn o1 o2 a b c) σ h = .ok d h3 := by
  simp only [evE, e1, e2, e3, e4, e5, Res.bind, Res.of]
theorem e_chnf {o1 o2 : CmpOp} {a b c : E} {x y : D} (e1 : evE T cl a σ h = .ok x h1) (e2 : evE T cl b σ h1 = .ok y h2) (e3 : opCmp h2 o1 x y = some (.bl false)) : evE T cl (.chn o1 o2 a b c) σ h = .ok (.bl false) h2 := by
  simp only [evE, e1, e2, e3, Res.bind]
theorem e_isi {a : E} {ts : List Ty} {x : D} (e : evE T cl a σ h = .ok x h1) (k : (tyOk T.cok h1 x && ts.all (tyIn T.cok)) = true) : evE T cl (.isi a ts) σ h = .ok (.bl (ts.any (isTy h1 x))) h1 := by
  simp only [evE, e, Res.bind, k, if_true]
theorem e_app {a b : E} {n : Nat} {x : D} {xs : List D} {h3 : Hs} (e : evE T cl a σ h = .ok (.ref n) h1) (e1 : (D.ref n).lseq h1 = some xs) (e2 : evE T cl b σ h1 = .ok x h2) (e3 : h2[n]? = some (.lst xs)) (hl : xs.length < sizeLine) (e4 : h2.set n (.lst (xs ++ [x])) = h3) : evE T cl (.bm .append a (.cons b .nil)) σ h = .ok .non h3 := by
  simp only [evE, evA, e, e1, e2, Res.bind, bmD, e3, if_pos hl, setO, e4]
theorem e_ieq {a b : E} {x y : D} {c f : Nat} {fs gs : List (Nat × D)} {r : Bool} {h3 : Hs} (e1 : evE T cl a σ h = .ok x h1) (e2 : evE T cl b σ h1 = .ok y h2) (e3 : x.fields h2 = some (c, fs)) (e4 : y.fields h2 = some (c, gs)) (e5 : T.meth c T.eq = some f) (e6 : cl f [x, y] h2 = .ok (.bl r) h3) : evE T cl (.ieq a b) σ h = .ok (.bl r) h3 := by
  simp only [evE, e1, e2, e3, e4, e5, e6, Res.bind, if_true]
theorem e_iln {a : E} {x : D} {c f : Nat} {fs : List (Nat × D)} {i : Int} {h3 : Hs} (e1 : evE T cl a σ h = .ok x h1) (e3 : x.fields h1 = some (c, fs)) (e5 : T.meth c T.len = some f) (e6 : cl f [x] h1 = .ok (.int i) h3) (k : (decide (0 ≤ i) && decide (i < 2 ^ 62)) = true) : evE T cl (.iln a) σ h = .ok (.int i) h3 := by
  simp only [evE, e1, e3, e5, e6, Res.bind, k, if_true]
theorem e_mk {c sh f : Nat} {fz : Bool} {as ks : A} {xs ys zs : List D} {h3 : Hs} {r : Res D} (e1 : evA T cl as σ h = .ok xs h1) (e2 : evA T cl ks σ h1 = .ok ys h2) (e3 : T.init c = some (f, fz)) (e4 : T.shape sh xs ys = some zs) (e5 : cl f (.ref h2.length :: zs) (h2 ++ [.ins c []]) = .ok .non h3) (e6 : back fz h2 (.ref h2.length) h3 = r) : evE T cl (.mk c sh as ks) σ h = r := by
  simp only [evE, e1, e2, e3, e4, e5, e6, Res.bind]
theorem g_att {a : E} {f n c : Nat} {d : D} {fs : List (Nat × D)} {h3 : Hs} (e : evE T cl a σ h = .ok (.ref n) h1) (e1 : h1[n]? = some (.ins c fs)) (k : (T.fok c f && decide (fs.length < 900)) = true) (e2 : h1.set n (.ins c (putF f d fs)) = h3) : evG T cl (.att a f) d σ h = .ok σ h3 := by
  simp only [evG, e, e1, Res.bind, k, if_true, setO, e2]
theorem g_sub {a i : E} {n j : Nat} {d : D} {k : Int} {xs : List D} {h3 : Hs} (e : evE T cl a σ h = .ok (.ref n) h1) (e1 : evE T cl i σ h1 = .ok (.int k) h2) (e2 : h2[n]? = some (.lst xs)) (e3 : L2.ixN xs.length k = some j) (e4 : h2.set n (.lst (xs.set j d)) = h3) : evG T cl (.sub a i) d σ h = .ok σ h3 := by
  simp only [evG, e, e1, Res.bind, e2, e3, setO, e4]
theorem qs {e : E} {r : A} {d : D} {ys ds : List D} (e1 : evE T cl e σ h = .ok d h1) (e3 : d.seq h1 = some ys) (e2 : evA T cl r σ h1 = .ok ds h2) : evA T cl (.star e r) σ h = .ok (ys ++ ds) h2 := by
  simp only [evA, e1, e2, e3, Res.bind]
end
theorem lc_step {tg : D → Sg → Hs → Res Sg} {ts : Sg → Hs → Res Bool} {el : Sg → Hs → Res D} {σ σ' : Sg} {n : Nat} {x y : D} {xs : List D} {h h1 h2 h3 h4 : Hs} {r : Res Unit} (e1 : tg x σ h = .ok σ' h1) (e2 : ts σ' h1 = .ok true h2) (e3 : el σ' h2 = .ok y h3) (e4 : pushM n y h3 = .ok () h4) (e5 : loopLC tg ts el σ n xs h4 = r) : loopLC tg ts el σ n (x :: xs) h = r := by
  simp only [loopLC, e1, e2, e3, e4, Res.bind, if_true]
  exact e5
theorem g_nm {T : Tab} {cl : Nat → List D → Hs → Res D} {i : Nat} {d : D} {σ : Sg} {h : Hs} : evG T cl (.nm i) d σ h = .ok (σ.set i (some d)) h := by simp only [evG]
theorem ot_none {T : Tab} {cl : Nat → List D → Hs → Res D} {σ : Sg} {h : Hs} : evOT T cl .none σ h = .ok true h := by simp only [evOT]
theorem f_nx {tg : D → Sg → Hs → Res Sg} {bd : Sg → Hs → MC.R2} {σ σ1 σ2 : Sg} {x : D} {xs : List D} {h h1 h2 : Hs} {r : MC.R2} (e1 : tg x σ h = .ok σ1 h1) (e2 : bd σ1 h1 = .ok (.nx, σ2) h2) (e3 : loopF tg bd xs σ2 h2 = r) : loopF tg bd (x :: xs) σ h = r := by
  simp only [loopF, e1, e2, Res.bind]
  exact e3
theorem f_nil {tg : D → Sg → Hs → Res Sg} {bd : Sg → Hs → MC.R2} {σ : Sg} {h : Hs} : loopF tg bd [] σ h = .ok (.nx, σ) h := by simp only [loopF]
end MP

set_option Elab.async false
set_option linter.all false
set_option maxRecDepth 100000
set_option maxHeartbeats 0
namespace K02
open PySem PySem.Spec PyProof.Rows L2 He MC
/-! ### the program, in the core -/
def f_is_integer : Fn := ⟨3, 3, (.cons (.ret (.and (.isi (.var 0) [.int]) (.and (.not (.isi (.var 0) [.bool])) (.chn .LtE .LtE (.var 1) (.var 0) (.var 2))))) .nil), true⟩
def f_is_word : Fn := ⟨2, 2, (.cons (.ret (.and (.isi (.var 0) [.str]) (.cmp .In (.var 0) (.var 1)))) .nil), true⟩
def f_is_part : Fn := ⟨1, 1, (.cons (.ifs (.or (.not (.isi (.var 0) [.tuple])) (.cmp .NotIn (.bi .len (.cons (.var 0) .nil)) (.tup (.cons (.cst (.int 2)) (.cons (.cst (.int 3)) .nil))))) (.cons (.ret (.cst (.bl false))) .nil) .nil) (.cons (.ifs (.cmp .Eq (.bi .len (.cons (.var 0) .nil)) (.cst (.int 2))) (.cons (.ret (.and (.fn 2 (.cons (.idx (.var 0) (.cst (.int 0))) (.cons (.tup (.cons (.cst (.str (Str.ofString "gap"))) .nil)) .nil))) (.fn 1 (.cons (.idx (.var 0) (.cst (.int 1))) (.cons (.cst (.int 1)) (.cons (.glo 4 (.int 6)) .nil)))))) .nil) .nil) (.cons (.ifs (.not (.fn 2 (.cons (.idx (.var 0) (.cst (.int 0))) (.cons (.tup (.cons (.cst (.str (Str.ofString "bucket"))) (.cons (.cst (.str (Str.ofString "window"))) (.cons (.cst (.str (Str.ofString "slide"))) .nil)))) .nil)))) (.cons (.ret (.cst (.bl false))) .nil) .nil) (.cons (.ret (.and (.fn 1 (.cons (.idx (.var 0) (.cst (.int 1))) (.cons (.cst (.int 1)) (.cons (.glo 1 (.int 4)) .nil)))) (.fn 1 (.cons (.idx (.var 0) (.cst (.int 2))) (.cons (.cst (.int 1)) (.cons (.glo 4 (.int 6)) .nil)))))) .nil)))), true⟩
def f_is_link : Fn := ⟨1, 1, (.cons (.ret (.and (.isi (.var 0) [.tuple]) (.and (.cmp .Eq (.bi .len (.cons (.var 0) .nil)) (.cst (.int 2))) (.and (.fn 2 (.cons (.idx (.var 0) (.cst (.int 0))) (.cons (.glo 5 (.tup [(.str (Str.ofString "all")), (.str (Str.ofString "each"))])) .nil))) (.fn 3 (.cons (.idx (.var 0) (.cst (.int 1))) .nil)))))) .nil), true⟩
def c_Chain_init_1 : E := (.lc true [4] (.fn 4 (.cons (.var 4) .nil)) (.nm 4) (.val (.var 1)) .none)
def f_Chain_init : Fn := ⟨4, 5, (.cons (.ifs (.or (.not (.isi (.var 1) [.tuple])) (.or (.not (.chn .LtE .LtE (.cst (.int 1)) (.bi .len (.cons (.var 1) .nil)) (.glo 2 (.int 3)))) (.not (.bi .all (.cons c_Chain_init_1 .nil))))) (.cons .never .nil) .nil) (.cons (.ifs (.not (.fn 1 (.cons (.var 2) (.cons (.cst (.int 1)) (.cons (.glo 0 (.int 2)) .nil))))) (.cons .never .nil) .nil) (.cons (.ifs (.not (.isi (.var 3) [.bool])) (.cons .never .nil) .nil) (.cons (.asg (.att (.var 0) 28) (.var 1)) (.cons (.asg (.att (.var 0) 16) (.var 2)) (.cons (.asg (.att (.var 0) 15) (.var 3)) .nil)))))), false⟩
def f_Chain_links : Fn := ⟨1, 1, (.cons (.ret (.fld (.var 0) 28)) .nil), true⟩
def f_Chain_callers : Fn := ⟨1, 1, (.cons (.ret (.fld (.var 0) 16)) .nil), true⟩
def f_Chain_charges : Fn := ⟨1, 1, (.cons (.ret (.fld (.var 0) 15)) .nil), true⟩
def f_Chain_eq : Fn := ⟨2, 2, (.cons (.ret (.and (.isi (.var 1) [(.own 4)]) (.cmp .Eq (.mth 11 (.var 0) .nil) (.mth 11 (.var 1) .nil)))) .nil), true⟩
def f_Chain_all_parts : Fn := ⟨1, 1, (.cons (.ret (.lst true (.cons (.fld (.var 0) 28) (.cons (.fld (.var 0) 16) (.cons (.fld (.var 0) 15) .nil))))) .nil), true⟩
def f_check_chain : Fn := ⟨1, 1, (.cons (.ifs (.not (.isi (.var 0) [(.own 4)])) (.cons .never .nil) .nil) .nil), true⟩
def c_events_of_1 : E := (.lc true [1] (.tup (.cons (.cst (.str (Str.ofString "ask"))) (.cons (.var 1) .nil))) (.nm 1) (.rng1 (.fld (.var 0) 16)) .none)
def f_events_of : Fn := ⟨1, 2, (.cons (.ret (.lst true (.cons (.glo 6 (.tup [(.str (Str.ofString "tick"))])) (.star c_events_of_1 .nil)))) .nil), true⟩
def f_first_of : Fn := ⟨1, 1, (.cons (.mat (.idx (.var 0) (.cst (.int 0))) (.cons (Str.ofString "bucket") (.cons (.ret (.tup (.cons (.idx (.var 0) (.cst (.int 1))) (.cons (.cst (.int 0)) .nil)))) .nil) (.cons (Str.ofString "window") (.cons (.ret (.tup (.cons (.cst (.int 0)) (.cons (.cst (.int 0)) .nil)))) .nil) (.cons (Str.ofString "slide") (.cons (.ret (.tup .nil)) .nil) .nil)))) (.cons (.ret (.cst (.int 0))) .nil)), true⟩
def c_ticked_1 : E := (.lc true [5] (.bin .Add (.var 5) (.cst (.int 1))) (.nm 5) (.val (.var 1)) (.some (.cmp .Lt (.bin .Add (.var 5) (.cst (.int 1))) (.idx (.var 0) (.cst (.int 2))))))
def f_ticked : Fn := ⟨2, 6, (.cons (.mat (.idx (.var 0) (.cst (.int 0))) (.cons (Str.ofString "bucket") (.cons (.asg (.tup (.cons (.nm 2) (.cons (.nm 3) .nil))) (.var 1)) (.cons (.ret (.ite (.cmp .Eq (.bin .Add (.var 3) (.cst (.int 1))) (.idx (.var 0) (.cst (.int 2)))) (.tup (.cons (.bi .min2 (.cons (.idx (.var 0) (.cst (.int 1))) (.cons (.bin .Add (.var 2) (.cst (.int 1))) .nil))) (.cons (.cst (.int 0)) .nil))) (.tup (.cons (.var 2) (.cons (.bin .Add (.var 3) (.cst (.int 1))) .nil))))) .nil)) (.cons (Str.ofString "window") (.cons (.asg (.tup (.cons (.nm 4) (.cons (.nm 3) .nil))) (.var 1)) (.cons (.ret (.ite (.cmp .Eq (.bin .Add (.var 3) (.cst (.int 1))) (.idx (.var 0) (.cst (.int 2)))) (.tup (.cons (.cst (.int 0)) (.cons (.cst (.int 0)) .nil))) (.tup (.cons (.var 4) (.cons (.bin .Add (.var 3) (.cst (.int 1))) .nil))))) .nil)) (.cons (Str.ofString "slide") (.cons (.ret (.bi .tuple (.cons c_ticked_1 .nil))) .nil) .nil)))) (.cons (.ret (.bi .max2 (.cons (.cst (.int 0)) (.cons (.bin .Sub (.var 1) (.cst (.int 1))) .nil)))) .nil)), true⟩
def f_does_let : Fn := ⟨2, 2, (.cons (.mat (.idx (.var 0) (.cst (.int 0))) (.cons (Str.ofString "bucket") (.cons (.ret (.cmp .Gt (.idx (.var 1) (.cst (.int 0))) (.cst (.int 0)))) .nil) (.cons (Str.ofString "window") (.cons (.ret (.cmp .Lt (.idx (.var 1) (.cst (.int 0))) (.idx (.var 0) (.cst (.int 1))))) .nil) (.cons (Str.ofString "slide") (.cons (.ret (.cmp .Lt (.bi .len (.cons (.var 1) .nil)) (.idx (.var 0) (.cst (.int 1))))) .nil) .nil)))) (.cons (.ret (.cmp .Eq (.var 1) (.cst (.int 0)))) .nil)), true⟩
def f_counted : Fn := ⟨2, 2, (.cons (.mat (.idx (.var 0) (.cst (.int 0))) (.cons (Str.ofString "bucket") (.cons (.ret (.tup (.cons (.bin .Sub (.idx (.var 1) (.cst (.int 0))) (.cst (.int 1))) (.cons (.idx (.var 1) (.cst (.int 1))) .nil)))) .nil) (.cons (Str.ofString "window") (.cons (.ret (.tup (.cons (.bin .Add (.idx (.var 1) (.cst (.int 0))) (.cst (.int 1))) (.cons (.idx (.var 1) (.cst (.int 1))) .nil)))) .nil) (.cons (Str.ofString "slide") (.cons (.ret (.tup (.star (.var 1) (.cons (.cst (.int 0)) .nil)))) .nil) .nil)))) (.cons (.ret (.idx (.var 0) (.cst (.int 1)))) .nil)), true⟩
def g_first_state_1 : G := (.tup (.cons (.nm 2) (.cons (.nm 3) .nil)))
def b_first_state_1 : B := (.cons (.exp (.bm .append (.var 1) (.cons (.ite (.cmp .Eq (.var 2) (.cst (.str (Str.ofString "all")))) (.fn 13 (.cons (.var 3) .nil)) (.bin .Mult (.tup (.cons (.fn 13 (.cons (.var 3) .nil)) .nil)) (.fld (.var 0) 16))) .nil))) .nil)
def f_first_state : Fn := ⟨1, 4, (.cons (.asg (.nm 1) (.lst false .nil)) (.cons (.for_ g_first_state_1 (.val (.fld (.var 0) 28)) b_first_state_1) (.cons (.ret (.bi .tuple (.cons (.var 1) .nil))) .nil))), true⟩
def g_after_tick_1 : G := (.tup (.cons (.tup (.cons (.nm 3) (.cons (.nm 4) .nil))) (.cons (.nm 5) .nil)))
def c_after_tick_1 : E := (.lc true [6] (.fn 14 (.cons (.var 4) (.cons (.var 6) .nil))) (.nm 6) (.val (.var 5)) .none)
def b_after_tick_1 : B := (.cons (.exp (.bm .append (.var 2) (.cons (.ite (.cmp .Eq (.var 3) (.cst (.str (Str.ofString "all")))) (.fn 14 (.cons (.var 4) (.cons (.var 5) .nil))) (.bi .tuple (.cons c_after_tick_1 .nil))) .nil))) .nil)
def f_after_tick : Fn := ⟨2, 7, (.cons (.asg (.nm 2) (.lst false .nil)) (.cons (.for_ g_after_tick_1 (.zip (.fld (.var 0) 28) (.var 1)) b_after_tick_1) (.cons (.ret (.bi .tuple (.cons (.var 2) .nil))) .nil))), true⟩
def f_lets_at : Fn := ⟨4, 6, (.cons (.asg (.tup (.cons (.nm 4) (.cons (.nm 5) .nil))) (.idx (.fld (.var 0) 28) (.var 2))) (.cons (.ret (.fn 15 (.cons (.var 5) (.cons (.ite (.cmp .Eq (.var 4) (.cst (.str (Str.ofString "all")))) (.idx (.var 1) (.var 2)) (.idx (.idx (.var 1) (.var 2)) (.var 3))) .nil)))) .nil)), true⟩
def f_counted_at : Fn := ⟨4, 8, (.cons (.asg (.tup (.cons (.nm 4) (.cons (.nm 5) .nil))) (.idx (.fld (.var 0) 28) (.var 2))) (.cons (.asg (.nm 6) (.idx (.var 1) (.var 2))) (.cons (.ifs (.cmp .Eq (.var 4) (.cst (.str (Str.ofString "all")))) (.cons (.asg (.nm 7) (.fn 16 (.cons (.var 5) (.cons (.var 6) .nil)))) .nil) (.cons (.asg (.nm 7) (.tup (.star (.slc (.var 6) .none (.some (.var 3))) (.cons (.fn 16 (.cons (.var 5) (.cons (.idx (.var 6) (.var 3)) .nil))) (.star (.slc (.var 6) (.some (.bin .Add (.var 3) (.cst (.int 1)))) .none) .nil))))) .nil)) (.cons (.ret (.tup (.star (.slc (.var 1) .none (.some (.var 2))) (.cons (.var 7) (.star (.slc (.var 1) (.some (.bin .Add (.var 2) (.cst (.int 1)))) .none) .nil))))) .nil)))), true⟩
def c_answer_at_1 : E := (.lc true [3] (.fn 19 (.cons (.var 0) (.cons (.var 1) (.cons (.var 3) (.cons (.var 2) .nil))))) (.nm 3) (.rng1 (.bi .len (.cons (.fld (.var 0) 28) .nil))) .none)
def f_answer_at : Fn := ⟨3, 4, (.cons (.ret (.bi .all (.cons c_answer_at_1 .nil))) .nil), true⟩
def g_after_ask_1 : G := (.nm 4)
def b_after_ask_1 : B := (.cons (.ifs (.not (.fn 19 (.cons (.var 0) (.cons (.var 1) (.cons (.var 4) (.cons (.var 2) .nil)))))) (.cons (.ret (.tup (.cons (.cst (.bl false)) (.cons (.var 1) .nil)))) .nil) .nil) (.cons (.asg (.nm 1) (.fn 20 (.cons (.var 0) (.cons (.var 1) (.cons (.var 4) (.cons (.var 2) .nil)))))) .nil))
def f_after_ask : Fn := ⟨3, 5, (.cons (.asg (.nm 3) (.fn 21 (.cons (.var 0) (.cons (.var 1) (.cons (.var 2) .nil))))) (.cons (.ifs (.and (.not (.var 3)) (.not (.fld (.var 0) 15))) (.cons (.ret (.tup (.cons (.cst (.bl false)) (.cons (.var 1) .nil)))) .nil) .nil) (.cons (.for_ g_after_ask_1 (.rng1 (.bi .len (.cons (.fld (.var 0) 28) .nil))) b_after_ask_1) (.cons (.ret (.tup (.cons (.cst (.bl true)) (.cons (.var 1) .nil)))) .nil)))), true⟩
def f_after_event : Fn := ⟨3, 3, (.cons (.ret (.ite (.cmp .Eq (.var 2) (.glo 6 (.tup [(.str (Str.ofString "tick"))]))) (.tup (.cons (.cst .non) (.cons (.fn 18 (.cons (.var 0) (.cons (.var 1) .nil))) .nil))) (.fn 22 (.cons (.var 0) (.cons (.var 1) (.cons (.idx (.var 2) (.cst (.int 1))) .nil)))))) .nil), true⟩
def f_check_two : Fn := ⟨2, 2, (.cons (.exp (.fn 11 (.cons (.var 0) .nil))) (.cons (.exp (.fn 11 (.cons (.var 1) .nil))) (.cons (.ifs (.cmp .NotEq (.fld (.var 0) 16) (.fld (.var 1) 16)) (.cons .never .nil) .nil) .nil))), true⟩
def g_steps_from_1 : G := (.nm 4)
def b_steps_from_1 : B := (.cons (.asg (.tup (.cons (.nm 5) (.cons (.nm 6) .nil))) (.fn 23 (.cons (.var 0) (.cons (.idx (.var 2) (.cst (.int 0))) (.cons (.var 4) .nil))))) (.cons (.asg (.tup (.cons (.nm 7) (.cons (.nm 8) .nil))) (.fn 23 (.cons (.var 1) (.cons (.idx (.var 2) (.cst (.int 1))) (.cons (.var 4) .nil))))) (.cons (.exp (.bm .append (.var 3) (.cons (.tup (.cons (.var 4) (.cons (.var 5) (.cons (.var 7) (.cons (.tup (.cons (.var 6) (.cons (.var 8) .nil))) .nil))))) .nil))) .nil)))
def f_steps_from : Fn := ⟨3, 9, (.cons (.asg (.nm 3) (.lst false .nil)) (.cons (.for_ g_steps_from_1 (.val (.fn 12 (.cons (.var 0) .nil))) b_steps_from_1) (.cons (.ret (.var 3)) .nil))), true⟩
def f_breaks_within : Fn := ⟨2, 2, (.cons (.ret (.and (.isb false (.var 0) (.cst (.bl true))) (.isb false (.var 1) (.cst (.bl false))))) .nil), true⟩
def f_breaks_alike : Fn := ⟨2, 2, (.cons (.ret (.cmp .NotEq (.var 0) (.var 1))) .nil), true⟩
def f_goes_on : Fn := ⟨2, 2, (.cons (.ret (.or (.var 1) (.isb true (.var 0) (.cst (.bl false))))) .nil), true⟩
def f_Comparison_init : Fn := ⟨4, 6, (.cons (.asg (.att (.var 0) 23) (.var 1)) (.cons (.asg (.att (.var 0) 24) (.var 2)) (.cons (.asg (.att (.var 0) 20) (.var 3)) (.cons (.asg (.nm 4) (.tup (.cons (.fn 17 (.cons (.var 1) .nil)) (.cons (.fn 17 (.cons (.var 2) .nil)) .nil)))) (.cons (.asg (.att (.var 0) 18) (.done (.var 4) (.tup .nil))) (.cons (.asg (.att (.var 0) 17) (.cst .non)) (.cons (.asg (.nm 5) (.lst true (.cons (.var 4) .nil))) (.cons (.whl (.and (.cmp .NotEq (.var 5) (.lst true .nil)) (.cmp .Is (.fld (.var 0) 17) (.cst .non))) (.cons (.asg (.nm 5) (.mth 22 (.var 0) (.cons (.var 5) .nil))) .nil)) .nil)))))))), false⟩
def g_Comparison_next_layer_1 : G := (.nm 3)
def g_Comparison_next_layer_2 : G := (.tup (.cons (.nm 4) (.cons (.nm 5) (.cons (.nm 6) (.cons (.nm 7) .nil)))))
def b_Comparison_next_layer_1 : B := (.cons (.ifs (.ite (.fld (.var 0) 20) (.fn 27 (.cons (.var 5) (.cons (.var 6) .nil))) (.fn 26 (.cons (.var 5) (.cons (.var 6) .nil)))) (.cons (.asg (.att (.var 0) 17) (.tup (.star (.dget (.fld (.var 0) 18) (.var 3)) (.cons (.var 4) .nil)))) (.cons (.ret (.lst true .nil)) .nil)) .nil) (.cons (.ifs (.and (.fn 28 (.cons (.var 5) (.cons (.fld (.var 0) 20) .nil))) (.and (.din true (.var 7) (.fld (.var 0) 18)) (.din true (.var 7) (.var 2)))) (.cons (.asg (.dsub (.var 2) (.var 7)) (.tup (.star (.dget (.fld (.var 0) 18) (.var 3)) (.cons (.var 4) .nil)))) .nil) .nil) .nil))
def b_Comparison_next_layer_2 : B := (.cons (.for_ g_Comparison_next_layer_2 (.val (.fn 25 (.cons (.fld (.var 0) 23) (.cons (.fld (.var 0) 24) (.cons (.var 3) .nil))))) b_Comparison_next_layer_1) .nil)
def f_Comparison_next_layer : Fn := ⟨2, 8, (.cons (.asg (.nm 2) .dnew) (.cons (.for_ g_Comparison_next_layer_1 (.val (.var 1)) b_Comparison_next_layer_2) (.cons (.exp (.dupd (.fld (.var 0) 18) (.var 2))) (.cons (.ifs (.cmp .Gt (.dlen (.fld (.var 0) 18)) (.glo 3 (.int 3000))) (.cons .never .nil) .nil) (.cons (.ret (.dlst true (.var 2))) .nil))))), true⟩
def c_is_closed_1 : E := (.dcm true [5] (.var 5) (.cst (.bl true)) (.nm 5) (.val (.var 2)) .none)
def g_is_closed_1 : G := (.nm 5)
def g_is_closed_2 : G := (.tup (.cons (.nm 6) (.cons (.nm 7) (.cons (.nm 8) (.cons (.nm 9) .nil)))))
def b_is_closed_1 : B := (.cons (.ifs (.ite (.var 3) (.fn 27 (.cons (.var 7) (.cons (.var 8) .nil))) (.fn 26 (.cons (.var 7) (.cons (.var 8) .nil)))) (.cons (.ret (.cst (.bl false))) .nil) .nil) (.cons (.ifs (.and (.fn 28 (.cons (.var 7) (.cons (.var 3) .nil))) (.din true (.var 9) (.var 4))) (.cons (.ret (.cst (.bl false))) .nil) .nil) .nil))
def b_is_closed_2 : B := (.cons (.for_ g_is_closed_2 (.val (.fn 25 (.cons (.var 0) (.cons (.var 1) (.cons (.var 5) .nil))))) b_is_closed_1) .nil)
def f_is_closed : Fn := ⟨4, 10, (.cons (.asg (.nm 4) c_is_closed_1) (.cons (.ifs (.din true (.tup (.cons (.fn 17 (.cons (.var 0) .nil)) (.cons (.fn 17 (.cons (.var 1) .nil)) .nil))) (.var 4)) (.cons (.ret (.cst (.bl false))) .nil) .nil) (.cons (.for_ g_is_closed_1 (.dkeys (.var 4)) b_is_closed_2) (.cons (.ret (.cst (.bl true))) .nil)))), true⟩
def g_is_parting_1 : G := (.nm 6)
def b_is_parting_1 : B := (.cons (.asg (.tup (.cons (.nm 7) (.cons (.nm 8) .nil))) (.fn 23 (.cons (.var 0) (.cons (.idx (.var 4) (.cst (.int 0))) (.cons (.var 6) .nil))))) (.cons (.asg (.tup (.cons (.nm 9) (.cons (.nm 10) .nil))) (.fn 23 (.cons (.var 1) (.cons (.idx (.var 4) (.cst (.int 1))) (.cons (.var 6) .nil))))) (.cons (.ifs (.or (.var 5) (.not (.fn 28 (.cons (.var 7) (.cons (.var 3) .nil))))) (.cons (.ret (.cst (.bl false))) .nil) .nil) (.cons (.asg (.nm 5) (.ite (.var 3) (.fn 27 (.cons (.var 7) (.cons (.var 9) .nil))) (.fn 26 (.cons (.var 7) (.cons (.var 9) .nil))))) (.cons (.asg (.nm 4) (.tup (.cons (.var 8) (.cons (.var 10) .nil)))) .nil)))))
def f_is_parting : Fn := ⟨4, 11, (.cons (.par 4 5 (.tup (.cons (.fn 17 (.cons (.var 0) .nil)) (.cons (.fn 17 (.cons (.var 1) .nil)) .nil))) (.cst (.bl false))) (.cons (.for_ g_is_parting_1 (.val (.var 2)) b_is_parting_1) (.cons (.ret (.var 5)) .nil))), true⟩
def f_Within_init : Fn := ⟨2, 2, (.cons (.asg (.att (.var 0) 25) (.bi .list (.cons (.var 1) .nil))) .nil), false⟩
def f_Within_eq : Fn := ⟨2, 2, (.cons (.ret (.and (.isi (.var 1) [(.own 6)]) (.cmp .Eq (.fld (.var 0) 25) (.fld (.var 1) 25)))) .nil), true⟩
def f_Within_shows : Fn := ⟨3, 3, (.cons (.exp (.fn 24 (.cons (.var 1) (.cons (.var 2) .nil)))) (.cons (.ret (.fn 31 (.cons (.var 1) (.cons (.var 2) (.cons (.fld (.var 0) 25) (.cons (.cst (.bl false)) .nil)))))) .nil)), true⟩
def f_Escapes_init : Fn := ⟨2, 2, (.cons (.asg (.att (.var 0) 19) (.var 1)) .nil), false⟩
def f_Escapes_eq : Fn := ⟨2, 2, (.cons (.ret (.and (.isi (.var 1) [(.own 7)]) (.cmp .Eq (.fld (.var 0) 19) (.fld (.var 1) 19)))) .nil), true⟩
def f_Escapes_shows : Fn := ⟨3, 3, (.cons (.exp (.fn 24 (.cons (.var 1) (.cons (.var 2) .nil)))) (.cons (.ret (.fn 32 (.cons (.var 1) (.cons (.var 2) (.cons (.fld (.var 0) 19) (.cons (.cst (.bl false)) .nil)))))) .nil)), true⟩
def f_Alike_init : Fn := ⟨2, 2, (.cons (.asg (.att (.var 0) 25) (.bi .list (.cons (.var 1) .nil))) .nil), false⟩
def f_Alike_eq : Fn := ⟨2, 2, (.cons (.ret (.and (.isi (.var 1) [(.own 8)]) (.cmp .Eq (.fld (.var 0) 25) (.fld (.var 1) 25)))) .nil), true⟩
def f_Alike_shows : Fn := ⟨3, 3, (.cons (.exp (.fn 24 (.cons (.var 1) (.cons (.var 2) .nil)))) (.cons (.ret (.fn 31 (.cons (.var 1) (.cons (.var 2) (.cons (.fld (.var 0) 25) (.cons (.cst (.bl true)) .nil)))))) .nil)), true⟩
def f_Apart_init : Fn := ⟨2, 2, (.cons (.asg (.att (.var 0) 19) (.var 1)) .nil), false⟩
def f_Apart_eq : Fn := ⟨2, 2, (.cons (.ret (.and (.isi (.var 1) [(.own 9)]) (.cmp .Eq (.fld (.var 0) 19) (.fld (.var 1) 19)))) .nil), true⟩
def f_Apart_shows : Fn := ⟨3, 3, (.cons (.exp (.fn 24 (.cons (.var 1) (.cons (.var 2) .nil)))) (.cons (.ret (.fn 32 (.cons (.var 1) (.cons (.var 2) (.cons (.fld (.var 0) 19) (.cons (.cst (.bl true)) .nil)))))) .nil)), true⟩
def f_within : Fn := ⟨2, 3, (.cons (.exp (.fn 24 (.cons (.var 0) (.cons (.var 1) .nil)))) (.cons (.asg (.nm 2) (.mk 5 0 (.cons (.var 0) (.cons (.var 1) (.cons (.cst (.bl false)) .nil))) .nil)) (.cons (.ret (.ite (.cmp .Is (.fld (.var 2) 17) (.cst .non)) (.mk 6 1 (.cons (.dlst true (.fld (.var 2) 18)) .nil) .nil) (.mk 7 1 (.cons (.fld (.var 2) 17) .nil) .nil))) .nil))), true⟩
def f_is_within : Fn := ⟨2, 2, (.cons (.ret (.isi (.fn 45 (.cons (.var 0) (.cons (.var 1) .nil))) [(.own 6)])) .nil), true⟩
def f_alike : Fn := ⟨2, 3, (.cons (.exp (.fn 24 (.cons (.var 0) (.cons (.var 1) .nil)))) (.cons (.asg (.nm 2) (.mk 5 0 (.cons (.var 0) (.cons (.var 1) (.cons (.cst (.bl true)) .nil))) .nil)) (.cons (.ret (.ite (.cmp .Is (.fld (.var 2) 17) (.cst .non)) (.mk 8 1 (.cons (.dlst true (.fld (.var 2) 18)) .nil) .nil) (.mk 9 1 (.cons (.fld (.var 2) 17) .nil) .nil))) .nil))), true⟩
def f_are_alike : Fn := ⟨2, 2, (.cons (.ret (.isi (.fn 47 (.cons (.var 0) (.cons (.var 1) .nil))) [(.own 8)])) .nil), true⟩
def f_law_cell_at : Fn := ⟨2, 2, (.cons (.ifs (.cmp .Lt (.var 1) (.bi .len (.cons (.var 0) .nil))) (.cons (.ret (.idx (.var 0) (.var 1))) .nil) .nil) (.cons (.ret (.cst (.int 0))) .nil)), true⟩
def f_law_draw : Fn := ⟨3, 4, (.cons (.asg (.nm 3) (.tup (.cons (.cst (.int 1000003)) (.cons (.cst (.int 1000033)) (.cons (.cst (.int 1000037)) (.cons (.cst (.int 1000039)) (.cons (.cst (.int 1000081)) (.cons (.cst (.int 1000099)) (.cons (.cst (.int 1000117)) (.cons (.cst (.int 1000121)) (.cons (.cst (.int 1000133)) (.cons (.cst (.int 1000151)) (.cons (.cst (.int 1000159)) (.cons (.cst (.int 1000171)) (.cons (.cst (.int 1000183)) (.cons (.cst (.int 1000187)) (.cons (.cst (.int 1000193)) (.cons (.cst (.int 1000199)) .nil)))))))))))))))))) (.cons (.ret (.bin .Mod (.bin .Mod (.bi .int (.cons (.bin .Add (.bin .Mult (.var 0) (.cst (.int 48271))) (.bin .Mult (.var 1) (.cst (.int 69621)))) .nil)) (.idx (.var 3) (.bin .Mod (.bi .int (.cons (.var 1) .nil)) (.cst (.int 16))))) (.var 2))) .nil)), true⟩
def g_law_number_1 : G := (.nm 4)
def b_law_number_1 : B := (.cons (.asg (.nm 3) (.bin .Mult (.var 3) (.cst (.int 1009)))) .nil)
def f_law_number : Fn := ⟨3, 7, (.cons (.asg (.nm 3) (.cst (.int 1))) (.cons (.for_ g_law_number_1 (.rng1 (.bin .Mod (.bi .int (.cons (.var 1) .nil)) (.cst (.int 24)))) b_law_number_1) (.cons (.asg (.nm 5) (.bin .FloorDiv (.bin .Sub (.var 0) (.bin .Pow (.cst (.int 10)) (.cst (.int 18)))) (.var 3))) (.cons (.ifs (.cmp .Gt (.var 5) (.cst (.int 0))) (.cons (.ret (.bin .Mod (.bin .Mod (.bi .int (.cons (.var 5) .nil)) (.cst (.int 1009))) (.var 2))) .nil) .nil) (.cons (.asg (.nm 6) (.bin .Mod (.bi .int (.cons (.var 0) .nil)) (.cst (.int 1000003)))) (.cons (.ret (.bin .Mod (.fn 50 (.cons (.bin .Mult (.bin .Add (.var 6) (.bin .Mult (.cst (.int 977)) (.var 1))) (.bin .Add (.bin .Add (.var 6) (.bin .Mult (.cst (.int 31)) (.var 1))) (.cst (.int 5)))) (.cons (.bin .Add (.bin .Mod (.bi .int (.cons (.var 1) .nil)) (.cst (.int 9))) (.cst (.int 1))) (.cons (.cst (.int 999983)) .nil)))) (.var 2))) .nil)))))), true⟩
def f_law_next : Fn := ⟨2, 4, (.cons (.asg (.sub (.var 0) (.cst (.int 2))) (.bin .Add (.idx (.var 0) (.cst (.int 2))) (.cst (.int 1)))) (.cons (.asg (.nm 2) (.bin .FloorDiv (.idx (.var 0) (.cst (.int 2))) (.cst (.int 12)))) (.cons (.asg (.nm 3) (.bin .Add (.fn 49 (.cons (.idx (.var 0) (.cst (.int 0))) (.cons (.bin .Add (.idx (.var 0) (.cst (.int 1))) (.var 2)) .nil))) (.bin .Mult (.cst (.int 31)) (.var 2)))) (.cons (.ret (.fn 51 (.cons (.var 3) (.cons (.bin .Add (.bin .Mod (.bi .int (.cons (.idx (.var 0) (.cst (.int 2))) .nil)) (.cst (.int 12))) (.cst (.int 1))) (.cons (.var 1) .nil))))) .nil)))), true⟩
def f_law_pick : Fn := ⟨2, 2, (.cons (.ret (.idx (.var 1) (.fn 52 (.cons (.var 0) (.cons (.bi .len (.cons (.var 1) .nil)) .nil))))) .nil), true⟩
def f_law_link : Fn := ⟨2, 6, (.cons (.par 2 3 (.fn 53 (.cons (.var 0) (.cons (.lst true (.cons (.cst (.str (Str.ofString "all"))) (.cons (.cst (.str (Str.ofString "all"))) (.cons (.cst (.str (Str.ofString "each"))) .nil)))) .nil))) (.bin .Add (.cst (.int 1)) (.fn 52 (.cons (.var 0) (.cons (.cst (.int 2)) .nil))))) (.cons (.asg (.nm 4) (.bin .Add (.cst (.int 1)) (.fn 52 (.cons (.var 0) (.cons (.var 1) .nil))))) (.cons (.asg (.nm 5) (.fn 53 (.cons (.var 0) (.cons (.lst true (.cons (.cst (.str (Str.ofString "bucket"))) (.cons (.cst (.str (Str.ofString "window"))) (.cons (.cst (.str (Str.ofString "slide"))) (.cons (.cst (.str (Str.ofString "gap"))) .nil))))) .nil)))) (.cons (.ret (.tup (.cons (.var 2) (.cons (.ite (.cmp .Eq (.var 5) (.cst (.str (Str.ofString "gap")))) (.tup (.cons (.var 5) (.cons (.var 4) .nil))) (.tup (.cons (.var 5) (.cons (.var 3) (.cons (.var 4) .nil))))) .nil)))) .nil)))), true⟩
def c_law_chain_1 : E := (.lc true [4] (.fn 54 (.cons (.var 0) (.cons (.var 1) .nil))) (.nm 4) (.rng1 (.bin .Add (.cst (.int 1)) (.fn 52 (.cons (.var 0) (.cons (.cst (.int 2)) .nil))))) .none)
def f_law_chain : Fn := ⟨3, 5, (.cons (.asg (.nm 3) (.bi .tuple (.cons c_law_chain_1 .nil))) (.cons (.ret (.mk 4 2 (.cons (.var 3) .nil) (.cons (.var 2) (.cons (.cmp .Eq (.fn 52 (.cons (.var 0) (.cons (.cst (.int 3)) .nil))) (.cst (.int 0))) .nil)))) .nil)), true⟩
def c_law_events_1 : E := (.lc true [1] (.tup (.cons (.cst (.str (Str.ofString "ask"))) (.cons (.var 1) .nil))) (.nm 1) (.rng1 (.prp 13 (.var 0))) .none)
def f_law_events : Fn := ⟨1, 2, (.cons (.ret (.bin .Add (.lst true (.cons (.tup (.cons (.cst (.str (Str.ofString "tick"))) .nil)) .nil)) c_law_events_1)) .nil), true⟩
def f_law_new : Fn := ⟨1, 1, (.cons (.ret (.dpl (.cons (.tup (.cons (.cst (.str (Str.ofString "bucket"))) (.cons (.tup (.cons (.idx (.var 0) (.cst (.int 1))) (.cons (.cst (.int 0)) .nil))) .nil))) (.cons (.tup (.cons (.cst (.str (Str.ofString "window"))) (.cons (.tup (.cons (.cst (.int 0)) (.cons (.cst (.int 0)) .nil))) .nil))) (.cons (.tup (.cons (.cst (.str (Str.ofString "slide"))) (.cons (.tup .nil) .nil))) (.cons (.tup (.cons (.cst (.str (Str.ofString "gap"))) (.cons (.cst (.int 0)) .nil))) .nil)))) (.idx (.var 0) (.cst (.int 0))))) .nil), true⟩
def g_law_start_1 : G := (.tup (.cons (.nm 2) (.cons (.nm 3) .nil)))
def b_law_start_1 : B := (.cons (.asg (.nm 4) (.fn 57 (.cons (.var 3) .nil))) (.cons (.exp (.bm .append (.var 1) (.cons (.ite (.cmp .Eq (.var 2) (.cst (.str (Str.ofString "all")))) (.var 4) (.bin .Mult (.tup (.cons (.var 4) .nil)) (.prp 13 (.var 0)))) .nil))) .nil))
def f_law_start : Fn := ⟨1, 5, (.cons (.asg (.nm 1) (.lst false .nil)) (.cons (.for_ g_law_start_1 (.val (.prp 21 (.var 0))) b_law_start_1) (.cons (.ret (.bi .tuple (.cons (.var 1) .nil))) .nil))), true⟩
def c_law_older_1 : E := (.lc true [2] (.bin .Add (.var 2) (.cst (.int 1))) (.nm 2) (.val (.var 1)) (.some (.cmp .Lt (.bin .Add (.var 2) (.cst (.int 1))) (.idx (.var 0) (.cst (.int 2))))))
def f_law_older : Fn := ⟨2, 5, (.cons (.ifs (.cmp .Eq (.idx (.var 0) (.cst (.int 0))) (.cst (.str (Str.ofString "gap")))) (.cons (.ret (.ite (.cmp .Gt (.var 1) (.cst (.int 0))) (.bin .Sub (.var 1) (.cst (.int 1))) (.cst (.int 0)))) .nil) .nil) (.cons (.ifs (.cmp .Eq (.idx (.var 0) (.cst (.int 0))) (.cst (.str (Str.ofString "slide")))) (.cons (.ret (.bi .tuple (.cons c_law_older_1 .nil))) .nil) .nil) (.cons (.par 3 4 (.idx (.var 1) (.cst (.int 0))) (.bin .Add (.idx (.var 1) (.cst (.int 1))) (.cst (.int 1)))) (.cons (.ifs (.cmp .Lt (.var 4) (.idx (.var 0) (.cst (.int 2)))) (.cons (.ret (.tup (.cons (.var 3) (.cons (.var 4) .nil)))) .nil) .nil) (.cons (.ret (.ite (.cmp .Eq (.idx (.var 0) (.cst (.int 0))) (.cst (.str (Str.ofString "window")))) (.tup (.cons (.cst (.int 0)) (.cons (.cst (.int 0)) .nil))) (.tup (.cons (.bi .min2 (.cons (.idx (.var 0) (.cst (.int 1))) (.cons (.bin .Add (.var 3) (.cst (.int 1))) .nil))) (.cons (.cst (.int 0)) .nil))))) .nil))))), true⟩
def f_law_room : Fn := ⟨2, 2, (.cons (.ifs (.cmp .Eq (.idx (.var 0) (.cst (.int 0))) (.cst (.str (Str.ofString "gap")))) (.cons (.ret (.cmp .Eq (.var 1) (.cst (.int 0)))) .nil) .nil) (.cons (.ifs (.cmp .Eq (.idx (.var 0) (.cst (.int 0))) (.cst (.str (Str.ofString "slide")))) (.cons (.ret (.cmp .Lt (.bi .len (.cons (.var 1) .nil)) (.idx (.var 0) (.cst (.int 1))))) .nil) .nil) (.cons (.ret (.ite (.cmp .Eq (.idx (.var 0) (.cst (.int 0))) (.cst (.str (Str.ofString "window")))) (.cmp .Lt (.idx (.var 1) (.cst (.int 0))) (.idx (.var 0) (.cst (.int 1)))) (.cmp .GtE (.idx (.var 1) (.cst (.int 0))) (.cst (.int 1))))) .nil))), true⟩
def f_law_more : Fn := ⟨2, 2, (.cons (.ifs (.cmp .Eq (.idx (.var 0) (.cst (.int 0))) (.cst (.str (Str.ofString "gap")))) (.cons (.ret (.idx (.var 0) (.cst (.int 1)))) .nil) .nil) (.cons (.ifs (.cmp .Eq (.idx (.var 0) (.cst (.int 0))) (.cst (.str (Str.ofString "slide")))) (.cons (.ret (.bin .Add (.var 1) (.tup (.cons (.cst (.int 0)) .nil)))) .nil) .nil) (.cons (.ret (.tup (.cons (.bin .Add (.idx (.var 1) (.cst (.int 0))) (.ite (.cmp .Eq (.idx (.var 0) (.cst (.int 0))) (.cst (.str (Str.ofString "window")))) (.cst (.int 1)) (.neg (.cst (.int 1))))) (.cons (.idx (.var 1) (.cst (.int 1))) .nil)))) .nil))), true⟩
def g_law_tick_1 : G := (.tup (.cons (.nm 3) (.cons (.nm 4) .nil)))
def c_law_tick_1 : E := (.lc true [5] (.fn 59 (.cons (.idx (.var 3) (.cst (.int 1))) (.cons (.var 5) .nil))) (.nm 5) (.val (.var 4)) .none)
def b_law_tick_1 : B := (.cons (.ifs (.cmp .Eq (.idx (.var 3) (.cst (.int 0))) (.cst (.str (Str.ofString "all")))) (.cons (.exp (.bm .append (.var 2) (.cons (.fn 59 (.cons (.idx (.var 3) (.cst (.int 1))) (.cons (.var 4) .nil))) .nil))) .nil) (.cons (.exp (.bm .append (.var 2) (.cons (.bi .tuple (.cons c_law_tick_1 .nil)) .nil))) .nil)) .nil)
def f_law_tick : Fn := ⟨2, 6, (.cons (.asg (.nm 2) (.lst false .nil)) (.cons (.for_ g_law_tick_1 (.zip (.prp 21 (.var 0)) (.var 1)) b_law_tick_1) (.cons (.ret (.bi .tuple (.cons (.var 2) .nil))) .nil))), true⟩
def g_law_ask_1 : G := (.tup (.cons (.nm 5) (.cons (.nm 6) .nil)))
def b_law_ask_1 : B := (.cons (.asg (.nm 7) (.ite (.cmp .Eq (.idx (.var 6) (.cst (.int 0))) (.cst (.str (Str.ofString "all")))) (.idx (.var 3) (.var 5)) (.idx (.idx (.var 3) (.var 5)) (.var 2)))) (.cons (.ifs (.not (.fn 60 (.cons (.idx (.var 6) (.cst (.int 1))) (.cons (.var 7) .nil)))) (.cons (.asg (.nm 4) (.cst (.bl false))) (.cons .brk .nil)) .nil) (.cons (.asg (.nm 8) (.fn 61 (.cons (.idx (.var 6) (.cst (.int 1))) (.cons (.var 7) .nil)))) (.cons (.ifs (.cmp .Eq (.idx (.var 6) (.cst (.int 0))) (.cst (.str (Str.ofString "each")))) (.cons (.asg (.nm 8) (.bin .Add (.bin .Add (.slc (.idx (.var 3) (.var 5)) .none (.some (.var 2))) (.tup (.cons (.var 8) .nil))) (.slc (.idx (.var 3) (.var 5)) (.some (.bin .Add (.var 2) (.cst (.int 1)))) .none))) .nil) .nil) (.cons (.asg (.sub (.var 3) (.var 5)) (.var 8)) .nil)))))
def f_law_ask : Fn := ⟨3, 9, (.cons (.par 3 4 (.nls (.var 1)) (.cst (.bl true))) (.cons (.for_ g_law_ask_1 (.enum (.prp 21 (.var 0))) b_law_ask_1) (.cons (.ret (.tup (.cons (.var 4) (.cons (.ite (.or (.var 4) (.prp 14 (.var 0))) (.bi .tuple (.cons (.var 3) .nil)) (.var 1)) .nil)))) .nil))), true⟩
def f_law_step : Fn := ⟨3, 3, (.cons (.ifs (.cmp .Eq (.var 2) (.tup (.cons (.cst (.str (Str.ofString "tick"))) .nil))) (.cons (.ret (.tup (.cons (.cst .non) (.cons (.fn 62 (.cons (.var 0) (.cons (.var 1) .nil))) .nil)))) .nil) .nil) (.cons (.ret (.fn 63 (.cons (.var 0) (.cons (.var 1) (.cons (.idx (.var 2) (.cst (.int 1))) .nil))))) .nil)), true⟩
def g_law_both_1 : G := (.nm 4)
def b_law_both_1 : B := (.cons (.asg (.tup (.cons (.nm 5) (.cons (.nm 6) .nil))) (.fn 64 (.cons (.var 0) (.cons (.idx (.var 2) (.cst (.int 0))) (.cons (.var 4) .nil))))) (.cons (.asg (.tup (.cons (.nm 7) (.cons (.nm 8) .nil))) (.fn 64 (.cons (.var 1) (.cons (.idx (.var 2) (.cst (.int 1))) (.cons (.var 4) .nil))))) (.cons (.exp (.bm .append (.var 3) (.cons (.tup (.cons (.var 4) (.cons (.var 5) (.cons (.var 7) (.cons (.tup (.cons (.var 6) (.cons (.var 8) .nil))) .nil))))) .nil))) .nil)))
def f_law_both : Fn := ⟨3, 9, (.cons (.asg (.nm 3) (.lst false .nil)) (.cons (.for_ g_law_both_1 (.val (.fn 56 (.cons (.var 0) .nil))) b_law_both_1) (.cons (.ret (.var 3)) .nil))), true⟩
def f_law_bad : Fn := ⟨3, 3, (.cons (.ret (.ite (.var 2) (.cmp .NotEq (.var 0) (.var 1)) (.and (.isb false (.var 0) (.cst (.bl true))) (.isb false (.var 1) (.cst (.bl false)))))) .nil), true⟩
def g_law_search_1 : G := (.tup (.cons (.nm 8) (.cons (.nm 9) (.cons (.nm 10) (.cons (.nm 11) .nil)))))
def b_law_search_1 : B := (.cons (.ifs (.fn 66 (.cons (.var 9) (.cons (.var 10) (.cons (.var 2) .nil)))) (.cons (.ret (.tup (.cons (.bin .Add (.dget (.var 5) (.var 7)) (.tup (.cons (.var 8) .nil))) (.cons (.dlst true (.var 5)) .nil)))) .nil) .nil) (.cons (.ifs (.and (.or (.var 2) (.isb true (.var 9) (.cst (.bl false)))) (.din true (.var 11) (.var 5))) (.cons (.asg (.dsub (.var 5) (.var 11)) (.bin .Add (.dget (.var 5) (.var 7)) (.tup (.cons (.var 8) .nil)))) (.cons (.exp (.bm .append (.var 6) (.cons (.var 11) .nil))) .nil)) .nil) .nil))
def f_law_search : Fn := ⟨4, 12, (.cons (.asg (.nm 4) (.tup (.cons (.fn 58 (.cons (.var 0) .nil)) (.cons (.fn 58 (.cons (.var 1) .nil)) .nil)))) (.cons (.par 5 6 (.dof (.lst true (.cons (.tup (.cons (.var 4) (.cons (.tup .nil) .nil))) .nil))) (.lst false (.cons (.var 4) .nil))) (.cons (.whl (.cmp .NotEq (.var 6) (.lst true .nil)) (.cons (.asg (.nm 7) (.pop0 (.var 6))) (.cons (.for_ g_law_search_1 (.val (.fn 65 (.cons (.var 0) (.cons (.var 1) (.cons (.var 7) .nil))))) b_law_search_1) (.cons (.ifs (.cmp .Gt (.dlen (.var 5)) (.var 3)) (.cons (.ret (.tup (.cons (.cst .non) (.cons (.cst .non) .nil)))) .nil) .nil) .nil)))) (.cons (.ret (.tup (.cons (.cst .non) (.cons (.dlst true (.var 5)) .nil)))) .nil)))), true⟩
def c_law_closed_1 : E := (.lc true [5] (.tup (.cons (.var 5) (.cons (.cst (.bl true)) .nil))) (.nm 5) (.val (.var 2)) .none)
def g_law_closed_1 : G := (.nm 5)
def g_law_closed_2 : G := (.tup (.cons (.nm 6) (.cons (.nm 7) (.cons (.nm 8) (.cons (.nm 9) .nil)))))
def b_law_closed_1 : B := (.cons (.ifs (.fn 66 (.cons (.var 7) (.cons (.var 8) (.cons (.var 3) .nil)))) (.cons (.ret (.cst (.bl false))) .nil) .nil) (.cons (.ifs (.and (.or (.var 3) (.isb true (.var 7) (.cst (.bl false)))) (.din true (.var 9) (.var 4))) (.cons (.ret (.cst (.bl false))) .nil) .nil) .nil))
def b_law_closed_2 : B := (.cons (.for_ g_law_closed_2 (.val (.fn 65 (.cons (.var 0) (.cons (.var 1) (.cons (.var 5) .nil))))) b_law_closed_1) .nil)
def f_law_closed : Fn := ⟨4, 10, (.cons (.asg (.nm 4) (.dof c_law_closed_1)) (.cons (.ifs (.din true (.tup (.cons (.fn 58 (.cons (.var 0) .nil)) (.cons (.fn 58 (.cons (.var 1) .nil)) .nil))) (.var 4)) (.cons (.ret (.cst (.bl false))) .nil) .nil) (.cons (.for_ g_law_closed_1 (.dkeys (.var 4)) b_law_closed_2) (.cons (.ret (.cst (.bl true))) .nil)))), true⟩
def g_law_parts_1 : G := (.nm 6)
def b_law_parts_1 : B := (.cons (.asg (.tup (.cons (.nm 7) (.cons (.nm 8) .nil))) (.fn 64 (.cons (.var 0) (.cons (.idx (.var 4) (.cst (.int 0))) (.cons (.var 6) .nil))))) (.cons (.asg (.tup (.cons (.nm 9) (.cons (.nm 10) .nil))) (.fn 64 (.cons (.var 1) (.cons (.idx (.var 4) (.cst (.int 1))) (.cons (.var 6) .nil))))) (.cons (.ifs (.or (.var 5) (.and (.not (.var 3)) (.isb false (.var 7) (.cst (.bl false))))) (.cons (.ret (.cst (.bl false))) .nil) .nil) (.cons (.par 5 4 (.fn 66 (.cons (.var 7) (.cons (.var 9) (.cons (.var 3) .nil)))) (.tup (.cons (.var 8) (.cons (.var 10) .nil)))) .nil))))
def f_law_parts : Fn := ⟨4, 11, (.cons (.par 4 5 (.tup (.cons (.fn 58 (.cons (.var 0) .nil)) (.cons (.fn 58 (.cons (.var 1) .nil)) .nil))) (.cst (.bl false))) (.cons (.for_ g_law_parts_1 (.val (.var 2)) b_law_parts_1) (.cons (.ret (.var 5)) .nil))), true⟩
def f_law_like : Fn := ⟨2, 6, (.cons (.par3 2 3 4 (.fn 52 (.cons (.var 0) (.cons (.cst (.int 5)) .nil))) (.nls (.prp 21 (.var 1))) (.prp 14 (.var 1))) (.cons (.asg (.nm 5) (.fn 52 (.cons (.var 0) (.cons (.bi .len (.cons (.var 3) .nil)) .nil)))) (.cons (.ifs (.cmp .Eq (.var 2) (.cst (.int 0))) (.cons (.asg (.nm 3) (.rev (.var 3))) .nil) (.cons (.ifs (.and (.cmp .Eq (.var 2) (.cst (.int 1))) (.cmp .Lt (.bi .len (.cons (.var 3) .nil)) (.cst (.int 3)))) (.cons (.exp (.bm .append (.var 3) (.cons (.fn 54 (.cons (.var 0) (.cons (.cst (.int 3)) .nil))) .nil))) .nil) (.cons (.ifs (.cmp .Eq (.var 2) (.cst (.int 2))) (.cons (.asg (.sub (.var 3) (.var 5)) (.fn 54 (.cons (.var 0) (.cons (.cst (.int 3)) .nil)))) .nil) (.cons (.ifs (.cmp .Eq (.var 2) (.cst (.int 3))) (.cons (.asg (.sub (.var 3) (.var 5)) (.tup (.cons (.ite (.cmp .Eq (.idx (.idx (.var 3) (.var 5)) (.cst (.int 0))) (.cst (.str (Str.ofString "all")))) (.cst (.str (Str.ofString "each"))) (.cst (.str (Str.ofString "all")))) (.cons (.idx (.idx (.var 3) (.var 5)) (.cst (.int 1))) .nil)))) .nil) (.cons (.asg (.nm 4) (.not (.var 4))) .nil)) .nil)) .nil)) .nil)) (.cons (.ret (.mk 4 2 (.cons (.bi .tuple (.cons (.var 3) .nil)) .nil) (.cons (.prp 13 (.var 1)) (.cons (.var 4) .nil)))) .nil)))), true⟩
def f_law_cut : Fn := ⟨2, 4, (.cons (.par 2 3 (.fn 52 (.cons (.var 0) (.cons (.bi .len (.cons (.var 1) .nil)) .nil))) (.fn 52 (.cons (.var 0) (.cons (.cst (.int 4)) .nil)))) (.cons (.ifs (.cmp .Eq (.var 3) (.cst (.int 0))) (.cons (.ret (.slc (.var 1) .none (.some (.neg (.cst (.int 1)))))) .nil) .nil) (.cons (.ifs (.cmp .Eq (.var 3) (.cst (.int 1))) (.cons (.ret (.bin .Add (.bin .Add (.slc (.var 1) .none (.some (.var 2))) (.tup (.cons (.tup (.cons (.cst (.str (Str.ofString "tick"))) .nil)) .nil))) (.slc (.var 1) (.some (.var 2)) .none))) .nil) .nil) (.cons (.ret (.ite (.cmp .Eq (.var 3) (.cst (.int 2))) (.bin .Add (.slc (.var 1) .none (.some (.var 2))) (.slc (.var 1) (.some (.bin .Add (.var 2) (.cst (.int 1)))) .none)) (.bin .Add (.var 1) (.tup (.cons (.tup (.cons (.cst (.str (Str.ofString "ask"))) (.cons (.cst (.int 0)) .nil))) .nil))))) .nil)))), true⟩
def f_law_list : Fn := ⟨2, 2, (.cons (.ret (.ite (.var 1) (.mk 8 1 (.cons (.var 0) .nil) .nil) (.mk 6 1 (.cons (.var 0) .nil) .nil))) .nil), true⟩
def f_law_part : Fn := ⟨2, 2, (.cons (.ret (.ite (.var 1) (.mk 9 1 (.cons (.var 0) .nil) .nil) (.mk 7 1 (.cons (.var 0) .nil) .nil))) .nil), true⟩
def c_law_pairs_right_1 : E := (.lc true [8] (.var 8) (.nm 8) (.val (.fld (.var 3) 25)) (.some (.cmp .NotEq (.var 8) (.var 6))))
def f_law_pairs_right : Fn := ⟨5, 10, (.cons (.asg (.nm 5) (.ite (.var 4) (.isi (.var 3) [(.own 8)]) (.isi (.var 3) [(.own 6)]))) (.cons (.ifs (.or (.not (.var 5)) (.not (.fn 68 (.cons (.var 1) (.cons (.var 2) (.cons (.fld (.var 3) 25) (.cons (.var 4) .nil))))))) (.cons (.ret (.cst (.bl false))) .nil) .nil) (.cons (.ifs (.or (.isb true (.mth 29 (.var 3) (.cons (.var 1) (.cons (.var 2) .nil))) (.cst (.bl true))) (.mth 29 (.fn 72 (.cons (.lst true .nil) (.cons (.var 4) .nil))) (.cons (.var 1) (.cons (.var 2) .nil)))) (.cons (.ret (.cst (.bl false))) .nil) .nil) (.cons (.asg (.nm 6) (.fn 53 (.cons (.var 0) (.cons (.fld (.var 3) 25) .nil)))) (.cons (.asg (.nm 7) c_law_pairs_right_1) (.cons (.asg (.nm 9) (.fn 68 (.cons (.var 1) (.cons (.var 2) (.cons (.var 7) (.cons (.var 4) .nil)))))) (.cons (.ret (.cmp .Eq (.mth 29 (.fn 72 (.cons (.var 7) (.cons (.var 4) .nil))) (.cons (.var 1) (.cons (.var 2) .nil))) (.var 9))) .nil))))))), true⟩
def t_law_one_right_1 : B := (.cons (.ret (.fn 74 (.cons (.var 0) (.cons (.var 1) (.cons (.var 2) (.cons (.var 6) (.cons (.var 3) .nil))))))) .nil)
def t_law_one_right_2 : B := (.cons (.ret (.cmp .Eq (.mth 29 (.fn 73 (.cons (.var 8) (.cons (.var 3) .nil))) (.cons (.var 1) (.cons (.var 2) .nil))) (.var 7))) .nil)
def t_law_one_right_3 : B := (.cons (.asg (.nm 7) (.fn 69 (.cons (.var 1) (.cons (.var 2) (.cons (.var 8) (.cons (.var 3) .nil)))))) t_law_one_right_2)
def t_law_one_right_4 : B := (.cons (.asg (.nm 8) (.fn 71 (.cons (.var 0) (.cons (.var 4) .nil)))) t_law_one_right_3)
def t_law_one_right_5 : B := (.cons (.ifs (.mth 29 (.fn 72 (.cons (.var 5) (.cons (.var 3) .nil))) (.cons (.var 1) (.cons (.var 2) .nil))) (.cons (.ret (.cst (.bl false))) .nil) .nil) t_law_one_right_4)
def t_law_one_right_6 : B := (.cons (.ifs (.isb true (.mth 29 (.var 6) (.cons (.var 1) (.cons (.var 2) .nil))) (.cst (.bl true))) (.cons (.ret (.cst (.bl false))) .nil) .nil) t_law_one_right_5)
def t_law_one_right_7 : B := (.cons (.ifs (.or (.not (.var 7)) (.cmp .NotEq (.fld (.var 6) 19) (.var 4))) (.cons (.ret (.cst (.bl false))) .nil) .nil) t_law_one_right_6)
def t_law_one_right_8 : B := (.cons (.asg (.nm 7) (.ite (.var 3) (.isi (.var 6) [(.own 9)]) (.isi (.var 6) [(.own 7)]))) t_law_one_right_7)
def t_law_one_right_9 : B := (.cons (.ifs (.cmp .Is (.var 4) (.cst .non)) (.cons (.ifs (.mth 29 (.fn 73 (.cons (.tup (.cons (.tup (.cons (.cst (.str (Str.ofString "ask"))) (.cons (.cst (.int 0)) .nil))) .nil)) (.cons (.var 3) .nil))) (.cons (.var 1) (.cons (.var 2) .nil))) (.cons (.ret (.cst (.bl false))) .nil) .nil) t_law_one_right_1) .nil) t_law_one_right_8)
def t_law_one_right_10 : B := (.cons (.ifs (.cmp .NotEq (.ite (.var 3) (.fn 48 (.cons (.var 1) (.cons (.var 2) .nil))) (.fn 46 (.cons (.var 1) (.cons (.var 2) .nil)))) (.cmp .Is (.var 4) (.cst .non))) (.cons (.ret (.cst (.bl false))) .nil) .nil) t_law_one_right_9)
def t_law_one_right_11 : B := (.cons (.asg (.nm 6) (.ite (.var 3) (.fn 47 (.cons (.var 1) (.cons (.var 2) .nil))) (.fn 45 (.cons (.var 1) (.cons (.var 2) .nil))))) t_law_one_right_10)
def t_law_one_right_12 : B := (.cons (.ifs (.cmp .Is (.var 5) (.cst .non)) (.cons (.ret (.cst (.bl true))) .nil) .nil) t_law_one_right_11)
def f_law_one_right : Fn := ⟨4, 9, (.cons (.asg (.tup (.cons (.nm 4) (.cons (.nm 5) .nil))) (.fn 67 (.cons (.var 1) (.cons (.var 2) (.cons (.var 3) (.cons (.cst (.int 400)) .nil)))))) t_law_one_right_12), true⟩
def g_law_1 : G := (.nm 1)
def g_law_2 : G := (.nm 5)
def g_law_3 : G := (.nm 6)
def b_law_1 : B := (.cons (.ifs (.not (.fn 75 (.cons (.var 2) (.cons (.var 4) (.cons (.var 5) (.cons (.var 6) .nil)))))) (.cons (.ret (.cst (.bl false))) .nil) .nil) .nil)
def b_law_2 : B := (.cons (.for_ g_law_3 (.val (.tup (.cons (.cst (.bl false)) (.cons (.cst (.bl true)) .nil)))) b_law_1) .nil)
def t_law_1 : B := (.cons (.for_ g_law_2 (.val (.tup (.cons (.var 4) (.cons (.fn 70 (.cons (.var 2) (.cons (.var 4) .nil))) (.cons (.fn 55 (.cons (.var 2) (.cons (.cst (.int 3)) (.cons (.var 3) .nil)))) .nil))))) b_law_2) .nil)
def t_law_2 : B := (.cons (.asg (.nm 4) (.fn 55 (.cons (.var 2) (.cons (.cst (.int 3)) (.cons (.var 3) .nil))))) t_law_1)
def t_law_3 : B := (.cons (.asg (.nm 3) (.bin .Add (.cst (.int 1)) (.fn 52 (.cons (.var 2) (.cons (.cst (.int 2)) .nil))))) t_law_2)
def b_law_3 : B := (.cons (.asg (.nm 2) (.lst false (.cons (.var 0) (.cons (.var 1) (.cons (.cst (.int 0)) .nil))))) t_law_3)
def t_law_4 : B := (.cons (.ret (.cst (.bl true))) .nil)
def f_law : Fn := ⟨1, 7, (.cons (.for_ g_law_1 (.rng3 (.cst (.int 0)) (.bi .max2 (.cons (.cst (.int 1)) (.cons (.bi .min2 (.cons (.cst (.int 16)) (.cons (.bi .len (.cons (.var 0) .nil)) .nil))) .nil))) (.cst (.int 4))) b_law_3) t_law_4), true⟩
def topS (i : Nat) : Stmt := PySem.Challenge.pw_limitwithin_k02_whole_comparing.main.body.getD i (.Pass ⟨0, 0, 0, 0⟩)
def clsB : Stmt → List Stmt
  | .ClassDef (body := b) .. => b
  | _ => []
def topM (i j : Nat) : Stmt := (clsB (topS i)).getD j (.Pass ⟨0, 0, 0, 0⟩)
def r1 : FR := ⟨.glo (Str.ofString "is_integer"), ⟨(Str.ofString "", none), Str.ofString "is_integer", Str.ofString "is_integer", defArgs (topS 12), defBody (topS 12), defScope (topS 12), [], []⟩, [Str.ofString "value", Str.ofString "low", Str.ofString "high"], [Str.ofString "value", Str.ofString "low", Str.ofString "high"], f_is_integer⟩
def r2 : FR := ⟨.glo (Str.ofString "is_word"), ⟨(Str.ofString "", none), Str.ofString "is_word", Str.ofString "is_word", defArgs (topS 13), defBody (topS 13), defScope (topS 13), [], []⟩, [Str.ofString "value", Str.ofString "words"], [Str.ofString "value", Str.ofString "words"], f_is_word⟩
def r3 : FR := ⟨.glo (Str.ofString "is_part"), ⟨(Str.ofString "", none), Str.ofString "is_part", Str.ofString "is_part", defArgs (topS 14), defBody (topS 14), defScope (topS 14), [], []⟩, [Str.ofString "value"], [Str.ofString "value"], f_is_part⟩
def r4 : FR := ⟨.glo (Str.ofString "is_link"), ⟨(Str.ofString "", none), Str.ofString "is_link", Str.ofString "is_link", defArgs (topS 15), defBody (topS 15), defScope (topS 15), [], []⟩, [Str.ofString "value"], [Str.ofString "value"], f_is_link⟩
def r5 : FR := ⟨.mth (Str.ofString "Chain") (Str.ofString "__init__"), ⟨(Str.ofString "", none), Str.ofString "__init__", Str.ofString "Chain.__init__", defArgs (topM 16 0), defBody (topM 16 0), defScope (topM 16 0), [], [(Str.ofString "callers", .int 1), (Str.ofString "charges", .bl false)]⟩, [Str.ofString "self", Str.ofString "links", Str.ofString "callers", Str.ofString "charges", Str.ofString "one"], [Str.ofString "self", Str.ofString "links", Str.ofString "callers", Str.ofString "charges"], f_Chain_init⟩
def r6 : FR := ⟨.prp (Str.ofString "Chain") (Str.ofString "links"), ⟨(Str.ofString "", none), Str.ofString "links", Str.ofString "Chain.links", defArgs (topM 16 1), defBody (topM 16 1), defScope (topM 16 1), [], []⟩, [Str.ofString "self"], [Str.ofString "self"], f_Chain_links⟩
def r7 : FR := ⟨.prp (Str.ofString "Chain") (Str.ofString "callers"), ⟨(Str.ofString "", none), Str.ofString "callers", Str.ofString "Chain.callers", defArgs (topM 16 2), defBody (topM 16 2), defScope (topM 16 2), [], []⟩, [Str.ofString "self"], [Str.ofString "self"], f_Chain_callers⟩
def r8 : FR := ⟨.prp (Str.ofString "Chain") (Str.ofString "charges"), ⟨(Str.ofString "", none), Str.ofString "charges", Str.ofString "Chain.charges", defArgs (topM 16 3), defBody (topM 16 3), defScope (topM 16 3), [], []⟩, [Str.ofString "self"], [Str.ofString "self"], f_Chain_charges⟩
def r9 : FR := ⟨.mth (Str.ofString "Chain") (Str.ofString "__eq__"), ⟨(Str.ofString "", none), Str.ofString "__eq__", Str.ofString "Chain.__eq__", defArgs (topM 16 4), defBody (topM 16 4), defScope (topM 16 4), [], []⟩, [Str.ofString "self", Str.ofString "other"], [Str.ofString "self", Str.ofString "other"], f_Chain_eq⟩
def r10 : FR := ⟨.mth (Str.ofString "Chain") (Str.ofString "all_parts"), ⟨(Str.ofString "", none), Str.ofString "all_parts", Str.ofString "Chain.all_parts", defArgs (topM 16 5), defBody (topM 16 5), defScope (topM 16 5), [], []⟩, [Str.ofString "self"], [Str.ofString "self"], f_Chain_all_parts⟩
def r11 : FR := ⟨.glo (Str.ofString "check_chain"), ⟨(Str.ofString "", none), Str.ofString "check_chain", Str.ofString "check_chain", defArgs (topS 17), defBody (topS 17), defScope (topS 17), [], []⟩, [Str.ofString "chain"], [Str.ofString "chain"], f_check_chain⟩
def r12 : FR := ⟨.glo (Str.ofString "events_of"), ⟨(Str.ofString "", none), Str.ofString "events_of", Str.ofString "events_of", defArgs (topS 18), defBody (topS 18), defScope (topS 18), [], []⟩, [Str.ofString "chain", Str.ofString "caller"], [Str.ofString "chain"], f_events_of⟩
def r13 : FR := ⟨.glo (Str.ofString "first_of"), ⟨(Str.ofString "", none), Str.ofString "first_of", Str.ofString "first_of", defArgs (topS 20), defBody (topS 20), defScope (topS 20), [], []⟩, [Str.ofString "part"], [Str.ofString "part"], f_first_of⟩
def r14 : FR := ⟨.glo (Str.ofString "ticked"), ⟨(Str.ofString "", none), Str.ofString "ticked", Str.ofString "ticked", defArgs (topS 21), defBody (topS 21), defScope (topS 21), [], []⟩, [Str.ofString "part", Str.ofString "value", Str.ofString "tokens", Str.ofString "since", Str.ofString "count", Str.ofString "age"], [Str.ofString "part", Str.ofString "value"], f_ticked⟩
def r15 : FR := ⟨.glo (Str.ofString "does_let"), ⟨(Str.ofString "", none), Str.ofString "does_let", Str.ofString "does_let", defArgs (topS 22), defBody (topS 22), defScope (topS 22), [], []⟩, [Str.ofString "part", Str.ofString "value"], [Str.ofString "part", Str.ofString "value"], f_does_let⟩
def r16 : FR := ⟨.glo (Str.ofString "counted"), ⟨(Str.ofString "", none), Str.ofString "counted", Str.ofString "counted", defArgs (topS 23), defBody (topS 23), defScope (topS 23), [], []⟩, [Str.ofString "part", Str.ofString "value"], [Str.ofString "part", Str.ofString "value"], f_counted⟩
def r17 : FR := ⟨.glo (Str.ofString "first_state"), ⟨(Str.ofString "", none), Str.ofString "first_state", Str.ofString "first_state", defArgs (topS 24), defBody (topS 24), defScope (topS 24), [], []⟩, [Str.ofString "chain", Str.ofString "found", Str.ofString "scope", Str.ofString "part"], [Str.ofString "chain"], f_first_state⟩
def r18 : FR := ⟨.glo (Str.ofString "after_tick"), ⟨(Str.ofString "", none), Str.ofString "after_tick", Str.ofString "after_tick", defArgs (topS 25), defBody (topS 25), defScope (topS 25), [], []⟩, [Str.ofString "chain", Str.ofString "value", Str.ofString "found", Str.ofString "scope", Str.ofString "part", Str.ofString "one", Str.ofString "alone"], [Str.ofString "chain", Str.ofString "value"], f_after_tick⟩
def r19 : FR := ⟨.glo (Str.ofString "lets_at"), ⟨(Str.ofString "", none), Str.ofString "lets_at", Str.ofString "lets_at", defArgs (topS 26), defBody (topS 26), defScope (topS 26), [], []⟩, [Str.ofString "chain", Str.ofString "value", Str.ofString "index", Str.ofString "caller", Str.ofString "scope", Str.ofString "part"], [Str.ofString "chain", Str.ofString "value", Str.ofString "index", Str.ofString "caller"], f_lets_at⟩
def r20 : FR := ⟨.glo (Str.ofString "counted_at"), ⟨(Str.ofString "", none), Str.ofString "counted_at", Str.ofString "counted_at", defArgs (topS 27), defBody (topS 27), defScope (topS 27), [], []⟩, [Str.ofString "chain", Str.ofString "value", Str.ofString "index", Str.ofString "caller", Str.ofString "scope", Str.ofString "part", Str.ofString "one", Str.ofString "later"], [Str.ofString "chain", Str.ofString "value", Str.ofString "index", Str.ofString "caller"], f_counted_at⟩
def r21 : FR := ⟨.glo (Str.ofString "answer_at"), ⟨(Str.ofString "", none), Str.ofString "answer_at", Str.ofString "answer_at", defArgs (topS 28), defBody (topS 28), defScope (topS 28), [], []⟩, [Str.ofString "chain", Str.ofString "value", Str.ofString "caller", Str.ofString "index"], [Str.ofString "chain", Str.ofString "value", Str.ofString "caller"], f_answer_at⟩
def r22 : FR := ⟨.glo (Str.ofString "after_ask"), ⟨(Str.ofString "", none), Str.ofString "after_ask", Str.ofString "after_ask", defArgs (topS 29), defBody (topS 29), defScope (topS 29), [], []⟩, [Str.ofString "chain", Str.ofString "value", Str.ofString "caller", Str.ofString "is_let", Str.ofString "index"], [Str.ofString "chain", Str.ofString "value", Str.ofString "caller"], f_after_ask⟩
def r23 : FR := ⟨.glo (Str.ofString "after_event"), ⟨(Str.ofString "", none), Str.ofString "after_event", Str.ofString "after_event", defArgs (topS 30), defBody (topS 30), defScope (topS 30), [], []⟩, [Str.ofString "chain", Str.ofString "value", Str.ofString "event"], [Str.ofString "chain", Str.ofString "value", Str.ofString "event"], f_after_event⟩
def r24 : FR := ⟨.glo (Str.ofString "check_two"), ⟨(Str.ofString "", none), Str.ofString "check_two", Str.ofString "check_two", defArgs (topS 33), defBody (topS 33), defScope (topS 33), [], []⟩, [Str.ofString "one", Str.ofString "other"], [Str.ofString "one", Str.ofString "other"], f_check_two⟩
def r25 : FR := ⟨.glo (Str.ofString "steps_from"), ⟨(Str.ofString "", none), Str.ofString "steps_from", Str.ofString "steps_from", defArgs (topS 34), defBody (topS 34), defScope (topS 34), [], []⟩, [Str.ofString "one", Str.ofString "other", Str.ofString "pair", Str.ofString "found", Str.ofString "event", Str.ofString "mine", Str.ofString "here", Str.ofString "theirs", Str.ofString "there"], [Str.ofString "one", Str.ofString "other", Str.ofString "pair"], f_steps_from⟩
def r26 : FR := ⟨.glo (Str.ofString "breaks_within"), ⟨(Str.ofString "", none), Str.ofString "breaks_within", Str.ofString "breaks_within", defArgs (topS 35), defBody (topS 35), defScope (topS 35), [], []⟩, [Str.ofString "mine", Str.ofString "theirs"], [Str.ofString "mine", Str.ofString "theirs"], f_breaks_within⟩
def r27 : FR := ⟨.glo (Str.ofString "breaks_alike"), ⟨(Str.ofString "", none), Str.ofString "breaks_alike", Str.ofString "breaks_alike", defArgs (topS 36), defBody (topS 36), defScope (topS 36), [], []⟩, [Str.ofString "mine", Str.ofString "theirs"], [Str.ofString "mine", Str.ofString "theirs"], f_breaks_alike⟩
def r28 : FR := ⟨.glo (Str.ofString "goes_on"), ⟨(Str.ofString "", none), Str.ofString "goes_on", Str.ofString "goes_on", defArgs (topS 37), defBody (topS 37), defScope (topS 37), [], []⟩, [Str.ofString "mine", Str.ofString "is_alike"], [Str.ofString "mine", Str.ofString "is_alike"], f_goes_on⟩
def r29 : FR := ⟨.mth (Str.ofString "Comparison") (Str.ofString "__init__"), ⟨(Str.ofString "", none), Str.ofString "__init__", Str.ofString "Comparison.__init__", defArgs (topM 38 0), defBody (topM 38 0), defScope (topM 38 0), [], []⟩, [Str.ofString "self", Str.ofString "one", Str.ofString "other", Str.ofString "is_alike", Str.ofString "start", Str.ofString "layer"], [Str.ofString "self", Str.ofString "one", Str.ofString "other", Str.ofString "is_alike"], f_Comparison_init⟩
def r30 : FR := ⟨.mth (Str.ofString "Comparison") (Str.ofString "next_layer"), ⟨(Str.ofString "", none), Str.ofString "next_layer", Str.ofString "Comparison.next_layer", defArgs (topM 38 1), defBody (topM 38 1), defScope (topM 38 1), [], []⟩, [Str.ofString "self", Str.ofString "layer", Str.ofString "fresh", Str.ofString "pair", Str.ofString "event", Str.ofString "mine", Str.ofString "theirs", Str.ofString "later"], [Str.ofString "self", Str.ofString "layer"], f_Comparison_next_layer⟩
def r31 : FR := ⟨.glo (Str.ofString "is_closed"), ⟨(Str.ofString "", none), Str.ofString "is_closed", Str.ofString "is_closed", defArgs (topS 39), defBody (topS 39), defScope (topS 39), [], []⟩, [Str.ofString "one", Str.ofString "other", Str.ofString "pairs", Str.ofString "is_alike", Str.ofString "known", Str.ofString "pair", Str.ofString "event", Str.ofString "mine", Str.ofString "theirs", Str.ofString "later"], [Str.ofString "one", Str.ofString "other", Str.ofString "pairs", Str.ofString "is_alike"], f_is_closed⟩
def r32 : FR := ⟨.glo (Str.ofString "is_parting"), ⟨(Str.ofString "", none), Str.ofString "is_parting", Str.ofString "is_parting", defArgs (topS 40), defBody (topS 40), defScope (topS 40), [], []⟩, [Str.ofString "one", Str.ofString "other", Str.ofString "history", Str.ofString "is_alike", Str.ofString "pair", Str.ofString "is_parted", Str.ofString "event", Str.ofString "mine", Str.ofString "here", Str.ofString "theirs", Str.ofString "there"], [Str.ofString "one", Str.ofString "other", Str.ofString "history", Str.ofString "is_alike"], f_is_parting⟩
def r33 : FR := ⟨.mth (Str.ofString "Within") (Str.ofString "__init__"), ⟨(Str.ofString "", none), Str.ofString "__init__", Str.ofString "Within.__init__", defArgs (topM 41 0), defBody (topM 41 0), defScope (topM 41 0), [], []⟩, [Str.ofString "self", Str.ofString "pairs"], [Str.ofString "self", Str.ofString "pairs"], f_Within_init⟩
def r34 : FR := ⟨.mth (Str.ofString "Within") (Str.ofString "__eq__"), ⟨(Str.ofString "", none), Str.ofString "__eq__", Str.ofString "Within.__eq__", defArgs (topM 41 1), defBody (topM 41 1), defScope (topM 41 1), [], []⟩, [Str.ofString "self", Str.ofString "other"], [Str.ofString "self", Str.ofString "other"], f_Within_eq⟩
def r35 : FR := ⟨.mth (Str.ofString "Within") (Str.ofString "shows"), ⟨(Str.ofString "", none), Str.ofString "shows", Str.ofString "Within.shows", defArgs (topM 41 2), defBody (topM 41 2), defScope (topM 41 2), [], []⟩, [Str.ofString "self", Str.ofString "one", Str.ofString "other"], [Str.ofString "self", Str.ofString "one", Str.ofString "other"], f_Within_shows⟩
def r36 : FR := ⟨.mth (Str.ofString "Escapes") (Str.ofString "__init__"), ⟨(Str.ofString "", none), Str.ofString "__init__", Str.ofString "Escapes.__init__", defArgs (topM 42 0), defBody (topM 42 0), defScope (topM 42 0), [], []⟩, [Str.ofString "self", Str.ofString "history"], [Str.ofString "self", Str.ofString "history"], f_Escapes_init⟩
def r37 : FR := ⟨.mth (Str.ofString "Escapes") (Str.ofString "__eq__"), ⟨(Str.ofString "", none), Str.ofString "__eq__", Str.ofString "Escapes.__eq__", defArgs (topM 42 1), defBody (topM 42 1), defScope (topM 42 1), [], []⟩, [Str.ofString "self", Str.ofString "other"], [Str.ofString "self", Str.ofString "other"], f_Escapes_eq⟩
def r38 : FR := ⟨.mth (Str.ofString "Escapes") (Str.ofString "shows"), ⟨(Str.ofString "", none), Str.ofString "shows", Str.ofString "Escapes.shows", defArgs (topM 42 2), defBody (topM 42 2), defScope (topM 42 2), [], []⟩, [Str.ofString "self", Str.ofString "one", Str.ofString "other"], [Str.ofString "self", Str.ofString "one", Str.ofString "other"], f_Escapes_shows⟩
def r39 : FR := ⟨.mth (Str.ofString "Alike") (Str.ofString "__init__"), ⟨(Str.ofString "", none), Str.ofString "__init__", Str.ofString "Alike.__init__", defArgs (topM 43 0), defBody (topM 43 0), defScope (topM 43 0), [], []⟩, [Str.ofString "self", Str.ofString "pairs"], [Str.ofString "self", Str.ofString "pairs"], f_Alike_init⟩
def r40 : FR := ⟨.mth (Str.ofString "Alike") (Str.ofString "__eq__"), ⟨(Str.ofString "", none), Str.ofString "__eq__", Str.ofString "Alike.__eq__", defArgs (topM 43 1), defBody (topM 43 1), defScope (topM 43 1), [], []⟩, [Str.ofString "self", Str.ofString "other"], [Str.ofString "self", Str.ofString "other"], f_Alike_eq⟩
def r41 : FR := ⟨.mth (Str.ofString "Alike") (Str.ofString "shows"), ⟨(Str.ofString "", none), Str.ofString "shows", Str.ofString "Alike.shows", defArgs (topM 43 2), defBody (topM 43 2), defScope (topM 43 2), [], []⟩, [Str.ofString "self", Str.ofString "one", Str.ofString "other"], [Str.ofString "self", Str.ofString "one", Str.ofString "other"], f_Alike_shows⟩
def r42 : FR := ⟨.mth (Str.ofString "Apart") (Str.ofString "__init__"), ⟨(Str.ofString "", none), Str.ofString "__init__", Str.ofString "Apart.__init__", defArgs (topM 44 0), defBody (topM 44 0), defScope (topM 44 0), [], []⟩, [Str.ofString "self", Str.ofString "history"], [Str.ofString "self", Str.ofString "history"], f_Apart_init⟩
def r43 : FR := ⟨.mth (Str.ofString "Apart") (Str.ofString "__eq__"), ⟨(Str.ofString "", none), Str.ofString "__eq__", Str.ofString "Apart.__eq__", defArgs (topM 44 1), defBody (topM 44 1), defScope (topM 44 1), [], []⟩, [Str.ofString "self", Str.ofString "other"], [Str.ofString "self", Str.ofString "other"], f_Apart_eq⟩
def r44 : FR := ⟨.mth (Str.ofString "Apart") (Str.ofString "shows"), ⟨(Str.ofString "", none), Str.ofString "shows", Str.ofString "Apart.shows", defArgs (topM 44 2), defBody (topM 44 2), defScope (topM 44 2), [], []⟩, [Str.ofString "self", Str.ofString "one", Str.ofString "other"], [Str.ofString "self", Str.ofString "one", Str.ofString "other"], f_Apart_shows⟩
def r45 : FR := ⟨.glo (Str.ofString "within"), ⟨(Str.ofString "", none), Str.ofString "within", Str.ofString "within", defArgs (topS 45), defBody (topS 45), defScope (topS 45), [], []⟩, [Str.ofString "one", Str.ofString "other", Str.ofString "found"], [Str.ofString "one", Str.ofString "other"], f_within⟩
def r46 : FR := ⟨.glo (Str.ofString "is_within"), ⟨(Str.ofString "", none), Str.ofString "is_within", Str.ofString "is_within", defArgs (topS 46), defBody (topS 46), defScope (topS 46), [], []⟩, [Str.ofString "one", Str.ofString "other"], [Str.ofString "one", Str.ofString "other"], f_is_within⟩
def r47 : FR := ⟨.glo (Str.ofString "alike"), ⟨(Str.ofString "", none), Str.ofString "alike", Str.ofString "alike", defArgs (topS 47), defBody (topS 47), defScope (topS 47), [], []⟩, [Str.ofString "one", Str.ofString "other", Str.ofString "found"], [Str.ofString "one", Str.ofString "other"], f_alike⟩
def r48 : FR := ⟨.glo (Str.ofString "are_alike"), ⟨(Str.ofString "", none), Str.ofString "are_alike", Str.ofString "are_alike", defArgs (topS 48), defBody (topS 48), defScope (topS 48), [], []⟩, [Str.ofString "one", Str.ofString "other"], [Str.ofString "one", Str.ofString "other"], f_are_alike⟩
def r49 : FR := ⟨.glo (Str.ofString "_law_cell_at"), ⟨(Str.ofString "", none), Str.ofString "_law_cell_at", Str.ofString "_law_cell_at", defArgs (topS 50), defBody (topS 50), defScope (topS 50), [], []⟩, [Str.ofString "_law_script", Str.ofString "_law_k"], [Str.ofString "_law_script", Str.ofString "_law_k"], f_law_cell_at⟩
def r50 : FR := ⟨.glo (Str.ofString "_law_draw"), ⟨(Str.ofString "", none), Str.ofString "_law_draw", Str.ofString "_law_draw", defArgs (topS 51), defBody (topS 51), defScope (topS 51), [], []⟩, [Str.ofString "_law_cell", Str.ofString "_law_k", Str.ofString "_law_bound", Str.ofString "_law_primes"], [Str.ofString "_law_cell", Str.ofString "_law_k", Str.ofString "_law_bound"], f_law_draw⟩
def r51 : FR := ⟨.glo (Str.ofString "_law_number"), ⟨(Str.ofString "", none), Str.ofString "_law_number", Str.ofString "_law_number", defArgs (topS 52), defBody (topS 52), defScope (topS 52), [], []⟩, [Str.ofString "_law_cell", Str.ofString "_law_k", Str.ofString "_law_bound", Str.ofString "_law_power", Str.ofString "_law_times", Str.ofString "_law_remains", Str.ofString "_law_small"], [Str.ofString "_law_cell", Str.ofString "_law_k", Str.ofString "_law_bound"], f_law_number⟩
def r52 : FR := ⟨.glo (Str.ofString "_law_next"), ⟨(Str.ofString "", none), Str.ofString "_law_next", Str.ofString "_law_next", defArgs (topS 53), defBody (topS 53), defScope (topS 53), [], []⟩, [Str.ofString "_law_draw_here", Str.ofString "_law_bound", Str.ofString "_law_at", Str.ofString "_law_cell"], [Str.ofString "_law_draw_here", Str.ofString "_law_bound"], f_law_next⟩
def r53 : FR := ⟨.glo (Str.ofString "_law_pick"), ⟨(Str.ofString "", none), Str.ofString "_law_pick", Str.ofString "_law_pick", defArgs (topS 54), defBody (topS 54), defScope (topS 54), [], []⟩, [Str.ofString "_law_draw_here", Str.ofString "_law_things"], [Str.ofString "_law_draw_here", Str.ofString "_law_things"], f_law_pick⟩
def r54 : FR := ⟨.glo (Str.ofString "_law_link"), ⟨(Str.ofString "", none), Str.ofString "_law_link", Str.ofString "_law_link", defArgs (topS 55), defBody (topS 55), defScope (topS 55), [], []⟩, [Str.ofString "_law_draw_here", Str.ofString "_law_high", Str.ofString "_law_scope", Str.ofString "_law_number_here", Str.ofString "_law_span", Str.ofString "_law_word"], [Str.ofString "_law_draw_here", Str.ofString "_law_high"], f_law_link⟩
def r55 : FR := ⟨.glo (Str.ofString "_law_chain"), ⟨(Str.ofString "", none), Str.ofString "_law_chain", Str.ofString "_law_chain", defArgs (topS 56), defBody (topS 56), defScope (topS 56), [], []⟩, [Str.ofString "_law_draw_here", Str.ofString "_law_high", Str.ofString "_law_count", Str.ofString "_law_rows", Str.ofString "_law_turn"], [Str.ofString "_law_draw_here", Str.ofString "_law_high", Str.ofString "_law_count"], f_law_chain⟩
def r56 : FR := ⟨.glo (Str.ofString "_law_events"), ⟨(Str.ofString "", none), Str.ofString "_law_events", Str.ofString "_law_events", defArgs (topS 57), defBody (topS 57), defScope (topS 57), [], []⟩, [Str.ofString "_law_chain_here", Str.ofString "_law_one"], [Str.ofString "_law_chain_here"], f_law_events⟩
def r57 : FR := ⟨.glo (Str.ofString "_law_new"), ⟨(Str.ofString "", none), Str.ofString "_law_new", Str.ofString "_law_new", defArgs (topS 58), defBody (topS 58), defScope (topS 58), [], []⟩, [Str.ofString "_law_part_here"], [Str.ofString "_law_part_here"], f_law_new⟩
def r58 : FR := ⟨.glo (Str.ofString "_law_start"), ⟨(Str.ofString "", none), Str.ofString "_law_start", Str.ofString "_law_start", defArgs (topS 59), defBody (topS 59), defScope (topS 59), [], []⟩, [Str.ofString "_law_chain_here", Str.ofString "_law_found", Str.ofString "_law_scope", Str.ofString "_law_part_here", Str.ofString "_law_one"], [Str.ofString "_law_chain_here"], f_law_start⟩
def r59 : FR := ⟨.glo (Str.ofString "_law_older"), ⟨(Str.ofString "", none), Str.ofString "_law_older", Str.ofString "_law_older", defArgs (topS 60), defBody (topS 60), defScope (topS 60), [], []⟩, [Str.ofString "_law_part_here", Str.ofString "_law_one", Str.ofString "_law_age", Str.ofString "_law_number_here", Str.ofString "_law_since"], [Str.ofString "_law_part_here", Str.ofString "_law_one"], f_law_older⟩
def r60 : FR := ⟨.glo (Str.ofString "_law_room"), ⟨(Str.ofString "", none), Str.ofString "_law_room", Str.ofString "_law_room", defArgs (topS 61), defBody (topS 61), defScope (topS 61), [], []⟩, [Str.ofString "_law_part_here", Str.ofString "_law_one"], [Str.ofString "_law_part_here", Str.ofString "_law_one"], f_law_room⟩
def r61 : FR := ⟨.glo (Str.ofString "_law_more"), ⟨(Str.ofString "", none), Str.ofString "_law_more", Str.ofString "_law_more", defArgs (topS 62), defBody (topS 62), defScope (topS 62), [], []⟩, [Str.ofString "_law_part_here", Str.ofString "_law_one"], [Str.ofString "_law_part_here", Str.ofString "_law_one"], f_law_more⟩
def r62 : FR := ⟨.glo (Str.ofString "_law_tick"), ⟨(Str.ofString "", none), Str.ofString "_law_tick", Str.ofString "_law_tick", defArgs (topS 63), defBody (topS 63), defScope (topS 63), [], []⟩, [Str.ofString "_law_chain_here", Str.ofString "_law_value", Str.ofString "_law_found", Str.ofString "_law_row", Str.ofString "_law_one", Str.ofString "_law_alone"], [Str.ofString "_law_chain_here", Str.ofString "_law_value"], f_law_tick⟩
def r63 : FR := ⟨.glo (Str.ofString "_law_ask"), ⟨(Str.ofString "", none), Str.ofString "_law_ask", Str.ofString "_law_ask", defArgs (topS 64), defBody (topS 64), defScope (topS 64), [], []⟩, [Str.ofString "_law_chain_here", Str.ofString "_law_value", Str.ofString "_law_who", Str.ofString "_law_rows", Str.ofString "_law_is_let", Str.ofString "_law_at", Str.ofString "_law_row", Str.ofString "_law_one", Str.ofString "_law_late"], [Str.ofString "_law_chain_here", Str.ofString "_law_value", Str.ofString "_law_who"], f_law_ask⟩
def r64 : FR := ⟨.glo (Str.ofString "_law_step"), ⟨(Str.ofString "", none), Str.ofString "_law_step", Str.ofString "_law_step", defArgs (topS 65), defBody (topS 65), defScope (topS 65), [], []⟩, [Str.ofString "_law_chain_here", Str.ofString "_law_value", Str.ofString "_law_event"], [Str.ofString "_law_chain_here", Str.ofString "_law_value", Str.ofString "_law_event"], f_law_step⟩
def r65 : FR := ⟨.glo (Str.ofString "_law_both"), ⟨(Str.ofString "", none), Str.ofString "_law_both", Str.ofString "_law_both", defArgs (topS 66), defBody (topS 66), defScope (topS 66), [], []⟩, [Str.ofString "_law_one", Str.ofString "_law_other", Str.ofString "_law_pair", Str.ofString "_law_found", Str.ofString "_law_event", Str.ofString "_law_mine", Str.ofString "_law_here", Str.ofString "_law_theirs", Str.ofString "_law_there"], [Str.ofString "_law_one", Str.ofString "_law_other", Str.ofString "_law_pair"], f_law_both⟩
def r66 : FR := ⟨.glo (Str.ofString "_law_bad"), ⟨(Str.ofString "", none), Str.ofString "_law_bad", Str.ofString "_law_bad", defArgs (topS 67), defBody (topS 67), defScope (topS 67), [], []⟩, [Str.ofString "_law_mine", Str.ofString "_law_theirs", Str.ofString "_law_is_alike"], [Str.ofString "_law_mine", Str.ofString "_law_theirs", Str.ofString "_law_is_alike"], f_law_bad⟩
def r67 : FR := ⟨.glo (Str.ofString "_law_search"), ⟨(Str.ofString "", none), Str.ofString "_law_search", Str.ofString "_law_search", defArgs (topS 68), defBody (topS 68), defScope (topS 68), [], []⟩, [Str.ofString "_law_one", Str.ofString "_law_other", Str.ofString "_law_is_alike", Str.ofString "_law_limit", Str.ofString "_law_first", Str.ofString "_law_met", Str.ofString "_law_queue", Str.ofString "_law_pair", Str.ofString "_law_event", Str.ofString "_law_mine", Str.ofString "_law_theirs", Str.ofString "_law_late"], [Str.ofString "_law_one", Str.ofString "_law_other", Str.ofString "_law_is_alike", Str.ofString "_law_limit"], f_law_search⟩
def r68 : FR := ⟨.glo (Str.ofString "_law_closed"), ⟨(Str.ofString "", none), Str.ofString "_law_closed", Str.ofString "_law_closed", defArgs (topS 69), defBody (topS 69), defScope (topS 69), [], []⟩, [Str.ofString "_law_one", Str.ofString "_law_other", Str.ofString "_law_pairs", Str.ofString "_law_is_alike", Str.ofString "_law_known", Str.ofString "_law_pair", Str.ofString "_law_event", Str.ofString "_law_mine", Str.ofString "_law_theirs", Str.ofString "_law_late"], [Str.ofString "_law_one", Str.ofString "_law_other", Str.ofString "_law_pairs", Str.ofString "_law_is_alike"], f_law_closed⟩
def r69 : FR := ⟨.glo (Str.ofString "_law_parts"), ⟨(Str.ofString "", none), Str.ofString "_law_parts", Str.ofString "_law_parts", defArgs (topS 70), defBody (topS 70), defScope (topS 70), [], []⟩, [Str.ofString "_law_one", Str.ofString "_law_other", Str.ofString "_law_history", Str.ofString "_law_is_alike", Str.ofString "_law_pair", Str.ofString "_law_is_bad", Str.ofString "_law_event", Str.ofString "_law_mine", Str.ofString "_law_here", Str.ofString "_law_theirs", Str.ofString "_law_there"], [Str.ofString "_law_one", Str.ofString "_law_other", Str.ofString "_law_history", Str.ofString "_law_is_alike"], f_law_parts⟩
def r70 : FR := ⟨.glo (Str.ofString "_law_like"), ⟨(Str.ofString "", none), Str.ofString "_law_like", Str.ofString "_law_like", defArgs (topS 71), defBody (topS 71), defScope (topS 71), [], []⟩, [Str.ofString "_law_draw_here", Str.ofString "_law_chain_here", Str.ofString "_law_sort", Str.ofString "_law_rows", Str.ofString "_law_fee", Str.ofString "_law_at"], [Str.ofString "_law_draw_here", Str.ofString "_law_chain_here"], f_law_like⟩
def r71 : FR := ⟨.glo (Str.ofString "_law_cut"), ⟨(Str.ofString "", none), Str.ofString "_law_cut", Str.ofString "_law_cut", defArgs (topS 72), defBody (topS 72), defScope (topS 72), [], []⟩, [Str.ofString "_law_draw_here", Str.ofString "_law_history", Str.ofString "_law_at", Str.ofString "_law_sort"], [Str.ofString "_law_draw_here", Str.ofString "_law_history"], f_law_cut⟩
def r72 : FR := ⟨.glo (Str.ofString "_law_list"), ⟨(Str.ofString "", none), Str.ofString "_law_list", Str.ofString "_law_list", defArgs (topS 73), defBody (topS 73), defScope (topS 73), [], []⟩, [Str.ofString "_law_pairs", Str.ofString "_law_is_alike"], [Str.ofString "_law_pairs", Str.ofString "_law_is_alike"], f_law_list⟩
def r73 : FR := ⟨.glo (Str.ofString "_law_part"), ⟨(Str.ofString "", none), Str.ofString "_law_part", Str.ofString "_law_part", defArgs (topS 74), defBody (topS 74), defScope (topS 74), [], []⟩, [Str.ofString "_law_history", Str.ofString "_law_is_alike"], [Str.ofString "_law_history", Str.ofString "_law_is_alike"], f_law_part⟩
def r74 : FR := ⟨.glo (Str.ofString "_law_pairs_right"), ⟨(Str.ofString "", none), Str.ofString "_law_pairs_right", Str.ofString "_law_pairs_right", defArgs (topS 75), defBody (topS 75), defScope (topS 75), [], []⟩, [Str.ofString "_law_draw_here", Str.ofString "_law_one", Str.ofString "_law_other", Str.ofString "_law_found", Str.ofString "_law_is_alike", Str.ofString "_law_fits", Str.ofString "_law_gone", Str.ofString "_law_less", Str.ofString "_law_pair", Str.ofString "_law_due"], [Str.ofString "_law_draw_here", Str.ofString "_law_one", Str.ofString "_law_other", Str.ofString "_law_found", Str.ofString "_law_is_alike"], f_law_pairs_right⟩
def r75 : FR := ⟨.glo (Str.ofString "_law_one_right"), ⟨(Str.ofString "", none), Str.ofString "_law_one_right", Str.ofString "_law_one_right", defArgs (topS 76), defBody (topS 76), defScope (topS 76), [], []⟩, [Str.ofString "_law_draw_here", Str.ofString "_law_one", Str.ofString "_law_other", Str.ofString "_law_is_alike", Str.ofString "_law_due", Str.ofString "_law_pairs", Str.ofString "_law_found", Str.ofString "_law_fits", Str.ofString "_law_late"], [Str.ofString "_law_draw_here", Str.ofString "_law_one", Str.ofString "_law_other", Str.ofString "_law_is_alike"], f_law_one_right⟩
def r76 : FR := ⟨.glo (Str.ofString "law"), ⟨(Str.ofString "", none), Str.ofString "law", Str.ofString "law", defArgs (topS 77), defBody (topS 77), defScope (topS 77), [], []⟩, [Str.ofString "_law_script", Str.ofString "_law_by", Str.ofString "_law_draw_here", Str.ofString "_law_count", Str.ofString "_law_one", Str.ofString "_law_other", Str.ofString "_law_is_alike"], [Str.ofString "_law_script"], f_law⟩
def pd : PD where
  cn := [(4, Str.ofString "Chain"), (5, Str.ofString "Comparison"), (6, Str.ofString "Within"), (7, Str.ofString "Escapes"), (8, Str.ofString "Alike"), (9, Str.ofString "Apart")]
  nms := [Str.ofString "MAX_CALLERS", Str.ofString "MAX_LIMIT", Str.ofString "MAX_LINKS", Str.ofString "MAX_PAIRS", Str.ofString "MAX_SPAN", Str.ofString "SCOPES", Str.ofString "TICK", Str.ofString "__eq__", Str.ofString "__init__", Str.ofString "__len__", Str.ofString "__name__", Str.ofString "all_parts", Str.ofString "append", Str.ofString "callers", Str.ofString "charges", Str.ofString "costly", Str.ofString "folk", Str.ofString "found", Str.ofString "histories", Str.ofString "history", Str.ofString "is_alike", Str.ofString "links", Str.ofString "next_layer", Str.ofString "one", Str.ofString "other", Str.ofString "pairs", Str.ofString "part", Str.ofString "pop", Str.ofString "rows", Str.ofString "shows", Str.ofString "update"]
  frs := [(1, r1), (2, r2), (3, r3), (4, r4), (5, r5), (6, r6), (7, r7), (8, r8), (9, r9), (10, r10), (11, r11), (12, r12), (13, r13), (14, r14), (15, r15), (16, r16), (17, r17), (18, r18), (19, r19), (20, r20), (21, r21), (22, r22), (23, r23), (24, r24), (25, r25), (26, r26), (27, r27), (28, r28), (29, r29), (30, r30), (31, r31), (32, r32), (33, r33), (34, r34), (35, r35), (36, r36), (37, r37), (38, r38), (39, r39), (40, r40), (41, r41), (42, r42), (43, r43), (44, r44), (45, r45), (46, r46), (47, r47), (48, r48), (49, r49), (50, r50), (51, r51), (52, r52), (53, r53), (54, r54), (55, r55), (56, r56), (57, r57), (58, r58), (59, r59), (60, r60), (61, r61), (62, r62), (63, r63), (64, r64), (65, r65), (66, r66), (67, r67), (68, r68), (69, r69), (70, r70), (71, r71), (72, r72), (73, r73), (74, r74), (75, r75), (76, r76)]
  mths := [((4, 11), 10), ((5, 22), 30), ((6, 29), 35), ((7, 29), 38), ((8, 29), 41), ((9, 29), 44)]
  prps := [((4, 21), 6), ((4, 13), 7), ((4, 14), 8)]
  lens := []
  eqs := [(4, 9), (6, 34), (7, 37), (8, 40), (9, 43)]
  inits := [(4, (5, true)), (5, (29, false)), (6, (33, true)), (7, (36, true)), (8, (39, true)), (9, (42, true))]
  flds := [(4, 15), (4, 16), (4, 28), (5, 17), (5, 18), (5, 20), (5, 23), (5, 24), (6, 25), (7, 19), (8, 25), (9, 19)]
  glos := [(0, (.int 2)), (1, (.int 4)), (2, (.int 3)), (3, (.int 3000)), (4, (.int 6)), (5, (.tup [(.str (Str.ofString "all")), (.str (Str.ofString "each"))])), (6, (.tup [(.str (Str.ofString "tick"))])), (10, (.str (Str.ofString "law_limitwithin_k02_whole_comparing")))]
  blts := [Str.ofString "all", Str.ofString "bool", Str.ofString "dict", Str.ofString "enumerate", Str.ofString "int", Str.ofString "isinstance", Str.ofString "len", Str.ofString "list", Str.ofString "max", Str.ofString "min", Str.ofString "range", Str.ofString "str", Str.ofString "tuple", Str.ofString "zip"]
  mkk := fun c s => match c, s with
    | 5, 0 => some (3, [])
    | 6, 1 => some (1, [])
    | 7, 1 => some (1, [])
    | 8, 1 => some (1, [])
    | 9, 1 => some (1, [])
    | 4, 2 => some (1, [Str.ofString "callers", Str.ofString "charges"])
    | _, _ => none
  shape := fun s xs ys => match s, xs, ys with
    | 0, [x0, x1, x2], [] => some [x0, x1, x2]
    | 1, [x0], [] => some [x0]
    | 2, [x0], [y0, y1] => some [x0, y0, y1]
    | _, _, _ => none
  fuel := 1000000000
  leq := 7
  llen := 9
theorem F_is_integer : pd.F 1 = some f_is_integer := rfl
theorem F_is_word : pd.F 2 = some f_is_word := rfl
theorem F_is_part : pd.F 3 = some f_is_part := rfl
theorem F_is_link : pd.F 4 = some f_is_link := rfl
theorem F_Chain_init : pd.F 5 = some f_Chain_init := rfl
theorem F_Chain_links : pd.F 6 = some f_Chain_links := rfl
theorem F_Chain_callers : pd.F 7 = some f_Chain_callers := rfl
theorem F_Chain_charges : pd.F 8 = some f_Chain_charges := rfl
theorem F_Chain_eq : pd.F 9 = some f_Chain_eq := rfl
theorem F_Chain_all_parts : pd.F 10 = some f_Chain_all_parts := rfl
theorem F_check_chain : pd.F 11 = some f_check_chain := rfl
theorem F_events_of : pd.F 12 = some f_events_of := rfl
theorem F_first_of : pd.F 13 = some f_first_of := rfl
theorem F_ticked : pd.F 14 = some f_ticked := rfl
theorem F_does_let : pd.F 15 = some f_does_let := rfl
theorem F_counted : pd.F 16 = some f_counted := rfl
theorem F_first_state : pd.F 17 = some f_first_state := rfl
theorem F_after_tick : pd.F 18 = some f_after_tick := rfl
theorem F_lets_at : pd.F 19 = some f_lets_at := rfl
theorem F_counted_at : pd.F 20 = some f_counted_at := rfl
theorem F_answer_at : pd.F 21 = some f_answer_at := rfl
theorem F_after_ask : pd.F 22 = some f_after_ask := rfl
theorem F_after_event : pd.F 23 = some f_after_event := rfl
theorem F_check_two : pd.F 24 = some f_check_two := rfl
theorem F_steps_from : pd.F 25 = some f_steps_from := rfl
theorem F_breaks_within : pd.F 26 = some f_breaks_within := rfl
theorem F_breaks_alike : pd.F 27 = some f_breaks_alike := rfl
theorem F_goes_on : pd.F 28 = some f_goes_on := rfl
theorem F_Comparison_init : pd.F 29 = some f_Comparison_init := rfl
theorem F_Comparison_next_layer : pd.F 30 = some f_Comparison_next_layer := rfl
theorem F_is_closed : pd.F 31 = some f_is_closed := rfl
theorem F_is_parting : pd.F 32 = some f_is_parting := rfl
theorem F_Within_init : pd.F 33 = some f_Within_init := rfl
theorem F_Within_eq : pd.F 34 = some f_Within_eq := rfl
theorem F_Within_shows : pd.F 35 = some f_Within_shows := rfl
theorem F_Escapes_init : pd.F 36 = some f_Escapes_init := rfl
theorem F_Escapes_eq : pd.F 37 = some f_Escapes_eq := rfl
theorem F_Escapes_shows : pd.F 38 = some f_Escapes_shows := rfl
theorem F_Alike_init : pd.F 39 = some f_Alike_init := rfl
theorem F_Alike_eq : pd.F 40 = some f_Alike_eq := rfl
theorem F_Alike_shows : pd.F 41 = some f_Alike_shows := rfl
theorem F_Apart_init : pd.F 42 = some f_Apart_init := rfl
theorem F_Apart_eq : pd.F 43 = some f_Apart_eq := rfl
theorem F_Apart_shows : pd.F 44 = some f_Apart_shows := rfl
theorem F_within : pd.F 45 = some f_within := rfl
theorem F_is_within : pd.F 46 = some f_is_within := rfl
theorem F_alike : pd.F 47 = some f_alike := rfl
theorem F_are_alike : pd.F 48 = some f_are_alike := rfl
theorem F_law_cell_at : pd.F 49 = some f_law_cell_at := rfl
theorem F_law_draw : pd.F 50 = some f_law_draw := rfl
theorem F_law_number : pd.F 51 = some f_law_number := rfl
theorem F_law_next : pd.F 52 = some f_law_next := rfl
theorem F_law_pick : pd.F 53 = some f_law_pick := rfl
theorem F_law_link : pd.F 54 = some f_law_link := rfl
theorem F_law_chain : pd.F 55 = some f_law_chain := rfl
theorem F_law_events : pd.F 56 = some f_law_events := rfl
theorem F_law_new : pd.F 57 = some f_law_new := rfl
theorem F_law_start : pd.F 58 = some f_law_start := rfl
theorem F_law_older : pd.F 59 = some f_law_older := rfl
theorem F_law_room : pd.F 60 = some f_law_room := rfl
theorem F_law_more : pd.F 61 = some f_law_more := rfl
theorem F_law_tick : pd.F 62 = some f_law_tick := rfl
theorem F_law_ask : pd.F 63 = some f_law_ask := rfl
theorem F_law_step : pd.F 64 = some f_law_step := rfl
theorem F_law_both : pd.F 65 = some f_law_both := rfl
theorem F_law_bad : pd.F 66 = some f_law_bad := rfl
theorem F_law_search : pd.F 67 = some f_law_search := rfl
theorem F_law_closed : pd.F 68 = some f_law_closed := rfl
theorem F_law_parts : pd.F 69 = some f_law_parts := rfl
theorem F_law_like : pd.F 70 = some f_law_like := rfl
theorem F_law_cut : pd.F 71 = some f_law_cut := rfl
theorem F_law_list : pd.F 72 = some f_law_list := rfl
theorem F_law_part : pd.F 73 = some f_law_part := rfl
theorem F_law_pairs_right : pd.F 74 = some f_law_pairs_right := rfl
theorem F_law_one_right : pd.F 75 = some f_law_one_right := rfl
theorem F_law : pd.F 76 = some f_law := rfl
theorem stat : pd.stat = true := by decide +kernel
end K02

set_option Elab.async false
set_option linter.all false
set_option maxRecDepth 100000
set_option maxHeartbeats 1000000
namespace K02
open PySem PySem.Spec PyProof.Rows L2 He MC
def cl : Nat → Nat → List D → Hs → Res D := callM pd.tab pd.F
/-! ### plain data -/
mutual
inductive Dt : Nat → D → Prop
  | non (n : Nat) : Dt n .non
  | bl (n : Nat) (b : Bool) : Dt n (.bl b)
  | int (n : Nat) (i : Int) : Dt n (.int i)
  | str (n : Nat) {x : Str} (ok : PyData.strOk x = true) : Dt n (.str x)
  | tup {n : Nat} {xs : List D} : DtL n xs → Dt (n + 1) (.tup xs)
  | lst {n : Nat} {xs : List D} : DtL n xs → Dt (n + 1) (.lst xs)
inductive DtL : Nat → List D → Prop
  | nil (n : Nat) : DtL n []
  | cons {n : Nat} {x : D} {xs : List D} : Dt n x → DtL n xs → DtL n (x :: xs)
end
mutual
theorem Dt.py {n : Nat} : ∀ {d : D}, Dt n d → ∃ x, d.pyQ = some x ∧ x.canLay0 = true ∧ x.depth ≤ n
  | _, .non _ => ⟨_, rfl, rfl, Nat.zero_le _⟩
  | _, .bl _ _ => ⟨_, rfl, rfl, Nat.zero_le _⟩
  | _, .int _ _ => ⟨_, rfl, rfl, Nat.zero_le _⟩
  | _, .str _ ok => ⟨_, rfl, ok, Nat.zero_le _⟩
  | _, .tup h => by
    obtain ⟨xs, e1, e2, e3⟩ := h.py
    exact ⟨.tuple xs, by simp [D.pyQ, e1], by simpa [PyData.canLay0] using e2, by simp [PyData.depth]; exact e3⟩
  | _, .lst h => by
    obtain ⟨xs, e1, e2, e3⟩ := h.py
    exact ⟨.list xs, by simp [D.pyQ, e1], by simpa [PyData.canLay0] using e2, by simp [PyData.depth]; exact e3⟩
theorem DtL.py {n : Nat} : ∀ {d : List D}, DtL n d → ∃ x, D.pyP d = some x ∧ PyData.canLayAll0 x = true ∧ PyData.depthAll x ≤ n
  | _, .nil _ => ⟨_, rfl, rfl, Nat.zero_le _⟩
  | _, .cons h t => by
    obtain ⟨x, e1, e2, e3⟩ := h.py
    obtain ⟨xs, f1, f2, f3⟩ := t.py
    exact ⟨x :: xs, by simp [D.pyP, e1, f1], by simp [PyData.canLayAll0, e2, f2], by simp [PyData.depthAll]; omega⟩
end
mutual
theorem eqv_self : ∀ {n : Nat} {d : D} {x : PyData}, Dt n d → d.pyQ = some x → PyData.eqv x x = true
  | _, _, _, .non _, e => by cases e; rfl
  | _, _, _, .bl _ _, e => by cases e; simp [PyData.eqv]
  | _, _, _, .int _ _, e => by cases e; simp [PyData.eqv]
  | _, _, _, .str _ _, e => by cases e; simp [PyData.eqv]
  | _, _, _, .tup h, e => by
    obtain ⟨xs, e1, _, _⟩ := h.py
    simp only [D.pyQ, e1, Option.map_some, Option.some.injEq] at e
    subst e
    simpa [PyData.eqv] using eqvL_self h e1
  | _, _, _, .lst h, e => by
    obtain ⟨xs, e1, _, _⟩ := h.py
    simp only [D.pyQ, e1, Option.map_some, Option.some.injEq] at e
    subst e
    simpa [PyData.eqv] using eqvL_self h e1
theorem eqvL_self : ∀ {n : Nat} {d : List D} {x : List PyData}, DtL n d → D.pyP d = some x → PyData.eqvAll x x = true
  | _, _, _, .nil _, e => by cases e; rfl
  | _, _, _, .cons h t, e => by
    obtain ⟨x, e1, _, _⟩ := h.py
    obtain ⟨xs, f1, _, _⟩ := t.py
    simp only [D.pyP, e1, f1, Option.some.injEq] at e
    subst e
    simp [PyData.eqvAll, eqv_self h e1, eqvL_self t f1]
end
theorem Dt.noref {n : Nat} {d : D} (hd : Dt n d) (h : Hs) : d.py h = d.pyQ := by
  cases hd <;> rfl
theorem eqD_self {n : Nat} {d : D} (hd : Dt n d) (hn : n ≤ 64) (h : Hs) : eqD h d d = some true := by
  obtain ⟨x, e1, e2, e3⟩ := hd.py
  unfold eqD
  rw [hd.noref, e1]
  simp [SeqAt.shaped, e2, eqv_self hd e1]
  omega
theorem eqD_int (h : Hs) (i j : Int) : eqD h (.int i) (.int j) = some (decide (i = j)) := by
  simp [eqD, D.py, D.pyQ, SeqAt.shaped, PyData.eqv, PyData.canLay0, PyData.depth]
  rfl
theorem eqD_str (h : Hs) (x y : Str) (hx : PyData.strOk x = true) (hy : PyData.strOk y = true) : eqD h (.str x) (.str y) = some (decide (x = y)) := by
  simp [eqD, D.py, D.pyQ, SeqAt.shaped, PyData.eqv, PyData.canLay0, PyData.depth, hx, hy]
  rfl
/-! ### written texts -/
@[simp] theorem ne_bucket_window : (Str.ofString "bucket" = Str.ofString "window") = False := eq_false (by decide +kernel)
@[simp] theorem ne_bucket_slide : (Str.ofString "bucket" = Str.ofString "slide") = False := eq_false (by decide +kernel)
@[simp] theorem ne_bucket_gap : (Str.ofString "bucket" = Str.ofString "gap") = False := eq_false (by decide +kernel)
@[simp] theorem ne_window_bucket : (Str.ofString "window" = Str.ofString "bucket") = False := eq_false (by decide +kernel)
@[simp] theorem ne_window_slide : (Str.ofString "window" = Str.ofString "slide") = False := eq_false (by decide +kernel)
@[simp] theorem ne_window_gap : (Str.ofString "window" = Str.ofString "gap") = False := eq_false (by decide +kernel)
@[simp] theorem ne_slide_bucket : (Str.ofString "slide" = Str.ofString "bucket") = False := eq_false (by decide +kernel)
@[simp] theorem ne_slide_window : (Str.ofString "slide" = Str.ofString "window") = False := eq_false (by decide +kernel)
@[simp] theorem ne_slide_gap : (Str.ofString "slide" = Str.ofString "gap") = False := eq_false (by decide +kernel)
@[simp] theorem ne_gap_bucket : (Str.ofString "gap" = Str.ofString "bucket") = False := eq_false (by decide +kernel)
@[simp] theorem ne_gap_window : (Str.ofString "gap" = Str.ofString "window") = False := eq_false (by decide +kernel)
@[simp] theorem ne_gap_slide : (Str.ofString "gap" = Str.ofString "slide") = False := eq_false (by decide +kernel)
@[simp] theorem ne_all_each : (Str.ofString "all" = Str.ofString "each") = False := eq_false (by decide +kernel)
@[simp] theorem ne_each_all : (Str.ofString "each" = Str.ofString "all") = False := eq_false (by decide +kernel)
@[simp] theorem ne_tick_ask : (Str.ofString "tick" = Str.ofString "ask") = False := eq_false (by decide +kernel)
@[simp] theorem ne_ask_tick : (Str.ofString "ask" = Str.ofString "tick") = False := eq_false (by decide +kernel)
@[simp] theorem sok_bucket : PyData.strOk (Str.ofString "bucket") = true := by decide +kernel
@[simp] theorem sok_window : PyData.strOk (Str.ofString "window") = true := by decide +kernel
@[simp] theorem sok_slide : PyData.strOk (Str.ofString "slide") = true := by decide +kernel
@[simp] theorem sok_gap : PyData.strOk (Str.ofString "gap") = true := by decide +kernel
@[simp] theorem sok_all : PyData.strOk (Str.ofString "all") = true := by decide +kernel
@[simp] theorem sok_each : PyData.strOk (Str.ofString "each") = true := by decide +kernel
@[simp] theorem sok_tick : PyData.strOk (Str.ofString "tick") = true := by decide +kernel
@[simp] theorem sok_ask : PyData.strOk (Str.ofString "ask") = true := by decide +kernel
/-! ### parts and what they count -/
inductive Pt where
  | bk (n s : Int) | wd (n s : Int) | sl (n s : Int) | gp (s : Int)
inductive On where
  | pr (t z : Int) | ag (xs : List Int) | gp (g : Int)
deriving DecidableEq
def Pt.d : Pt → D
  | .bk n s => .tup [.str (Str.ofString "bucket"), .int n, .int s]
  | .wd n s => .tup [.str (Str.ofString "window"), .int n, .int s]
  | .sl n s => .tup [.str (Str.ofString "slide"), .int n, .int s]
  | .gp s => .tup [.str (Str.ofString "gap"), .int s]
def On.d : On → D
  | .pr t z => .tup [.int t, .int z]
  | .ag xs => .tup (xs.map D.int)
  | .gp g => .int g
/-- a count that goes with a part -/
def fit : Pt → On → Prop
  | .bk _ s, .pr _ z => z + 1 ≤ s
  | .wd _ s, .pr _ z => z + 1 ≤ s
  | .sl _ _, .ag xs => xs.length ≤ 1000
  | .gp _, .gp _ => True
  | _, _ => False
def tick : Pt → On → On
  | .bk n s, .pr t z => if z + 1 = s then .pr (if t + 1 < n then t + 1 else n) 0 else .pr t (z + 1)
  | .wd n s, .pr t z => if z + 1 = s then .pr 0 0 else .pr t (z + 1)
  | .sl n s, .ag xs => .ag ((xs.map (· + 1)).filter fun a => decide (a < s))
  | .gp s, .gp g => .gp (if g - 1 > 0 then g - 1 else 0)
  | _, o => o
def lets : Pt → On → Bool
  | .bk _ _, .pr t _ => decide (0 < t)
  | .wd n _, .pr t _ => decide (t < n)
  | .sl n _, .ag xs => decide ((xs.length : Int) < n)
  | .gp _, .gp g => decide (g = 0)
  | _, _ => false
def more : Pt → On → On
  | .bk _ _, .pr t z => .pr (t - 1) z
  | .wd _ _, .pr t z => .pr (t + 1) z
  | .sl _ _, .ag xs => .ag (xs ++ [0])
  | .gp s, .gp _ => .gp s
  | _, o => o
def fst : Pt → On
  | .bk n _ => .pr n 0
  | .wd _ _ => .pr 0 0
  | .sl _ _ => .ag []
  | .gp _ => .gp 0
end K02

set_option Elab.async false
set_option linter.all false
set_option maxRecDepth 100000
set_option maxHeartbeats 1000000
namespace K02
open PySem PySem.Spec PyProof.Rows L2 He MC
theorem p_first (k : Nat) (p : Pt) (h : Hs) : cl (k+1) 13 [p.d] h = .ok (fst p).d h := by
  cases p <;> simp [cl, callM, F_first_of, Pt.d, On.d, fst, f_first_of, startM, evB, evS, evE, evC, evA, evG, evGL, Res.bind, Res.of, idxD, atD, L2.ixN, back, sizeLine]
theorem p_lets (k : Nat) (p : Pt) (o : On) (h : Hs) (hf : fit p o) : cl (k+1) 15 [p.d, o.d] h = .ok (.bl (lets p o)) h := by
  cases p <;> cases o <;> first | exact hf.elim | simp [cl, callM, F_does_let, Pt.d, On.d, lets, f_does_let, startM, evB, evS, evE, evC, evA, evG, evGL, Res.bind, Res.of, idxD, atD, L2.ixN, opCmp, eqD_int, biD, D.seq, back, sizeLine]
theorem p_more (k : Nat) (p : Pt) (o : On) (h : Hs) (hf : fit p o) : cl (k+1) 16 [p.d, o.d] h = .ok (more p o).d h := by
  cases p <;> cases o <;> first | exact hf.elim | skip
  case sl.ag n s xs =>
    have hl : xs.length + 1 ≤ 16777216 := by simp [fit] at hf; omega
    simp [cl, callM, F_counted, Pt.d, On.d, more, f_counted, startM, evB, evS, evE, evC, evA, evG, evGL, Res.bind, Res.of, idxD, atD, L2.ixN, opCmp, opBin, opAdd, eqD_int, biD, D.seq, back, sizeLine, hl]
  all_goals simp [cl, callM, F_counted, Pt.d, On.d, more, f_counted, startM, evB, evS, evE, evC, evA, evG, evGL, Res.bind, Res.of, idxD, atD, L2.ixN, opCmp, opBin, opAdd, eqD_int, biD, D.seq, back, sizeLine]
theorem ints_nr (xs : List Int) : ∀ y ∈ xs.map D.int, y.nr = true := by
  intro y hy
  obtain ⟨i, _, rfl⟩ := List.mem_map.mp hy
  rfl
def older (s : Int) : D → Option D
  | .int a => if a + 1 < s then some (.int (a + 1)) else none
  | _ => none
theorem older_map (s : Int) : ∀ xs : List Int, (xs.map D.int).filterMap (older s) = (((xs.map (· + 1)).filter fun a => decide (a < s)).map D.int)
  | [] => rfl
  | x :: xs => by
    rw [List.map_cons, List.filterMap_cons, older_map s xs]
    by_cases h : x + 1 < s
    · simp [older, h]
    · simp [older, h]
theorem lc_age {c : Nat → List D → Hs → Res D} {v w : Nat} (hv : v < 4 ∨ True) (n s : Int) (xs : List Int) (nm : Str) (σ : Sg) (h : Hs) (hw : w < σ.length) (h0 : 0 ≠ w) (h1 : 1 ≠ w) (e0 : σ[0]? = some (some (.tup [.str nm, .int n, .int s]))) (e1 : σ[1]? = some (some (.tup (xs.map D.int)))) (hl : xs.length ≤ 1000) :
    evE pd.tab c (.lc true [w] (.bin .Add (.var w) (.cst (.int 1))) (.nm w) (.val (.var 1)) (.some (.cmp .Lt (.bin .Add (.var w) (.cst (.int 1))) (.idx (.var 0) (.cst (.int 2)))))) σ h = .ok (.lst (((xs.map (· + 1)).filter fun a => decide (a < s)).map D.int)) h := by
  rw [← older_map]
  refine lc_pure (by simp [evI, evE, e1, Res.bind]) (by simp [sizeLine]; omega) ?_ ?_
  · intro x hx g
    obtain ⟨i, _, rfl⟩ := List.mem_map.mp hx
    refine ⟨_, rfl, ?_⟩
    by_cases hi : i + 1 < s
    · exact .inr ⟨.int (i + 1), by simp [older, hi], by simp [evOT, evE, wipeM, Res.bind, Res.of, List.getElem?_set, hw, h0.symm, e0, opBin, opAdd, idxD, atD, L2.ixN, opCmp, tst, tru, hi], by simp [evE, wipeM, Res.bind, Res.of, List.getElem?_set, hw, opBin, opAdd]⟩
    · exact .inl ⟨by simp [older, hi], by simp [evOT, evE, wipeM, Res.bind, Res.of, List.getElem?_set, hw, h0.symm, e0, opBin, opAdd, idxD, atD, L2.ixN, opCmp, tst, tru, hi]⟩
  · rw [older_map]; exact ints_nr _
theorem p_tick (k : Nat) (p : Pt) (o : On) (h : Hs) (hf : fit p o) : cl (k+1) 14 [p.d, o.d] h = .ok (tick p o).d h := by
  cases p <;> cases o <;> first | exact hf.elim | skip
  case sl.ag n s xs =>
    simp only [fit] at hf
    have e : ∀ σ h (hw : 5 < σ.length) e0 e1, evE pd.tab (callM pd.tab pd.F k) c_ticked_1 σ h = _ := fun σ h hw e0 e1 => lc_age (c := callM pd.tab pd.F k) (v := 1) (w := 5) (.inr trivial) n s xs (Str.ofString "slide") σ h hw (by decide) (by decide) e0 e1 hf
    simp [cl, callM, F_ticked, Pt.d, On.d, tick, f_ticked, startM, evB, evS, evE, evC, evA, evG, evGL, Res.bind, Res.of, idxD, atD, L2.ixN, opCmp, opBin, opAdd, eqD_int, biD, D.seq, back, sizeLine, tst, tru, e]
  case bk.pr n s t z =>
    by_cases hz : z + 1 = s <;> by_cases ht : t + 1 < n <;>
    simp [cl, callM, F_ticked, Pt.d, On.d, tick, f_ticked, startM, evB, evS, evE, evC, evA, evG, evGL, Res.bind, Res.of, idxD, atD, L2.ixN, opCmp, opBin, opAdd, eqD_int, biD, D.seq, back, sizeLine, tst, tru, hz, ht]
  case wd.pr n s t z =>
    by_cases hz : z + 1 = s <;>
    simp [cl, callM, F_ticked, Pt.d, On.d, tick, f_ticked, startM, evB, evS, evE, evC, evA, evG, evGL, Res.bind, Res.of, idxD, atD, L2.ixN, opCmp, opBin, opAdd, eqD_int, biD, D.seq, back, sizeLine, tst, tru, hz]
  case gp.gp s g =>
    simp [cl, callM, F_ticked, Pt.d, On.d, tick, f_ticked, startM, evB, evS, evE, evC, evA, evG, evGL, Res.bind, Res.of, idxD, atD, L2.ixN, opCmp, opBin, opAdd, eqD_int, biD, D.seq, back, sizeLine, tst, tru]
end K02
namespace K02
open PySem PySem.Spec PyProof.Rows L2 He MC
theorem l_new (k : Nat) (p : Pt) (h : Hs) : cl (k+1) 57 [p.d] h = .ok (fst p).d h := by
  cases p <;> simp [cl, callM, F_law_new, Pt.d, On.d, fst, f_law_new, startM, evB, evS, evE, evC, evA, evG, evGL, Res.bind, Res.of, idxD, atD, L2.ixN, kvsS, lookS, back, sizeLine]
theorem l_room (k : Nat) (p : Pt) (o : On) (h : Hs) (hf : fit p o) : cl (k+1) 60 [p.d, o.d] h = .ok (.bl (lets p o)) h := by
  cases p <;> cases o <;> first | exact hf.elim | simp [cl, callM, F_law_room, Pt.d, On.d, lets, f_law_room, startM, evB, evS, evE, evC, evA, evG, evGL, Res.bind, Res.of, idxD, atD, L2.ixN, opCmp, eqD_int, eqD_str, biD, D.seq, back, sizeLine, tst, tru]
  all_goals (try omega)
theorem l_more (k : Nat) (p : Pt) (o : On) (h : Hs) (hf : fit p o) : cl (k+1) 61 [p.d, o.d] h = .ok (more p o).d h := by
  cases p <;> cases o <;> first | exact hf.elim | skip
  case sl.ag n s xs =>
    have hl : xs.length + 1 ≤ 16777216 := by simp [fit] at hf; omega
    simp [cl, callM, F_law_more, Pt.d, On.d, more, f_law_more, startM, evB, evS, evE, evC, evA, evG, evGL, Res.bind, Res.of, idxD, atD, L2.ixN, opCmp, opBin, opAdd, eqD_int, eqD_str, biD, D.seq, back, sizeLine, tst, tru, hl]
  all_goals simp [cl, callM, F_law_more, Pt.d, On.d, more, f_law_more, startM, evB, evS, evE, evC, evA, evG, evGL, Res.bind, Res.of, idxD, atD, L2.ixN, opCmp, opBin, opAdd, eqD_int, eqD_str, biD, D.seq, back, sizeLine, tst, tru]
  all_goals (try omega)
end K02

set_option Elab.async false
set_option linter.all false
set_option maxRecDepth 100000
set_option maxHeartbeats 1000000
namespace K02
open PySem PySem.Spec PyProof.Rows L2 He MC
theorem l_older (k : Nat) (p : Pt) (o : On) (h : Hs) (hf : fit p o) : cl (k+1) 59 [p.d, o.d] h = .ok (tick p o).d h := by
  cases p <;> cases o <;> first | exact hf.elim | skip
  case sl.ag n s xs =>
    simp only [fit] at hf
    have e : ∀ σ h (hw : 2 < σ.length) e0 e1, evE pd.tab (callM pd.tab pd.F k) c_law_older_1 σ h = _ := fun σ h hw e0 e1 => lc_age (c := callM pd.tab pd.F k) (v := 1) (w := 2) (.inr trivial) n s xs (Str.ofString "slide") σ h hw (by decide) (by decide) e0 e1 hf
    simp [cl, callM, F_law_older, Pt.d, On.d, tick, f_law_older, startM, evB, evS, evE, evC, evA, evG, evGL, Res.bind, Res.of, idxD, atD, L2.ixN, opCmp, opBin, opAdd, eqD_int, eqD_str, biD, D.seq, back, sizeLine, tst, tru, e]
  case bk.pr n s t z =>
    simp only [fit] at hf
    by_cases hz : z + 1 = s
    · have h1 : ¬ (z + 1 < s) := by omega
      by_cases ht : t + 1 < n <;>
      simp [cl, callM, F_law_older, Pt.d, On.d, tick, f_law_older, startM, evB, evS, evE, evC, evA, evG, evGL, Res.bind, Res.of, idxD, atD, L2.ixN, opCmp, opBin, opAdd, eqD_int, eqD_str, biD, D.seq, back, sizeLine, tst, tru, hz, ht, h1]
    · have h1 : z + 1 < s := by omega
      simp [cl, callM, F_law_older, Pt.d, On.d, tick, f_law_older, startM, evB, evS, evE, evC, evA, evG, evGL, Res.bind, Res.of, idxD, atD, L2.ixN, opCmp, opBin, opAdd, eqD_int, eqD_str, biD, D.seq, back, sizeLine, tst, tru, hz, h1]
  case wd.pr n s t z =>
    simp only [fit] at hf
    by_cases hz : z + 1 = s
    · have h1 : ¬ (z + 1 < s) := by omega
      simp [cl, callM, F_law_older, Pt.d, On.d, tick, f_law_older, startM, evB, evS, evE, evC, evA, evG, evGL, Res.bind, Res.of, idxD, atD, L2.ixN, opCmp, opBin, opAdd, eqD_int, eqD_str, biD, D.seq, back, sizeLine, tst, tru, hz, h1]
    · have h1 : z + 1 < s := by omega
      simp [cl, callM, F_law_older, Pt.d, On.d, tick, f_law_older, startM, evB, evS, evE, evC, evA, evG, evGL, Res.bind, Res.of, idxD, atD, L2.ixN, opCmp, opBin, opAdd, eqD_int, eqD_str, biD, D.seq, back, sizeLine, tst, tru, hz, h1]
  case gp.gp s g =>
    by_cases hg : 0 < g
    · have e : (if g - 1 > 0 then g - 1 else 0) = g - 1 := by split <;> omega
      simp [cl, callM, F_law_older, Pt.d, On.d, tick, f_law_older, startM, evB, evS, evE, evC, evA, evG, evGL, Res.bind, Res.of, idxD, atD, L2.ixN, opCmp, opBin, opAdd, eqD_int, eqD_str, biD, D.seq, back, sizeLine, tst, tru, hg]
      omega
    · have e : (if g - 1 > 0 then g - 1 else 0) = 0 := by split <;> omega
      simp [cl, callM, F_law_older, Pt.d, On.d, tick, f_law_older, startM, evB, evS, evE, evC, evA, evG, evGL, Res.bind, Res.of, idxD, atD, L2.ixN, opCmp, opBin, opAdd, eqD_int, eqD_str, biD, D.seq, back, sizeLine, tst, tru, hg]
      omega
/-! ### what fits stays so -/
theorem fit_tick {p : Pt} {o : On} (hf : fit p o) (hs : ∀ n s, (p = .bk n s ∨ p = .wd n s) → 1 ≤ s) : fit p (tick p o) := by
  cases p <;> cases o <;> first | exact hf.elim | skip
  case bk.pr n s t z =>
    have := hs n s (.inl rfl)
    have hf : z + 1 ≤ s := hf
    simp only [tick]
    split
    · show 0 + 1 ≤ s; omega
    · show z + 1 + 1 ≤ s; omega
  case wd.pr n s t z =>
    have := hs n s (.inr rfl)
    have hf : z + 1 ≤ s := hf
    simp only [tick]
    split
    · show 0 + 1 ≤ s; omega
    · show z + 1 + 1 ≤ s; omega
  case sl.ag n s xs =>
    have hf : xs.length ≤ 1000 := hf
    have := List.length_filter_le (fun a => decide (a < s)) (xs.map (· + 1))
    rw [List.length_map] at this
    show (List.filter _ _).length ≤ 1000
    exact Nat.le_trans this hf
  case gp.gp s g => trivial
/-! ### chains -/
structure Lk where
  all : Bool
  p : Pt
def Lk.sc (l : Lk) : Str := if l.all then Str.ofString "all" else Str.ofString "each"
def Lk.d (l : Lk) : D := .tup [.str l.sc, l.p.d]
structure Ch where
  rows : List Lk
  folk : Nat
  costly : Bool
def Ch.rd (c : Ch) : D := .tup (c.rows.map Lk.d)
def Ch.d (c : Ch) : D := .ins 4 [(28, c.rd), (16, .int c.folk), (15, .bl c.costly)]
inductive Sl where
  | al (o : On) | ea (os : List On)
deriving DecidableEq
def Sl.d : Sl → D
  | .al o => o.d
  | .ea os => .tup (os.map On.d)
def fitS (n : Nat) (l : Lk) : Sl → Prop
  | .al o => l.all = true ∧ fit l.p o
  | .ea os => l.all = false ∧ os.length = n ∧ ∀ o ∈ os, fit l.p o
inductive FitV (n : Nat) : List Lk → List Sl → Prop
  | nil : FitV n [] []
  | cons {l : Lk} {s : Sl} {ls : List Lk} {ss : List Sl} : fitS n l s → FitV n ls ss → FitV n (l :: ls) (s :: ss)
def vD (ss : List Sl) : D := .tup (ss.map Sl.d)
end K02

set_option Elab.async false
set_option linter.all false
set_option maxRecDepth 100000
set_option maxHeartbeats 1000000
namespace MC
/-- a loop that puts an item behind the list that stands last -/
theorem loop_app {α : Type} {en f : α → D} {tg : D → Sg → Hs → Res Sg} {bd : Sg → Hs → R2} {g : Hs} {Inv : Sg → Prop} : ∀ {as : List α} {σ : Sg} {acc : List D}, Inv σ → acc.length + as.length ≤ PySem.sizeLine →
    (∀ a ∈ as, ∀ σ acc, Inv σ → acc.length < PySem.sizeLine → ∃ σ1 σ', tg (en a) σ (g ++ [.lst acc]) = .ok σ1 (g ++ [.lst acc]) ∧ bd σ1 (g ++ [.lst acc]) = .ok (.nx, σ') (g ++ [.lst (acc ++ [f a])]) ∧ Inv σ') →
    ∃ σf, loopF tg bd (as.map en) σ (g ++ [.lst acc]) = .ok (.nx, σf) (g ++ [.lst (acc ++ as.map f)]) ∧ Inv σf
  | [], σ, acc, hi, _, _ => ⟨σ, by simp [loopF], hi⟩
  | x :: xs, σ, acc, hi, hl, hx => by
    simp only [List.length_cons] at hl
    obtain ⟨σ1, σ', e1, e2, h2⟩ := hx x (List.mem_cons_self ..) σ acc hi (by omega)
    obtain ⟨σf, e3, h3⟩ := loop_app (as := xs) (acc := acc ++ [f x]) h2 (by simp; omega) fun y hy => hx y (List.mem_cons_of_mem _ hy)
    refine ⟨σf, ?_, h3⟩
    simp only [List.map_cons, loopF, e1, e2, Res.bind, e3]
    simp
end MC
namespace K02
open PySem PySem.Spec PyProof.Rows L2 He MC
theorem call_eq {k f : Nat} {fn : Fn} (e : pd.F f = some fn) (xs : List D) (h : Hs) : cl (k + 1) f xs h = if xs.length = fn.ar then (evB pd.tab (cl k) fn.body (startM fn.ns xs) h).bind fun r h' => (match r.1 with
        | .rt d => back fn.fz h d h'
        | .nx => back fn.fz h .non h'
        | _ => .no) else .no := by
  simp only [cl, callM, e]
  try rfl
theorem On.nr (o : On) : o.d.nr = true := by
  cases o with
  | pr t z => rfl
  | ag xs =>
    show D.nrL (xs.map D.int) = true
    induction xs with
    | nil => rfl
    | cons x xs ih => simp [D.nrL, D.nr, ih]
  | gp g => rfl
theorem Ons.nr (os : List On) : D.nrL (os.map On.d) = true := by
  induction os with
  | nil => rfl
  | cons x xs ih => simp [D.nrL, On.nr, ih]
theorem Sl.nr (s : Sl) : s.d.nr = true := by
  cases s with
  | al o => exact o.nr
  | ea os => exact Ons.nr os
theorem Sls.nr (ss : List Sl) : D.nrL (ss.map Sl.d) = true := by
  induction ss with
  | nil => rfl
  | cons x xs ih => simp [D.nrL, Sl.nr, ih]
def fstS (n : Nat) (l : Lk) : Sl := if l.all then .al (fst l.p) else .ea (List.replicate n (fst l.p))
@[simp] theorem fok_rows : pd.tab.fok 4 28 = true := by decide +kernel
@[simp] theorem fok_folk : pd.tab.fok 4 16 = true := by decide +kernel
@[simp] theorem fok_costly : pd.tab.fok 4 15 = true := by decide +kernel
theorem Ch.rows_fld (c : Ch) (h : Hs) : c.d.fields h = some (4, [(28, c.rd), (16, .int c.folk), (15, .bl c.costly)]) := rfl
theorem rep_flat (n : Nat) (x : D) : (List.replicate n [x]).flatten = List.replicate n x := by
  induction n with
  | zero => rfl
  | succ n ih => simp [List.replicate_succ, ih]
theorem p_firstS (k : Nat) (c : Ch) (h : Hs) (h1 : 1 ≤ c.folk) (h2 : c.folk ≤ 1000) (hr : c.rows.length ≤ 1000) : cl (k+2) 17 [c.d] h = .ok (vD (c.rows.map (fstS c.folk))) h := by
  rw [call_eq F_first_state]
  obtain ⟨σf, e, e1⟩ := loop_app (en := Lk.d) (f := fun l => (fstS c.folk l).d) (g := h) (as := c.rows) (acc := []) (σ := [some c.d, some (.ref h.length), none, none]) (Inv := fun σ => ∃ x y, σ = [some c.d, some (.ref h.length), x, y]) (tg := evG pd.tab (cl (k+1)) g_first_state_1)
    (bd := evB pd.tab (cl (k+1)) b_first_state_1) ⟨none, none, rfl⟩ (by simp [sizeLine]; omega) (by
      rintro ⟨a, p⟩ _ σ acc ⟨x, y, rfl⟩ hl
      have hl : acc.length < 16777216 := hl
      refine ⟨[some c.d, some (.ref h.length), some (.str (Lk.sc ⟨a, p⟩)), some p.d], [some c.d, some (.ref h.length), some (.str (Lk.sc ⟨a, p⟩)), some p.d], rfl, ?_, _, _, rfl⟩
      cases a
      · have g1 : (1 : Int) ≤ (c.folk : Int) := by omega
        have g2 : (c.folk : Int) ≤ 1000 := by omega
        simp [b_first_state_1, Lk.sc, evB, evS, evE, evA, Res.bind, Res.of, opCmp, eqD_str, tst, tru, p_first, opBin, opMul, Ch.rows_fld, getF, D.lseq, bmD, setO, fstS, Sl.d, rep_flat, sizeLine, g1, g2, h1, h2, hl]
      · simp [b_first_state_1, Lk.sc, evB, evS, evE, evA, Res.bind, Res.of, opCmp, eqD_str, tst, tru, p_first, opBin, opMul, Ch.rows_fld, getF, D.lseq, bmD, setO, fstS, Sl.d, hl, sizeLine])
  obtain ⟨x, y, rfl⟩ := e1
  simp [f_first_state, startM, evB, evS, evE, evA, evG, evI, Res.bind, Res.of, Ch.rows_fld, getF, Ch.rd, e, sizeLine, biD, D.seq]
  have e2 : vD (c.rows.map (fstS c.folk)) = .tup (c.rows.map fun l => (fstS c.folk l).d) := by simp [vD]
  rw [e2]
  exact back_nr (by rw [← e2]; exact Sls.nr _)
@[simp] theorem m_links : pd.tab.meth 4 21 = some 6 := by decide +kernel
@[simp] theorem m_callers : pd.tab.meth 4 13 = some 7 := by decide +kernel
@[simp] theorem m_charges : pd.tab.meth 4 14 = some 8 := by decide +kernel
theorem c_links (k : Nat) (c : Ch) (h : Hs) : cl (k+1) 6 [c.d] h = .ok c.rd h := by
  rw [call_eq F_Chain_links]
  simp [f_Chain_links, startM, evB, evS, evE, Res.bind, Res.of, Ch.rows_fld, getF, back_same]
theorem c_callers (k : Nat) (c : Ch) (h : Hs) : cl (k+1) 7 [c.d] h = .ok (.int c.folk) h := by
  rw [call_eq F_Chain_callers]
  simp [f_Chain_callers, startM, evB, evS, evE, Res.bind, Res.of, Ch.rows_fld, getF, back_same]
theorem c_charges (k : Nat) (c : Ch) (h : Hs) : cl (k+1) 8 [c.d] h = .ok (.bl c.costly) h := by
  rw [call_eq F_Chain_charges]
  simp [f_Chain_charges, startM, evB, evS, evE, Res.bind, Res.of, Ch.rows_fld, getF, back_same]
theorem l_start (k : Nat) (c : Ch) (h : Hs) (h1 : 1 ≤ c.folk) (h2 : c.folk ≤ 1000) (hr : c.rows.length ≤ 1000) : cl (k+2) 58 [c.d] h = .ok (vD (c.rows.map (fstS c.folk))) h := by
  rw [call_eq F_law_start]
  obtain ⟨σf, e, e1⟩ := loop_app (en := Lk.d) (f := fun l => (fstS c.folk l).d) (g := h) (as := c.rows) (acc := []) (σ := [some c.d, some (.ref h.length), none, none, none]) (Inv := fun σ => ∃ x y z, σ = [some c.d, some (.ref h.length), x, y, z]) (tg := evG pd.tab (cl (k+1)) g_law_start_1)
    (bd := evB pd.tab (cl (k+1)) b_law_start_1) ⟨none, none, none, rfl⟩ (by simp [sizeLine]; omega) (by
      rintro ⟨a, p⟩ _ σ acc ⟨x, y, z, rfl⟩ hl
      have hl : acc.length < 16777216 := hl
      refine ⟨[some c.d, some (.ref h.length), some (.str (Lk.sc ⟨a, p⟩)), some p.d, z], [some c.d, some (.ref h.length), some (.str (Lk.sc ⟨a, p⟩)), some p.d, some (fst p).d], rfl, ?_, _, _, _, rfl⟩
      have g1 : (1 : Int) ≤ (c.folk : Int) := by omega
      have g2 : (c.folk : Int) ≤ 1000 := by omega
      cases a <;> simp [b_law_start_1, Lk.sc, evB, evS, evE, evA, evG, Res.bind, Res.of, opCmp, eqD_str, tst, tru, l_new, c_callers, opBin, opMul, Ch.rows_fld, getF, D.lseq, bmD, setO, fstS, Sl.d, rep_flat, sizeLine, g1, g2, h1, h2, hl])
  obtain ⟨x, y, z, rfl⟩ := e1
  simp [f_law_start, startM, evB, evS, evE, evA, evG, evI, Res.bind, Res.of, Ch.rows_fld, c_links, getF, Ch.rd, e, sizeLine, biD, D.seq]
  have e2 : vD (c.rows.map (fstS c.folk)) = .tup (c.rows.map fun l => (fstS c.folk l).d) := by simp [vD]
  rw [e2]
  exact back_nr (by rw [← e2]; exact Sls.nr _)
end K02

set_option Elab.async false
set_option linter.all false
set_option maxRecDepth 100000
set_option maxHeartbeats 1000000
namespace K02
open PySem PySem.Spec PyProof.Rows L2 He MC
def tickS (l : Lk) : Sl → Sl
  | .al o => .al (tick l.p o)
  | .ea os => .ea (os.map (tick l.p))
theorem FitV.mem {n : Nat} : ∀ {ls : List Lk} {ss : List Sl}, FitV n ls ss → ∀ q ∈ ls.zip ss, fitS n q.1 q.2
  | _, _, .nil, q, hq => by simp at hq
  | _, _, .cons h t, q, hq => by
    rcases List.mem_cons.mp hq with rfl | hq
    · exact h
    · exact t.mem q hq
theorem FitV.len {n : Nat} : ∀ {ls : List Lk} {ss : List Sl}, FitV n ls ss → ls.length = ss.length
  | _, _, .nil => rfl
  | _, _, .cons _ t => by simp [t.len]
def tickV (ls : List Lk) (ss : List Sl) : List Sl := (ls.zip ss).map fun q => tickS q.1 q.2
theorem e_ticked (k : Nat) (p : Pt) (os : List On) (a b c d z : Option D) (h : Hs) (hf : ∀ o ∈ os, fit p o) (hl : os.length ≤ 1000) :
    evE pd.tab (cl (k+1)) c_after_tick_1 [a, b, c, d, some p.d, some (.tup (os.map On.d)), z] h = .ok (.lst (os.map fun o => (tick p o).d)) h := by
  refine lc_map (en := On.d) (by simp [evI, evE, Res.bind]) (by simp [sizeLine]; omega) (fun o ho g => ⟨_, rfl, rfl, ?_⟩) (fun o _ => (tick p o).nr)
  simp [evE, evA, wipeM, Res.bind, p_tick, hf o ho]
theorem p_afterTick (k : Nat) (c : Ch) (ss : List Sl) (h : Hs) (hf : FitV c.folk c.rows ss) (h2 : c.folk ≤ 1000) (hr : c.rows.length ≤ 1000) : cl (k+2) 18 [c.d, vD ss] h = .ok (vD (tickV c.rows ss)) h := by
  rw [call_eq F_after_tick]
  obtain ⟨σf, e, e1⟩ := loop_app (en := fun q : Lk × Sl => .tup [q.1.d, q.2.d]) (f := fun q => (tickS q.1 q.2).d) (g := h) (as := c.rows.zip ss) (acc := []) (σ := [some c.d, some (vD ss), some (.ref h.length), none, none, none, none]) (Inv := fun σ => ∃ x y z, σ = [some c.d, some (vD ss), some (.ref h.length), x, y, z, none]) (tg := evG pd.tab (cl (k+1)) g_after_tick_1)
    (bd := evB pd.tab (cl (k+1)) b_after_tick_1) ⟨none, none, none, rfl⟩ (by simp [sizeLine]; omega) (by
      rintro ⟨⟨a, p⟩, s⟩ hm σ acc ⟨x, y, z, rfl⟩ hl
      have hl : acc.length < 16777216 := hl
      have hf := hf.mem _ hm
      refine ⟨[some c.d, some (vD ss), some (.ref h.length), some (.str (Lk.sc ⟨a, p⟩)), some p.d, some s.d, none], [some c.d, some (vD ss), some (.ref h.length), some (.str (Lk.sc ⟨a, p⟩)), some p.d, some s.d, none], rfl, ?_, _, _, _, rfl⟩
      cases s with
      | al o =>
        obtain ⟨rfl, hf⟩ : a = true ∧ fit p o := hf
        simp [b_after_tick_1, Lk.sc, evB, evS, evE, evA, Res.bind, Res.of, opCmp, eqD_str, tst, tru, p_tick, hf, D.lseq, bmD, setO, tickS, Sl.d, sizeLine, hl]
      | ea os =>
        obtain ⟨rfl, hn, hf⟩ : a = false ∧ os.length = c.folk ∧ ∀ o ∈ os, fit p o := hf
        have e := fun a b c d z h => e_ticked k p os a b c d z h hf (by omega)
        simp [b_after_tick_1, Lk.sc, evB, evS, evE, evA, Res.bind, Res.of, opCmp, eqD_str, tst, tru, e, D.lseq, bmD, setO, tickS, Sl.d, sizeLine, hl, biD, D.seq])
  obtain ⟨x, y, z, rfl⟩ := e1
  have ep := pairs_map (e1 := Lk.d) (e2 := Sl.d) c.rows ss
  simp [f_after_tick, startM, evB, evS, evE, evA, evG, evI, Res.bind, Res.of, Ch.rows_fld, getF, Ch.rd, vD, ep]
  simp only [vD] at e
  simp [e, sizeLine, biD, D.seq, evE, evA, Res.bind, Res.of]
  have e2 : D.tup ((tickV c.rows ss).map Sl.d) = .tup ((c.rows.zip ss).map fun q => (tickS q.1 q.2).d) := by simp [tickV]
  rw [e2]
  exact back_nr (by rw [← e2]; exact Sls.nr _)
theorem e_older (k : Nat) (l : Lk) (os : List On) (a b c z : Option D) (h : Hs) (hf : ∀ o ∈ os, fit l.p o) (hl : os.length ≤ 1000) :
    evE pd.tab (cl (k+1)) c_law_tick_1 [a, b, c, some l.d, some (.tup (os.map On.d)), z] h = .ok (.lst (os.map fun o => (tick l.p o).d)) h := by
  refine lc_map (en := On.d) (by simp [evI, evE, Res.bind]) (by simp [sizeLine]; omega) (fun o ho g => ⟨_, rfl, rfl, ?_⟩) (fun o _ => (tick l.p o).nr)
  simp [evE, evA, wipeM, Res.bind, Res.of, Lk.d, idxD, atD, L2.ixN, l_older, hf o ho]
theorem l_tick (k : Nat) (c : Ch) (ss : List Sl) (h : Hs) (hf : FitV c.folk c.rows ss) (h2 : c.folk ≤ 1000) (hr : c.rows.length ≤ 1000) : cl (k+2) 62 [c.d, vD ss] h = .ok (vD (tickV c.rows ss)) h := by
  rw [call_eq F_law_tick]
  obtain ⟨σf, e, e1⟩ := loop_app (en := fun q : Lk × Sl => .tup [q.1.d, q.2.d]) (f := fun q => (tickS q.1 q.2).d) (g := h) (as := c.rows.zip ss) (acc := []) (σ := [some c.d, some (vD ss), some (.ref h.length), none, none, none]) (Inv := fun σ => ∃ x y, σ = [some c.d, some (vD ss), some (.ref h.length), x, y, none]) (tg := evG pd.tab (cl (k+1)) g_law_tick_1)
    (bd := evB pd.tab (cl (k+1)) b_law_tick_1) ⟨none, none, rfl⟩ (by simp [sizeLine]; omega) (by
      rintro ⟨⟨a, p⟩, s⟩ hm σ acc ⟨x, y, rfl⟩ hl
      have hl : acc.length < 16777216 := hl
      have hf := hf.mem _ hm
      refine ⟨[some c.d, some (vD ss), some (.ref h.length), some (Lk.d ⟨a, p⟩), some s.d, none], [some c.d, some (vD ss), some (.ref h.length), some (Lk.d ⟨a, p⟩), some s.d, none], rfl, ?_, _, _, rfl⟩
      cases s with
      | al o =>
        obtain ⟨rfl, hf⟩ : a = true ∧ fit p o := hf
        simp [b_law_tick_1, Lk.d, Lk.sc, evB, evS, evE, evA, Res.bind, Res.of, idxD, atD, L2.ixN, opCmp, eqD_str, tst, tru, l_older, hf, D.lseq, bmD, setO, tickS, Sl.d, sizeLine, hl]
      | ea os =>
        obtain ⟨rfl, hn, hf⟩ : a = false ∧ os.length = c.folk ∧ ∀ o ∈ os, fit p o := hf
        have e := fun a b c z h => e_older k ⟨false, p⟩ os a b c z h hf (by omega)
        simp only [Lk.d, Lk.sc] at e
        simp at e
        simp [b_law_tick_1, Lk.d, Lk.sc, evB, evS, evE, evA, Res.bind, Res.of, idxD, atD, L2.ixN, opCmp, eqD_str, tst, tru, e, D.lseq, bmD, setO, tickS, Sl.d, sizeLine, hl, biD, D.seq])
  obtain ⟨x, y, rfl⟩ := e1
  have ep := pairs_map (e1 := Lk.d) (e2 := Sl.d) c.rows ss
  simp [f_law_tick, startM, evB, evS, evE, evA, evG, evI, Res.bind, Res.of, Ch.rows_fld, c_links, getF, Ch.rd, vD, ep]
  simp only [vD] at e
  simp [e, sizeLine, biD, D.seq, evE, evA, Res.bind, Res.of]
  have e2 : D.tup ((tickV c.rows ss).map Sl.d) = .tup ((c.rows.zip ss).map fun q => (tickS q.1 q.2).d) := by simp [tickV]
  rw [e2]
  exact back_nr (by rw [← e2]; exact Sls.nr _)
end K02

set_option Elab.async false
set_option linter.all false
set_option maxRecDepth 100000
set_option maxHeartbeats 1000000
namespace K02
open PySem PySem.Spec PyProof.Rows L2 He MC
theorem atD_nat (xs : List D) (i : Nat) : atD xs (i : Int) = xs[i]? := by
  unfold atD L2.ixN
  by_cases h : i < xs.length
  · have : (i : Int) < (xs.length : Int) := by omega
    simp [this]
  · have : ¬ (i : Int) < (xs.length : Int) := by omega
    simp [this]
    omega
theorem cut_to (xs : List D) (i : Nat) : MC.cutD xs none (some (i : Int)) = xs.take i := by
  unfold MC.cutD
  rw [HT.sIx_none, HT.sIx_nat]
  simp
theorem cut_from (xs : List D) (i : Nat) : MC.cutD xs (some ((i : Int) + 1)) none = xs.drop (i + 1) := by
  unfold MC.cutD
  have : ((i : Int) + 1) = ((i + 1 : Nat) : Int) := by omega
  rw [this, HT.sIx_none, HT.sIx_nat]
  by_cases h : i + 1 ≤ xs.length
  · rw [Nat.min_eq_left h]
    exact List.take_of_length_le (by simp)
  · rw [Nat.min_eq_right (by omega)]
    simp
    omega
theorem set_cut (xs : List D) (i : Nat) (x : D) (h : i < xs.length) : xs.take i ++ x :: xs.drop (i + 1) = xs.set i x := by
  rw [List.set_eq_take_append_cons_drop]
  simp [h]
/-- the count that is asked -/
def sel (who : Nat) : Sl → On
  | .al o => o
  | .ea os => (os[who]?).getD (.gp 0)
def moreS (who : Nat) (l : Lk) : Sl → Sl
  | .al o => .al (more l.p o)
  | .ea os => .ea (os.set who (more l.p ((os[who]?).getD (.gp 0))))
def letS (who : Nat) (l : Lk) (s : Sl) : Bool := lets l.p (sel who s)
theorem p_letsAt (k : Nat) (c : Ch) (ss : List Sl) (i who : Nat) (l : Lk) (s : Sl) (h : Hs) (hw : who < c.folk) (e1 : c.rows[i]? = some l) (e2 : ss[i]? = some s) (hf : fitS c.folk l s) :
    cl (k+2) 19 [c.d, vD ss, .int i, .int who] h = .ok (.bl (letS who l s)) h := by
  rw [call_eq F_lets_at]
  obtain ⟨a, p⟩ := l
  cases s with
  | al o =>
    obtain ⟨rfl, hf⟩ : a = true ∧ fit p o := hf
    simp [f_lets_at, startM, evB, evS, evE, evA, evG, evGL, Res.bind, Res.of, Ch.rows_fld, getF, Ch.rd, vD, idxD, atD_nat, e1, e2, Lk.d, Lk.sc, opCmp, eqD_str, tst, tru, Sl.d, p_lets, hf, letS, sel, back_same]
  | ea os =>
    obtain ⟨rfl, hn, hf⟩ : a = false ∧ os.length = c.folk ∧ ∀ o ∈ os, fit p o := hf
    have hw' : who < os.length := by omega
    have hf' := hf os[who] (List.getElem_mem hw')
    simp [f_lets_at, startM, evB, evS, evE, evA, evG, evGL, Res.bind, Res.of, Ch.rows_fld, getF, Ch.rd, vD, idxD, atD_nat, e1, e2, Lk.d, Lk.sc, opCmp, eqD_str, tst, tru, Sl.d, p_lets, hf', hw', letS, sel, back_same]
theorem p_countedAt (k : Nat) (c : Ch) (ss : List Sl) (i who : Nat) (l : Lk) (s : Sl) (h : Hs) (hw : who < c.folk) (hk : c.folk ≤ 1000) (hl : ss.length ≤ 1000) (e1 : c.rows[i]? = some l) (e2 : ss[i]? = some s) (hf : fitS c.folk l s) :
    cl (k+2) 20 [c.d, vD ss, .int i, .int who] h = .ok (vD (ss.set i (moreS who l s))) h := by
  rw [call_eq F_counted_at]
  obtain ⟨a, p⟩ := l
  have hi : i < ss.length := (List.getElem?_eq_some_iff.mp e2).1
  have key : ∀ x : D, (ss.map Sl.d).take i ++ x :: (ss.map Sl.d).drop (i + 1) = (ss.map Sl.d).set i x := fun x => set_cut _ _ _ (by simpa using hi)
  have z1 : ss.length ≤ 16777216 := by omega
  cases s with
  | al o =>
    obtain ⟨rfl, hf⟩ : a = true ∧ fit p o := hf
    simp [f_counted_at, startM, evB, evS, evE, evA, evOE, evG, evGL, Res.bind, Res.of, Ch.rows_fld, getF, Ch.rd, vD, idxD, atD_nat, e1, e2, Lk.d, Lk.sc, opCmp, eqD_str, tst, tru, Sl.d, p_more, hf, moreS, opBin, opAdd, slcD, cut_to, cut_from, D.seq, sizeLine, back_same, z1, key]
  | ea os =>
    obtain ⟨rfl, hn, hf⟩ : a = false ∧ os.length = c.folk ∧ ∀ o ∈ os, fit p o := hf
    have hw' : who < os.length := by omega
    have hf' := hf os[who] (List.getElem_mem hw')
    have z2 : os.length ≤ 16777216 := by omega
    have key2 : ∀ x : D, (os.map On.d).take who ++ x :: (os.map On.d).drop (who + 1) = (os.map On.d).set who x := fun x => set_cut _ _ _ (by simpa using hw')
    simp [f_counted_at, startM, evB, evS, evE, evA, evOE, evG, evGL, Res.bind, Res.of, Ch.rows_fld, getF, Ch.rd, vD, idxD, atD_nat, e1, e2, Lk.d, Lk.sc, opCmp, eqD_str, tst, tru, Sl.d, p_more, hf', hw', moreS, opBin, opAdd, slcD, cut_to, cut_from, D.seq, sizeLine, back_same, z1, z2, key, key2]
theorem e_answer (k : Nat) (c : Ch) (ss : List Sl) (who : Nat) (h : Hs) (hw : who < c.folk) (hr : c.rows.length ≤ 1000) (hf : FitV c.folk c.rows ss) :
    evE pd.tab (cl (k+2)) c_answer_at_1 [some c.d, some (vD ss), some (.int who), none] h = .ok (.lst ((List.range c.rows.length).map fun i => D.bl (letS who ((c.rows[i]?).getD ⟨true, .gp 0⟩) ((ss[i]?).getD (.al (.gp 0)))))) h := by
  have e0 : evE pd.tab (cl (k+2)) (.bi .len (.cons (.fld (.var 0) 28) .nil)) [some c.d, some (vD ss), some (.int who), none] h = .ok (.int c.rows.length) h := by
    simp [evE, evA, Res.bind, Res.of, Ch.rows_fld, getF, Ch.rd, biD, D.seq]
  refine lc_map (en := fun i : Nat => D.int (i : Int)) (evI_rng1 e0 (by omega)) (by rw [List.length_range, sizeLine_eq]; omega) (fun i hi g => ⟨_, rfl, rfl, ?_⟩) (fun i _ => rfl)
  have hi : i < c.rows.length := List.mem_range.mp hi
  have hi2 : i < ss.length := by rw [← hf.len]; exact hi
  have hm : (c.rows[i], ss[i]) ∈ c.rows.zip ss := by
    have : (c.rows.zip ss)[i]? = some (c.rows[i], ss[i]) := by rw [List.getElem?_zip_eq_some]; exact ⟨List.getElem?_eq_getElem hi, List.getElem?_eq_getElem hi2⟩
    exact List.mem_of_getElem? this
  have e := p_letsAt k c ss i who c.rows[i] ss[i] g hw (List.getElem?_eq_getElem hi) (List.getElem?_eq_getElem hi2) (hf.mem _ hm)
  simp [evE, evA, wipeM, Res.bind, e, hi, hi2]
end K02

set_option Elab.async false
set_option linter.all false
set_option maxRecDepth 100000
set_option maxHeartbeats 1000000
namespace K02
open PySem PySem.Spec PyProof.Rows L2 He MC
def ansV (who : Nat) (ls : List Lk) (ss : List Sl) : Bool := (ls.zip ss).all fun q => letS who q.1 q.2
theorem bools_map {α : Type} (g : α → Bool) : ∀ xs : List α, boolsOf (xs.map fun a => D.bl (g a)) = some (xs.map g)
  | [] => rfl
  | x :: xs => by simp [boolsOf, bools_map g xs]
theorem ans_range (who : Nat) : ∀ (ls : List Lk) (ss : List Sl), ls.length = ss.length → ((List.range ls.length).map fun i => letS who ((ls[i]?).getD ⟨true, .gp 0⟩) ((ss[i]?).getD (.al (.gp 0)))).all id = ansV who ls ss
  | [], _, _ => by simp [ansV]
  | _ :: _, [], h => by simp at h
  | l :: ls, s :: ss, h => by
    have ih := ans_range who ls ss (by simpa using h)
    rw [List.length_cons, List.range_succ_eq_map, List.map_cons, List.map_map, List.all_cons]
    have e : ((fun i => letS who (((l :: ls)[i]?).getD ⟨true, .gp 0⟩) (((s :: ss)[i]?).getD (.al (.gp 0)))) ∘ Nat.succ) = fun i => letS who ((ls[i]?).getD ⟨true, .gp 0⟩) ((ss[i]?).getD (.al (.gp 0))) := by
      funext i
      simp
    rw [e, ih]
    simp [ansV]
theorem all_ok' {T : Tab} {cl : Nat → List D → Hs → Res D} {e : E} {σ : Sg} {h h1 : Hs} {xs : List D} {bs : List Bool} (e1 : evE T cl e σ h = .ok (.lst xs) h1) (e2 : boolsOf xs = some bs) : evE T cl (.bi .all (.cons e .nil)) σ h = .ok (.bl (bs.all id)) h1 := by
  simp only [evE, evA, e1, Res.bind, biD, D.lseq, Option.bind_some, e2, Option.map_some, Res.of]
theorem ret_ok {T : Tab} {cl : Nat → List D → Hs → Res D} {e : E} {r : B} {σ : Sg} {h h1 : Hs} {d : D} (e1 : evE T cl e σ h = .ok d h1) : evB T cl (.cons (.ret e) r) σ h = .ok (.rt d, σ) h1 := by
  simp only [evB, evS, e1, Res.bind]
theorem call_rt {k f : Nat} {fn : Fn} {xs : List D} {h h1 : Hs} {d : D} {σ : Sg} (e : pd.F f = some fn) (hl : xs.length = fn.ar) (eb : evB pd.tab (cl k) fn.body (startM fn.ns xs) h = .ok (.rt d, σ) h1) : cl (k + 1) f xs h = back fn.fz h d h1 := by
  rw [call_eq e, if_pos hl, eb]
  rfl
theorem p_answer (k : Nat) (c : Ch) (ss : List Sl) (who : Nat) (h : Hs) (hw : who < c.folk) (hr : c.rows.length ≤ 1000) (hf : FitV c.folk c.rows ss) : cl (k+3) 21 [c.d, vD ss, .int who] h = .ok (.bl (ansV who c.rows ss)) h := by
  have e3 : evE pd.tab (cl (k+2)) (.bi .all (.cons c_answer_at_1 .nil)) [some c.d, some (vD ss), some (.int who), none] h = .ok (.bl (ansV who c.rows ss)) h := by
    rw [← ans_range who c.rows ss hf.len]
    exact all_ok' (e_answer k c ss who h hw hr hf) (bools_map _ _)
  have e4 : evB pd.tab (cl (k+2)) f_answer_at.body (startM f_answer_at.ns [c.d, vD ss, .int who]) h = .ok (.rt (.bl (ansV who c.rows ss)), [some c.d, some (vD ss), some (.int who), none]) h := ret_ok e3
  have e5 := call_rt (k := k + 2) F_answer_at (by rfl) e4
  rw [back_same] at e5
  exact e5
/-- an ask, as far as the first link that does not let -/
def askV (who : Nat) : List Lk → List Sl → Bool × List Sl
  | l :: ls, s :: ss => if letS who l s then ((askV who ls ss).1, moreS who l s :: (askV who ls ss).2) else (false, s :: ss)
  | _, ss => (true, ss)
theorem ask_ans (who : Nat) : ∀ (ls : List Lk) (ss : List Sl), (askV who ls ss).1 = ansV who ls ss
  | [], ss => by simp [askV, ansV]
  | _ :: _, [] => by simp [askV, ansV]
  | l :: ls, s :: ss => by
    have := ask_ans who ls ss
    simp only [askV, ansV, List.zip_cons_cons, List.all_cons] at this ⊢
    by_cases h : letS who l s = true
    · simp [h, this]
    · simp [h]
end K02

set_option Elab.async false
set_option linter.all false
set_option maxRecDepth 100000
set_option maxHeartbeats 1000000
namespace K02
open PySem PySem.Spec PyProof.Rows L2 He MC MP
theorem ask_loop (k : Nat) (c : Ch) (who : Nat) (h : Hs) (hw : who < c.folk) (hk : c.folk ≤ 1000) (hr : c.rows.length ≤ 1000) (x3 : Option D) : ∀ (ls : List Lk) (ss : List Sl) (pre : List Lk) (preS : List Sl) (x4 : Option D), c.rows = pre ++ ls → preS.length = pre.length → FitV c.folk ls ss →
    ∃ y4, loopF (evG pd.tab (cl (k+2)) g_after_ask_1) (evB pd.tab (cl (k+2)) b_after_ask_1) ((List.range' pre.length ls.length).map fun (i : Nat) => D.int (i : Int)) [some c.d, some (vD (preS ++ ss)), some (.int who), x3, x4] h =
      if ansV who ls ss then .ok (.nx, [some c.d, some (vD (preS ++ (askV who ls ss).2)), some (.int who), x3, y4]) h else .ok (.rt (.tup [.bl false, vD (preS ++ (askV who ls ss).2)]), [some c.d, some (vD (preS ++ (askV who ls ss).2)), some (.int who), x3, y4]) h
  | [], _, pre, preS, x4, _, _, .nil => ⟨x4, by simp [loopF, ansV, askV]⟩
  | l :: ls, _, pre, preS, x4, er, el, .cons (s := s) (ss := ss) hf t => by
    have e1 : c.rows[pre.length]? = some l := by rw [er]; simp
    have e2 : (preS ++ s :: ss)[pre.length]? = some s := by rw [← el]; simp
    have hl : (preS ++ s :: ss).length ≤ 1000 := by
      have h1 := t.len
      rw [er] at hr
      simp at hr ⊢
      omega
    have f1 := p_letsAt k c (preS ++ s :: ss) pre.length who l s h hw e1 e2 hf
    have f2 := p_countedAt k c (preS ++ s :: ss) pre.length who l s h hw hk hl e1 e2 hf
    rw [List.length_cons, List.range'_succ, List.map_cons]
    by_cases hq : letS who l s = true
    · rw [hq] at f1
      have e3 : (preS ++ s :: ss).set pre.length (moreS who l s) = (preS ++ [moreS who l s]) ++ ss := by rw [← el]; simp
      rw [e3] at f2
      obtain ⟨y4, ih⟩ := ask_loop k c who h hw hk hr x3 ls ss (pre ++ [l]) (preS ++ [moreS who l s]) (some (.int pre.length)) (by rw [er]; simp) (by simp [el]) t
      refine ⟨y4, ?_⟩
      have ea : askV who (l :: ls) (s :: ss) = ((askV who ls ss).1, moreS who l s :: (askV who ls ss).2) := by simp [askV, hq]
      have eb : ansV who (l :: ls) (s :: ss) = ansV who ls ss := by simp [ansV, hq]
      have e4 : evB pd.tab (cl (k+2)) b_after_ask_1 [some c.d, some (vD (preS ++ s :: ss)), some (.int who), x3, some (.int pre.length)] h = .ok (.nx, [some c.d, some (vD (preS ++ [moreS who l s] ++ ss)), some (.int who), x3, some (.int pre.length)]) h := by
        simp [b_after_ask_1, evB, evS, evE, evA, evG, Res.bind, Res.of, f1, f2, tst, tru]
      have e5 : evG pd.tab (cl (k+2)) g_after_ask_1 (D.int (pre.length : Nat)) [some c.d, some (vD (preS ++ s :: ss)), some (.int who), x3, x4] h = .ok [some c.d, some (vD (preS ++ s :: ss)), some (.int who), x3, some (.int pre.length)] h := by
        simp [g_after_ask_1, evG]
      rw [ea, eb]
      simp only [List.length_append, List.length_cons, List.length_nil] at ih
      simp only [loopF, e5, e4, Res.bind]
      rw [ih]
      simp
    · have hq : letS who l s = false := by simpa using hq
      rw [hq] at f1
      refine ⟨some (.int pre.length), ?_⟩
      have ea : askV who (l :: ls) (s :: ss) = (false, s :: ss) := by simp [askV, hq]
      have eb : ansV who (l :: ls) (s :: ss) = false := by simp [ansV, hq]
      have e4 : evB pd.tab (cl (k+2)) b_after_ask_1 [some c.d, some (vD (preS ++ s :: ss)), some (.int who), x3, some (.int pre.length)] h = .ok (.rt (.tup [.bl false, vD (preS ++ s :: ss)]), [some c.d, some (vD (preS ++ s :: ss)), some (.int who), x3, some (.int pre.length)]) h := by
        simp [b_after_ask_1, evB, evS, evE, evA, evG, Res.bind, Res.of, f1, f2, tst, tru, sizeLine]
      have e5 : evG pd.tab (cl (k+2)) g_after_ask_1 (D.int (pre.length : Nat)) [some c.d, some (vD (preS ++ s :: ss)), some (.int who), x3, x4] h = .ok [some c.d, some (vD (preS ++ s :: ss)), some (.int who), x3, some (.int pre.length)] h := by
        simp [g_after_ask_1, evG]
      rw [ea, eb]
      simp only [loopF, e5, e4, Res.bind]
      simp
def askR (c : Ch) (who : Nat) (ss : List Sl) : List Sl := if ansV who c.rows ss || c.costly then (askV who c.rows ss).2 else ss
theorem call_same {k f : Nat} {fn : Fn} {xs : List D} {h : Hs} {d : D} {σ : Sg} (e : pd.F f = some fn) (hl : xs.length = fn.ar) (eb : evB pd.tab (cl k) fn.body (startM fn.ns xs) h = .ok (.rt d, σ) h) : cl (k + 1) f xs h = .ok d h := by
  rw [call_rt e hl eb, back_same]
theorem call_nx {k f : Nat} {fn : Fn} {xs : List D} {h h1 : Hs} {σ : Sg} (e : pd.F f = some fn) (hl : xs.length = fn.ar) (eb : evB pd.tab (cl k) fn.body (startM fn.ns xs) h = .ok (.nx, σ) h1) : cl (k + 1) f xs h = back fn.fz h .non h1 := by
  rw [call_eq e, if_pos hl, eb]
  rfl
theorem p_afterAsk (k : Nat) (c : Ch) (who : Nat) (ss : List Sl) (h : Hs) (hw : who < c.folk) (hk : c.folk ≤ 1000) (hr : c.rows.length ≤ 1000) (hf : FitV c.folk c.rows ss) :
    cl (k+4) 22 [c.d, vD ss, .int who] h = .ok (.tup [.bl (ansV who c.rows ss), vD (askR c who ss)]) h := by
  have e1 := p_answer k c ss who h hw hr hf
  obtain ⟨y4, e2⟩ := ask_loop (k+1) c who h hw hk hr (some (.bl (ansV who c.rows ss))) c.rows ss [] [] none (by simp) rfl hf
  have e0 : evI pd.tab (cl (k+3)) (.rng1 (.bi .len (.cons (.fld (.var 0) 28) .nil))) [some c.d, some (vD ss), some (.int who), some (.bl (ansV who c.rows ss)), none] h = .ok (.its ((List.range c.rows.length).map fun (i : Nat) => D.int (i : Int))) h :=
    evI_rng1 (by simp [evE, evA, Res.bind, Res.of, Ch.rows_fld, getF, Ch.rd, biD, D.seq]) (by omega)
  rw [List.range_eq_range'] at e0
  simp only [List.length_nil, List.nil_append] at e2
  have s1 : evS pd.tab (cl (k+3)) (.asg (.nm 3) (.fn 21 (.cons (.var 0) (.cons (.var 1) (.cons (.var 2) .nil))))) [some c.d, some (vD ss), some (.int who), none, none] h = .ok (.nx, [some c.d, some (vD ss), some (.int who), some (.bl (ansV who c.rows ss)), none]) h :=
    s_set (e_fn (xs := [c.d, vD ss, .int who]) (by simp [evA, evE, Res.bind]) e1)
  have hcost : ∀ σ : Sg, σ[0]? = some (some c.d) → evE pd.tab (cl (k+3)) (.fld (.var 0) 15) σ h = .ok (.bl c.costly) h := fun σ e => by
    simp [evE, e, Res.bind, Res.of, Ch.rows_fld, getF]
  have key : ∀ d, (∀ τ : Unit, ∃ σ, evB pd.tab (cl (k+3)) f_after_ask.body (startM f_after_ask.ns [c.d, vD ss, .int who]) h = .ok (.rt d, σ) h) → cl (k+4) 22 [c.d, vD ss, .int who] h = .ok d h := fun d z => by
    obtain ⟨σ, z⟩ := z ()
    exact call_same F_after_ask rfl z
  unfold askR
  by_cases ha : ansV who c.rows ss = true
  · rw [ha] at e0 e1 e2 s1 ⊢
    refine key _ fun _ => ⟨_, b_nx s1 (b_nx (s_iff (d := .bl false) (e_andf (e_not (d := .bl true) (k := true) (e_var rfl) rfl) rfl) rfl (by simp only [evB])) (b_nx (s_for e0 e2) (b_ret (e_tup (xs := [.bl true, vD (askV who c.rows ss).2]) (by simp [evA, evE, Res.bind]) (by simp [sizeLine])))))⟩
  · have ha : ansV who c.rows ss = false := by simpa using ha
    rw [ha] at e0 e1 e2 s1 ⊢
    cases hc : c.costly
    · refine key _ fun _ => ⟨_, b_nx s1 (b_rt (s_ift (d := .bl true) (e_andt (e_not (d := .bl false) (k := false) (e_var rfl) rfl) rfl (by rw [e_not (k := c.costly) (hcost _ rfl) rfl, hc]; rfl)) rfl (b_ret (e_tup (xs := [.bl false, vD ss]) (by simp [evA, evE, Res.bind]) (by simp [sizeLine])))))⟩
    · refine key _ fun _ => ⟨_, b_nx s1 (b_nx (s_iff (d := .bl false) (e_andt (e_not (d := .bl false) (k := false) (e_var rfl) rfl) rfl (by rw [e_not (k := c.costly) (hcost _ rfl) rfl, hc]; rfl)) rfl (by simp only [evB])) (b_rt (s_for e0 e2)))⟩
end K02

set_option Elab.async false
set_option linter.all false
set_option maxRecDepth 100000
set_option maxHeartbeats 1000000
namespace K02
open PySem PySem.Spec PyProof.Rows L2 He MC MP
theorem numbered_eq {α : Type} (en : α → D) : ∀ (xs : List α) (i : Nat), MC.numbered i (xs.map en) = (xs.zip (List.range' i xs.length)).map fun q => .tup [.int q.2, en q.1]
  | [], _ => rfl
  | x :: xs, i => by simp [MC.numbered, numbered_eq en xs, List.range'_succ]
theorem hset2 (h : Hs) (o u : O) : setO (h ++ [o]) h.length u = h ++ [u] := by simp [setO]
theorem lask_loop (k : Nat) (c : Ch) (who : Nat) (h : Hs) (hw : who < c.folk) (hk : c.folk ≤ 1000) (hr : c.rows.length ≤ 1000) (x1 : Option D) : ∀ (ls : List Lk) (ss : List Sl) (pre : List Lk) (preS : List Sl) (x5 x6 x7 x8 : Option D), c.rows = pre ++ ls → preS.length = pre.length → FitV c.folk ls ss →
    ∃ y5 y6 y7 y8, loopF (evG pd.tab (cl (k+1)) g_law_ask_1) (evB pd.tab (cl (k+1)) b_law_ask_1) (MC.numbered pre.length (ls.map Lk.d)) [some c.d, x1, some (.int who), some (.ref h.length), some (.bl true), x5, x6, x7, x8] (h ++ [.lst ((preS ++ ss).map Sl.d)]) =
      .ok (.nx, [some c.d, x1, some (.int who), some (.ref h.length), some (.bl (ansV who ls ss)), y5, y6, y7, y8]) (h ++ [.lst ((preS ++ (askV who ls ss).2).map Sl.d)])
  | [], _, pre, preS, x5, x6, x7, x8, _, _, .nil => ⟨x5, x6, x7, x8, by simp [loopF, ansV, askV, MC.numbered]⟩
  | l :: ls, _, pre, preS, x5, x6, x7, x8, er, el, .cons (s := s) (ss := ss) hf t => by
    have e2 : ((preS ++ s :: ss).map Sl.d)[pre.length]? = some s.d := by rw [← el]; simp
    have hl : pre.length < ((preS ++ s :: ss).map Sl.d).length := by simp; omega
    obtain ⟨a, p⟩ := l
    have hg : ∀ h', evG pd.tab (cl (k+1)) g_law_ask_1 (.tup [.int pre.length, Lk.d ⟨a, p⟩]) [some c.d, x1, some (.int who), some (.ref h.length), some (.bl true), x5, x6, x7, x8] h' = .ok [some c.d, x1, some (.int who), some (.ref h.length), some (.bl true), some (.int pre.length), some (Lk.d ⟨a, p⟩), x7, x8] h' := fun h' => by
      simp [g_law_ask_1, evG, evGL, Res.bind]
    have hone : ∀ x8, evE pd.tab (cl (k+1)) (.ite (.cmp .Eq (.idx (.var 6) (.cst (.int 0))) (.cst (.str (Str.ofString "all")))) (.idx (.var 3) (.var 5)) (.idx (.idx (.var 3) (.var 5)) (.var 2))) [some c.d, x1, some (.int who), some (.ref h.length), some (.bl true), some (.int pre.length), some (Lk.d ⟨a, p⟩), x7, x8] (h ++ [.lst ((preS ++ s :: ss).map Sl.d)]) = .ok (sel who s).d (h ++ [.lst ((preS ++ s :: ss).map Sl.d)]) := fun x8 => by
      cases s with
      | al o =>
        obtain ⟨rfl, hf⟩ : a = true ∧ fit p o := hf
        exact e_itet (d := .bl true) (by simp [evE, Res.bind, Res.of, Lk.d, Lk.sc, idxD, atD, L2.ixN, opCmp, eqD_str]) rfl (e_idx (e_var rfl) (e_var rfl) (by simp only [idxD, hget, atD_nat, e2]; rfl))
      | ea os =>
        obtain ⟨rfl, hn, hf⟩ : a = false ∧ os.length = c.folk ∧ ∀ o ∈ os, fit p o := hf
        have hw' : who < os.length := by omega
        exact e_itef (d := .bl false) (by simp [evE, Res.bind, Res.of, Lk.d, Lk.sc, idxD, atD, L2.ixN, opCmp, eqD_str]) rfl (e_idx (x := (Sl.ea os).d) (y := .int who) (e_idx (e_var rfl) (e_var rfl) (by simp only [idxD, hget, atD_nat, e2])) (e_var rfl) (by simp only [Sl.d, idxD, atD_nat]; simp [hw', sel]))
    have hfs : fit p (sel who s) := by
      cases s with
      | al o => exact hf.2
      | ea os =>
        obtain ⟨_, hn, hf⟩ := hf
        have hw' : who < os.length := by omega
        simp only [sel, List.getElem?_eq_getElem hw', Option.getD_some]
        exact hf _ (List.getElem_mem hw')
    have hpart : ∀ x7 x8 h', evE pd.tab (cl (k+1)) (.idx (.var 6) (.cst (.int 1))) [some c.d, x1, some (.int who), some (.ref h.length), some (.bl true), some (.int pre.length), some (Lk.d ⟨a, p⟩), x7, x8] h' = .ok p.d h' := fun x7 x8 h' => by
      simp [evE, Res.bind, Res.of, Lk.d, idxD, atD, L2.ixN]
    have hroom : ∀ x8 h', evE pd.tab (cl (k+1)) (.not (.fn 60 (.cons (.idx (.var 6) (.cst (.int 1))) (.cons (.var 7) .nil)))) [some c.d, x1, some (.int who), some (.ref h.length), some (.bl true), some (.int pre.length), some (Lk.d ⟨a, p⟩), some (sel who s).d, x8] h' = .ok (.bl !letS who ⟨a, p⟩ s) h' := fun x8 h' =>
      e_not (e_fn (qa (hpart _ _ _) (qa (e_var rfl) q0)) (l_room k p (sel who s) h' hfs)) rfl
    have hmore : ∀ x8 h', evE pd.tab (cl (k+1)) (.fn 61 (.cons (.idx (.var 6) (.cst (.int 1))) (.cons (.var 7) .nil))) [some c.d, x1, some (.int who), some (.ref h.length), some (.bl true), some (.int pre.length), some (Lk.d ⟨a, p⟩), some (sel who s).d, x8] h' = .ok (more p (sel who s)).d h' := fun x8 h' =>
      e_fn (qa (hpart _ _ _) (qa (e_var rfl) q0)) (l_more k p (sel who s) h' hfs)
    have heach : ∀ x7 x8 h', evE pd.tab (cl (k+1)) (.cmp .Eq (.idx (.var 6) (.cst (.int 0))) (.cst (.str (Str.ofString "each")))) [some c.d, x1, some (.int who), some (.ref h.length), some (.bl true), some (.int pre.length), some (Lk.d ⟨a, p⟩), x7, x8] h' = .ok (.bl !a) h' := fun x7 x8 h' => by
      cases a <;> simp [evE, Res.bind, Res.of, Lk.d, Lk.sc, idxD, atD, L2.ixN, opCmp, eqD_str]
    rw [List.map_cons, MC.numbered]
    by_cases hq : letS who ⟨a, p⟩ s = true
    · have ea : askV who (⟨a, p⟩ :: ls) (s :: ss) = ((askV who ls ss).1, moreS who ⟨a, p⟩ s :: (askV who ls ss).2) := by simp [askV, hq]
      have eb : ansV who (⟨a, p⟩ :: ls) (s :: ss) = ansV who ls ss := by simp [ansV, hq]
      have hb : ∃ y8, evB pd.tab (cl (k+1)) b_law_ask_1 [some c.d, x1, some (.int who), some (.ref h.length), some (.bl true), some (.int pre.length), some (Lk.d ⟨a, p⟩), x7, x8] (h ++ [.lst ((preS ++ s :: ss).map Sl.d)]) = .ok (.nx, [some c.d, x1, some (.int who), some (.ref h.length), some (.bl true), some (.int pre.length), some (Lk.d ⟨a, p⟩), some (sel who s).d, y8]) (h ++ [.lst ((preS ++ [moreS who ⟨a, p⟩ s] ++ ss).map Sl.d)]) := by
        have hst : ∀ d, d = (moreS who ⟨a, p⟩ s).d → evB pd.tab (cl (k+1)) (.cons (.asg (.sub (.var 3) (.var 5)) (.var 8)) .nil) [some c.d, x1, some (.int who), some (.ref h.length), some (.bl true), some (.int pre.length), some (Lk.d ⟨a, p⟩), some (sel who s).d, some d] (h ++ [.lst ((preS ++ s :: ss).map Sl.d)]) = .ok (.nx, [some c.d, x1, some (.int who), some (.ref h.length), some (.bl true), some (.int pre.length), some (Lk.d ⟨a, p⟩), some (sel who s).d, some d]) (h ++ [.lst ((preS ++ [moreS who ⟨a, p⟩ s] ++ ss).map Sl.d)]) := by
          rintro d rfl
          have ix : L2.ixN ((preS ++ s :: ss).map Sl.d).length (pre.length : Int) = some pre.length := by
            unfold L2.ixN
            have : (pre.length : Int) < (((preS ++ s :: ss).map Sl.d).length : Int) := by omega
            simp only [Int.natCast_nonneg, this, and_self, if_true, Int.toNat_natCast]
          have est : ((preS ++ s :: ss).map Sl.d).set pre.length (moreS who ⟨a, p⟩ s).d = (preS ++ [moreS who ⟨a, p⟩ s] ++ ss).map Sl.d := by
            rw [← el]; simp
          refine b_nx (s_asg (e_var rfl) ?_) q_nil
          simp only [evG]
          rw [e_var rfl, Res.bind, e_var rfl, Res.bind]
          simp only [hget, ix, hset2, est]
        cases s with
        | al o =>
          obtain ⟨rfl, hf⟩ : a = true ∧ fit p o := hf
          refine ⟨_, b_nx (s_set (hone _)) (b_nx (s_iff (hroom _ _) (by rw [hq]; rfl) q_nil) (b_nx (s_set (hmore _ _)) (b_nx (s_iff (heach _ _ _) rfl q_nil) (hst _ ?_))))⟩
          rfl
        | ea os =>
          obtain ⟨rfl, hn, hf⟩ : a = false ∧ os.length = c.folk ∧ ∀ o ∈ os, fit p o := hf
          have hw' : who < os.length := by omega
          have z2 : os.length ≤ 16777216 := by omega
          have key2 : ∀ x : D, (os.map On.d).take who ++ x :: (os.map On.d).drop (who + 1) = (os.map On.d).set who x := fun x => set_cut _ _ _ (by simpa using hw')
          have hat : ∀ x8, evE pd.tab (cl (k+1)) (.idx (.var 3) (.var 5)) [some c.d, x1, some (.int who), some (.ref h.length), some (.bl true), some (.int pre.length), some (Lk.d ⟨false, p⟩), some (sel who (.ea os)).d, x8] (h ++ [.lst ((preS ++ .ea os :: ss).map Sl.d)]) = .ok (.tup (os.map On.d)) (h ++ [.lst ((preS ++ .ea os :: ss).map Sl.d)]) := fun x8 => e_idx (e_var rfl) (e_var rfl) (by simp only [idxD, hget, atD_nat, e2]; rfl)
          have hl1 : (os.map On.d).take who ++ [(more p (sel who (.ea os))).d] ++ (os.map On.d).drop (who + 1) = (os.map On.d).set who (more p (sel who (.ea os))).d := by
            rw [List.append_assoc]; exact key2 _
          have hlen : ((os.map On.d).take who).length + 1 ≤ 16777216 := by rw [List.length_take, List.length_map]; omega
          have hlen2 : ((os.map On.d).take who ++ [(more p (sel who (.ea os))).d]).length + ((os.map On.d).drop (who + 1)).length ≤ 16777216 := by
            rw [← List.length_append, hl1, List.length_set, List.length_map]; exact z2
          have hcat : evE pd.tab (cl (k+1)) (.bin .Add (.bin .Add (.slc (.idx (.var 3) (.var 5)) .none (.some (.var 2))) (.tup (.cons (.var 8) .nil))) (.slc (.idx (.var 3) (.var 5)) (.some (.bin .Add (.var 2) (.cst (.int 1)))) .none)) [some c.d, x1, some (.int who), some (.ref h.length), some (.bl true), some (.int pre.length), some (Lk.d ⟨false, p⟩), some (sel who (.ea os)).d, some (more p (sel who (.ea os))).d] (h ++ [.lst ((preS ++ .ea os :: ss).map Sl.d)]) = .ok (.tup ((os.map On.d).set who (more p (sel who (.ea os))).d)) (h ++ [.lst ((preS ++ .ea os :: ss).map Sl.d)]) := by
            refine e_bin (x := .tup ((os.map On.d).take who ++ [(more p (sel who (.ea os))).d])) (y := .tup ((os.map On.d).drop (who + 1))) (e_bin (h1 := h ++ [.lst ((preS ++ .ea os :: ss).map Sl.d)]) (x := .tup ((os.map On.d).take who)) (y := .tup [(more p (sel who (.ea os))).d]) (e_slc01 (hat _) (e_var rfl) ?_) (e_tup (qa (e_var rfl) q0) (by simp [sizeLine])) ?_) (e_slc10 (hat _) (e_bin (e_var rfl) e_cst rfl) ?_) ?_
            · simp only [slcD, cut_to]
            · simp only [opBin, opAdd]
              rw [if_pos (by simpa [sizeLine] using hlen)]
            · simp only [slcD, cut_from]
            · simp only [opBin, opAdd]
              rw [if_pos (by simpa only [sizeLine_eq] using hlen2), hl1]
          refine ⟨_, b_nx (s_set (hone _)) (b_nx (s_iff (hroom _ _) (by rw [hq]; rfl) q_nil) (b_nx (s_set (hmore _ _)) (b_nx (s_ift (heach _ _ _) rfl (b_nx (s_set hcat) q_nil)) (hst _ ?_))))⟩
          · simp [moreS, Sl.d, sel, hw', List.map_set]
      obtain ⟨y8, hb⟩ := hb
      obtain ⟨z5, z6, z7, z8, ih⟩ := lask_loop k c who h hw hk hr x1 ls ss (pre ++ [⟨a, p⟩]) (preS ++ [moreS who ⟨a, p⟩ s]) (some (.int pre.length)) (some (Lk.d ⟨a, p⟩)) (some (sel who s).d) y8 (by rw [er]; simp) (by simp [el]) t
      refine ⟨z5, z6, z7, z8, ?_⟩
      simp only [List.length_append, List.length_cons, List.length_nil, Nat.zero_add] at ih
      rw [ea, eb]
      simp only [loopF, hg, hb, Res.bind]
      rw [ih]
      simp
    · have hq : letS who ⟨a, p⟩ s = false := by simpa using hq
      have ea : askV who (⟨a, p⟩ :: ls) (s :: ss) = (false, s :: ss) := by simp [askV, hq]
      have eb : ansV who (⟨a, p⟩ :: ls) (s :: ss) = false := by simp [ansV, hq]
      have hb : evB pd.tab (cl (k+1)) b_law_ask_1 [some c.d, x1, some (.int who), some (.ref h.length), some (.bl true), some (.int pre.length), some (Lk.d ⟨a, p⟩), x7, x8] (h ++ [.lst ((preS ++ s :: ss).map Sl.d)]) = .ok (.bk, [some c.d, x1, some (.int who), some (.ref h.length), some (.bl false), some (.int pre.length), some (Lk.d ⟨a, p⟩), some (sel who s).d, x8]) (h ++ [.lst ((preS ++ s :: ss).map Sl.d)]) := by
        refine b_nx (s_set (hone _)) (b_bk (s_ift (hroom _ _) (by rw [hq]; rfl) (b_nx (s_set e_cst) (b_bk s_brk))))
      refine ⟨some (.int pre.length), some (Lk.d ⟨a, p⟩), some (sel who s).d, x8, ?_⟩
      rw [ea, eb]
      simp only [loopF, hg, hb, Res.bind]
theorem l_ask (k : Nat) (c : Ch) (who : Nat) (ss : List Sl) (h : Hs) (hw : who < c.folk) (hk : c.folk ≤ 1000) (hr : c.rows.length ≤ 1000) (hf : FitV c.folk c.rows ss) :
    cl (k+2) 63 [c.d, vD ss, .int who] h = .ok (.tup [.bl (ansV who c.rows ss), vD (askR c who ss)]) h := by
  obtain ⟨y5, y6, y7, y8, e2⟩ := lask_loop k c who h hw hk hr (some (vD ss)) c.rows ss [] [] none none none none (by simp) rfl hf
  simp only [List.length_nil, List.nil_append] at e2
  have e1 : evI pd.tab (cl (k+1)) (.enum (.prp 21 (.var 0))) [some c.d, some (vD ss), some (.int who), some (.ref h.length), some (.bl true), none, none, none, none] (h ++ [.lst (ss.map Sl.d)]) = .ok (.its (MC.numbered 0 (c.rows.map Lk.d))) (h ++ [.lst (ss.map Sl.d)]) := by
    simp only [evI]
    rw [e_prp (e_var rfl) (Ch.rows_fld c _) m_links (c_links _ c _)]
    rfl
  have e0 : evS pd.tab (cl (k+1)) (.par 3 4 (.nls (.var 1)) (.cst (.bl true))) [some c.d, some (vD ss), some (.int who), none, none, none, none, none, none] h = .ok (.nx, [some c.d, some (vD ss), some (.int who), some (.ref h.length), some (.bl true), none, none, none, none]) (h ++ [.lst (ss.map Sl.d)]) :=
    s_par (e_nls (e_var rfl) rfl) e_cst
  have e3 : evE pd.tab (cl (k+1)) (.ite (.or (.var 4) (.prp 14 (.var 0))) (.bi .tuple (.cons (.var 3) .nil)) (.var 1)) [some c.d, some (vD ss), some (.int who), some (.ref h.length), some (.bl (ansV who c.rows ss)), y5, y6, y7, y8] (h ++ [.lst ((askV who c.rows ss).2.map Sl.d)]) = .ok (vD (askR c who ss)) (h ++ [.lst ((askV who c.rows ss).2.map Sl.d)]) := by
    have hb : ∀ σ : Sg, σ[3]? = some (some (.ref h.length)) → evE pd.tab (cl (k+1)) (.bi .tuple (.cons (.var 3) .nil)) σ (h ++ [.lst ((askV who c.rows ss).2.map Sl.d)]) = .ok (vD (askV who c.rows ss).2) (h ++ [.lst ((askV who c.rows ss).2.map Sl.d)]) := fun σ e => e_bi (qa (e_var e) q0) (by simp only [biD, D.seq, hget]; rfl)
    unfold askR
    cases ha : ansV who c.rows ss
    · have hc := c_charges k c (h ++ [.lst ((askV who c.rows ss).2.map Sl.d)])
      cases hq : c.costly
      · rw [hq] at hc
        exact e_itef (d := .bl false) (e_orf (e_var rfl) rfl (e_prp (e_var rfl) (Ch.rows_fld c _) m_charges hc)) rfl (e_var rfl)
      · rw [hq] at hc
        exact e_itet (d := .bl true) (e_orf (e_var rfl) rfl (e_prp (e_var rfl) (Ch.rows_fld c _) m_charges hc)) rfl (hb _ rfl)
    · exact e_itet (d := .bl true) (e_ort (e_var rfl) rfl) rfl (hb _ rfl)
  have e4 := call_rt (k := k + 1) (xs := [c.d, vD ss, .int who]) F_law_ask rfl (b_nx e0 (b_nx (s_for e1 e2) (b_ret (e_tup (qa (e_var rfl) (qa e3 q0)) (by simp [sizeLine])))))
  rw [e4]
  exact back_nr (by simp [D.nr, D.nrL, vD, Sls.nr])
end K02

set_option Elab.async false
set_option linter.all false
set_option maxRecDepth 100000
set_option maxHeartbeats 1000000
namespace K02
open PySem PySem.Spec PyProof.Rows L2 He MC MP
/-! ### well-made chains -/
def wfP : Pt → Prop
  | .bk n s => 1 ≤ n ∧ n ≤ 4 ∧ 1 ≤ s ∧ s ≤ 6
  | .wd n s => 1 ≤ n ∧ n ≤ 4 ∧ 1 ≤ s ∧ s ≤ 6
  | .sl n s => 1 ≤ n ∧ n ≤ 4 ∧ 1 ≤ s ∧ s ≤ 6
  | .gp s => 1 ≤ s ∧ s ≤ 6
structure Wf (c : Ch) : Prop where
  r1 : 1 ≤ c.rows.length
  r3 : c.rows.length ≤ 3
  f1 : 1 ≤ c.folk
  f2 : c.folk ≤ 2
  pt : ∀ l ∈ c.rows, wfP l.p
theorem wfP.span {p : Pt} (h : wfP p) : ∀ n s, (p = .bk n s ∨ p = .wd n s) → 1 ≤ s := by
  rintro n s (rfl | rfl)
  · exact h.2.2.1
  · exact h.2.2.1
theorem fit_fst {p : Pt} (h : wfP p) : fit p (fst p) := by
  cases p with
  | bk n s => obtain ⟨_, _, _, _⟩ := h; show (0 : Int) + 1 ≤ s; omega
  | wd n s => obtain ⟨_, _, _, _⟩ := h; show (0 : Int) + 1 ≤ s; omega
  | sl n s => simp [fit, fst]
  | gp s => trivial
theorem fit_more {p : Pt} {o : On} (h : wfP p) (hf : fit p o) (hl : lets p o = true) : fit p (more p o) := by
  cases p <;> cases o <;> first | exact hf.elim | skip
  case bk.pr n s t z => exact hf
  case wd.pr n s t z => exact hf
  case sl.ag n s xs =>
    obtain ⟨_, h4, _, _⟩ := h
    simp only [lets, decide_eq_true_eq] at hl
    show (xs ++ [0]).length ≤ 1000
    rw [List.length_append, List.length_singleton]
    omega
  case gp.gp s g => trivial
theorem fitS_fst {n : Nat} {l : Lk} (h : wfP l.p) : fitS n l (fstS n l) := by
  unfold fstS
  by_cases ha : l.all = true
  · rw [if_pos ha]; exact ⟨ha, fit_fst h⟩
  · rw [if_neg ha]
    refine ⟨by simpa using ha, by simp, fun o ho => ?_⟩
    rw [List.eq_of_mem_replicate ho]
    exact fit_fst h
theorem FitV_fst {n : Nat} : ∀ {ls : List Lk}, (∀ l ∈ ls, wfP l.p) → FitV n ls (ls.map (fstS n))
  | [], _ => .nil
  | l :: ls, h => .cons (fitS_fst (h l (List.mem_cons_self ..))) (FitV_fst fun x hx => h x (List.mem_cons_of_mem _ hx))
theorem FitV_tick {n : Nat} : ∀ {ls : List Lk} {ss : List Sl}, (∀ l ∈ ls, wfP l.p) → FitV n ls ss → FitV n ls (tickV ls ss)
  | [], [], _, .nil => .nil
  | l :: ls, s :: ss, h, .cons hf t => by
    refine .cons ?_ (FitV_tick (fun x hx => h x (List.mem_cons_of_mem _ hx)) t)
    have hp := h l (List.mem_cons_self ..)
    cases s with
    | al o => exact ⟨hf.1, fit_tick hf.2 hp.span⟩
    | ea os =>
      obtain ⟨h1, h2, h3⟩ := hf
      refine ⟨h1, by rw [List.length_map]; exact h2, fun o ho => ?_⟩
      obtain ⟨o', ho', rfl⟩ := List.mem_map.mp ho
      exact fit_tick (h3 o' ho') hp.span
theorem fitS_more {n who : Nat} {l : Lk} {s : Sl} (hp : wfP l.p) (hw : who < n) (hf : fitS n l s) (hl : letS who l s = true) : fitS n l (moreS who l s) := by
  cases s with
  | al o => exact ⟨hf.1, fit_more hp hf.2 hl⟩
  | ea os =>
    obtain ⟨h1, h2, h3⟩ := hf
    have hw' : who < os.length := by omega
    have e : os[who]?.getD (.gp 0) = os[who] := by rw [List.getElem?_eq_getElem hw']; rfl
    simp only [letS, sel, e] at hl
    refine ⟨h1, by rw [List.length_set]; exact h2, fun o ho => ?_⟩
    rw [e] at ho
    rcases List.mem_or_eq_of_mem_set ho with ho | rfl
    · exact h3 o ho
    · exact fit_more hp (h3 _ (List.getElem_mem hw')) hl
theorem FitV_ask {n who : Nat} (hw : who < n) : ∀ {ls : List Lk} {ss : List Sl}, (∀ l ∈ ls, wfP l.p) → FitV n ls ss → FitV n ls (askV who ls ss).2
  | [], [], _, .nil => .nil
  | l :: ls, s :: ss, h, .cons hf t => by
    have hp := h l (List.mem_cons_self ..)
    simp only [askV]
    by_cases hq : letS who l s = true
    · rw [if_pos hq]
      exact .cons (fitS_more hp hw hf hq) (FitV_ask hw (fun x hx => h x (List.mem_cons_of_mem _ hx)) t)
    · rw [if_neg hq]
      exact .cons hf t
theorem FitV_askR {c : Ch} {who : Nat} {ss : List Sl} (hw : who < c.folk) (h : ∀ l ∈ c.rows, wfP l.p) (hf : FitV c.folk c.rows ss) : FitV c.folk c.rows (askR c who ss) := by
  unfold askR
  split
  · exact FitV_ask hw h hf
  · exact hf
/-! ### events -/
inductive Ev where
  | tick | ask (who : Nat)
deriving DecidableEq
def Ev.d : Ev → D
  | .tick => .tup [.str (Str.ofString "tick")]
  | .ask w => .tup [.str (Str.ofString "ask"), .int w]
def Ev.ok (c : Ch) : Ev → Prop
  | .tick => True
  | .ask w => w < c.folk
def evs (c : Ch) : List Ev := .tick :: (List.range c.folk).map .ask
def ansE (c : Ch) (ss : List Sl) : Ev → D
  | .tick => .non
  | .ask w => .bl (ansV w c.rows ss)
def nxt (c : Ch) (ss : List Sl) : Ev → List Sl
  | .tick => tickV c.rows ss
  | .ask w => askR c w ss
theorem FitV_nxt {c : Ch} {ev : Ev} {ss : List Sl} (w : Wf c) (he : ev.ok c) (hf : FitV c.folk c.rows ss) : FitV c.folk c.rows (nxt c ss ev) := by
  cases ev with
  | tick => exact FitV_tick w.pt hf
  | ask who => exact FitV_askR he w.pt hf
theorem Ev.nr (e : Ev) : e.d.nr = true := by cases e <;> rfl
def Ev.isT : Ev → Bool
  | .tick => true
  | _ => false
theorem ev_tick (h : Hs) (e : Ev) : eqD h e.d (.tup [.str (Str.ofString "tick")]) = some e.isT := by
  cases e with
  | tick => exact eqD_self (n := 1) (.tup (.cons (.str 0 (by simp)) (.nil 0))) (by omega) h
  | ask w =>
    simp [eqD, Ev.d, Ev.isT, D.py, D.pyQ, D.pyP, SeqAt.shaped, PyData.canLay0, PyData.canLayAll0, PyData.depth, PyData.depthAll, PyData.eqv, PyData.eqvAll]
theorem p_afterEvent (k : Nat) (c : Ch) (ss : List Sl) (ev : Ev) (h : Hs) (w : Wf c) (he : ev.ok c) (hf : FitV c.folk c.rows ss) : cl (k+5) 23 [c.d, vD ss, ev.d] h = .ok (.tup [ansE c ss ev, vD (nxt c ss ev)]) h := by
  have h3 := w.r3
  have h2 := w.f2
  have e0 : evE pd.tab (cl (k+4)) (.cmp .Eq (.var 2) (.glo 6 (.tup [(.str (Str.ofString "tick"))]))) [some c.d, some (vD ss), some ev.d] h = .ok (.bl ev.isT) h :=
    e_cmp (e_var rfl) e_glo (by simp only [opCmp, ev_tick, Option.map_some])
  refine call_same F_after_event rfl (b_ret ?_)
  cases ev with
  | tick => exact e_itet e0 rfl (e_tup (qa e_cst (qa (e_fn (qa (e_var rfl) (qa (e_var rfl) q0)) (p_afterTick (k+2) c ss h hf (by omega) (by omega))) q0)) (by simp [sizeLine]))
  | ask who => exact e_itef e0 rfl (e_fn (qa (e_var rfl) (qa (e_var rfl) (qa (e_idx (e_var rfl) e_cst rfl) q0))) (p_afterAsk k c who ss h he (by omega) (by omega) hf))
theorem l_step (k : Nat) (c : Ch) (ss : List Sl) (ev : Ev) (h : Hs) (w : Wf c) (he : ev.ok c) (hf : FitV c.folk c.rows ss) : cl (k+3) 64 [c.d, vD ss, ev.d] h = .ok (.tup [ansE c ss ev, vD (nxt c ss ev)]) h := by
  have h3 := w.r3
  have h2 := w.f2
  have e0 : evE pd.tab (cl (k+2)) (.cmp .Eq (.var 2) (.tup (.cons (.cst (.str (Str.ofString "tick"))) .nil))) [some c.d, some (vD ss), some ev.d] h = .ok (.bl ev.isT) h :=
    e_cmp (e_var rfl) (e_tup (qa e_cst q0) (by simp [sizeLine])) (by simp only [opCmp, ev_tick, Option.map_some])
  cases ev with
  | tick => exact call_same F_law_step rfl (b_rt (s_ift e0 rfl (b_ret (e_tup (qa e_cst (qa (e_fn (qa (e_var rfl) (qa (e_var rfl) q0)) (l_tick k c ss h hf (by omega) (by omega))) q0)) (by simp [sizeLine])))))
  | ask who => exact call_same F_law_step rfl (b_nx (s_iff e0 rfl q_nil) (b_ret (e_fn (qa (e_var rfl) (qa (e_var rfl) (qa (e_idx (e_var rfl) e_cst rfl) q0))) (l_ask k c who ss h he (by omega) (by omega) hf))))
/-! ### small defs -/
theorem p_int (k : Nat) (i lo hi : Int) (h : Hs) : cl (k+1) 1 [.int i, .int lo, .int hi] h = .ok (.bl (decide (lo ≤ i) && decide (i ≤ hi))) h := by
  rw [call_eq F_is_integer]
  by_cases h1 : lo ≤ i
  · simp [f_is_integer, startM, evB, evS, evE, Res.bind, Res.of, tyOk, tyIn, isTy, tru, opCmp, back_same, h1]
  · simp [f_is_integer, startM, evB, evS, evE, Res.bind, Res.of, tyOk, tyIn, isTy, tru, opCmp, back_same, h1]
theorem p_check (k : Nat) (c : Ch) (h : Hs) : cl (k+1) 11 [c.d] h = .ok .non h := by
  have hc : pd.tab.cok 4 = true := by decide +kernel
  rw [call_eq F_check_chain]
  simp [f_check_chain, startM, evB, evS, evE, Res.bind, Res.of, Ch.d, tyOk, tyIn, isTy, tru, tst, hc, back_same]
theorem asks_nr (n : Nat) : ∀ y ∈ (List.range n).map fun i : Nat => D.tup [.str (Str.ofString "ask"), .int (i : Int)], y.nr = true := by
  intro y hy
  obtain ⟨i, _, rfl⟩ := List.mem_map.mp hy
  rfl
theorem evs_d (c : Ch) : (evs c).map Ev.d = .tup [.str (Str.ofString "tick")] :: (List.range c.folk).map fun i : Nat => D.tup [.str (Str.ofString "ask"), .int (i : Int)] := by
  simp [evs, Ev.d]
theorem p_eventsOf (k : Nat) (c : Ch) (h : Hs) (h2 : c.folk ≤ 1000) : cl (k+1) 12 [c.d] h = .ok (.lst ((evs c).map Ev.d)) h := by
  have e1 : evE pd.tab (cl k) c_events_of_1 [some c.d, none] h = .ok (.lst ((List.range c.folk).map fun i : Nat => D.tup [.str (Str.ofString "ask"), .int (i : Int)])) h := by
    refine lc_map (en := fun i : Nat => D.int (i : Int)) (evI_rng1 (by simp [evE, Res.bind, Res.of, Ch.rows_fld, getF]) (by omega)) (by rw [List.length_range, sizeLine_eq]; omega) (fun i hi g => ⟨_, rfl, rfl, ?_⟩) (fun i _ => rfl)
    exact e_tup (qa e_cst (qa (e_var rfl) q0)) (by simp [sizeLine])
  have e2 := qa (T := pd.tab) (cl := cl k) (σ := [some c.d, none]) (h := h) (e_glo (x := 6) (d := (.tup [(.str (Str.ofString "tick"))]))) (qs e1 rfl q0)
  rw [List.append_nil, ← evs_d] at e2
  exact call_same F_events_of rfl (b_ret (e_lstT e2 (by rw [evs_d]; simp [sizeLine]; omega)))
theorem l_events (k : Nat) (c : Ch) (h : Hs) (h2 : c.folk ≤ 1000) : cl (k+2) 56 [c.d] h = .ok (.lst ((evs c).map Ev.d)) h := by
  have e1 : evE pd.tab (cl (k+1)) c_law_events_1 [some c.d, none] h = .ok (.lst ((List.range c.folk).map fun i : Nat => D.tup [.str (Str.ofString "ask"), .int (i : Int)])) h := by
    refine lc_map (en := fun i : Nat => D.int (i : Int)) (evI_rng1 (e_prp (e_var rfl) (Ch.rows_fld c _) m_callers (c_callers _ c _)) (by omega)) (by rw [List.length_range, sizeLine_eq]; omega) (fun i hi g => ⟨_, rfl, rfl, ?_⟩) (fun i _ => rfl)
    exact e_tup (qa e_cst (qa (e_var rfl) q0)) (by simp [sizeLine])
  have e0 : evE pd.tab (cl (k+1)) (.lst true (.cons (.tup (.cons (.cst (.str (Str.ofString "tick"))) .nil)) .nil)) [some c.d, none] h = .ok (.lst [.tup [.str (Str.ofString "tick")]]) h := e_lstT (qa (e_tup (qa e_cst q0) (by simp [sizeLine])) q0) (by simp [sizeLine])
  have e2 : opBin h .Add (.lst [.tup [.str (Str.ofString "tick")]]) (.lst ((List.range c.folk).map fun i : Nat => D.tup [.str (Str.ofString "ask"), .int (i : Int)])) = some (.lst ((evs c).map Ev.d)) := by
    have : 1 + c.folk ≤ 16777216 := by omega
    rw [evs_d]
    simp [opBin, opAdd, D.lseq, sizeLine, this]
  exact call_same F_law_events rfl (b_ret (e_bin e0 e1 e2))
end K02

set_option Elab.async false
set_option linter.all false
set_option maxRecDepth 100000
set_option maxHeartbeats 1000000
namespace K02
open PySem PySem.Spec PyProof.Rows L2 He MC MP
theorem frz_flds {new : Hs} {b k : Nat} : ∀ {fs : List (Nat × D)}, (∀ x ∈ fs, x.2.nr = true) → fs.mapM (m := Option) (β := Nat × D) (fun (p : Nat × D) => (frzD new b (k+1) p.2).map fun b => (p.1, b)) = some fs
  | [], _ => rfl
  | x :: xs, h => by
    rw [List.mapM_cons, frz_nr (h x (List.mem_cons_self ..)), frz_flds fun y hy => h y (List.mem_cons_of_mem _ hy)]
    rfl
theorem back_ins {h : Hs} {c : Nat} {fs : List (Nat × D)} (hy : ∀ x ∈ fs, x.2.nr = true) : back true h (.ref h.length) (h ++ [.ins c fs]) = .ok (.ins c fs) h := by
  unfold back
  have : ¬ (h ++ [O.ins c fs]).length = h.length := by simp
  rw [if_neg this]
  have e : frzD [O.ins c fs] h.length 6 (.ref h.length) = some (.ins c fs) := by
    unfold frzD
    simp only [D.nr]
    simp [frz_flds hy]
  simp [Hs.eqb_refl, e]
theorem Pt.nr (p : Pt) : p.d.nr = true := by cases p <;> rfl
theorem Lks.nr (ls : List Lk) : D.nrL (ls.map Lk.d) = true := by
  induction ls with
  | nil => rfl
  | cons x xs ih => simp [D.nrL, Lk.d, D.nr, Pt.nr, ih]
theorem Ch.nr (c : Ch) : c.d.nr = true := by
  simp [Ch.d, D.nr, D.nrF, Ch.rd, Lks.nr]
theorem p_part (k : Nat) (p : Pt) (h : Hs) (w : wfP p) : cl (k+2) 3 [p.d] h = .ok (.bl true) h := by
  have hw : ∀ x, cl (k+1) 2 [.str x, .tup [.str (Str.ofString "gap")]] h = .ok (.bl (decide (Str.ofString "gap" = x))) h := fun x => by
    rw [call_eq F_is_word]
    simp [f_is_word, startM, evB, evS, evE, Res.bind, Res.of, tyOk, tyIn, isTy, tru, opCmp, inD, D.seq, D.flat, eqF, back_same]
  have hw3 : ∀ x, cl (k+1) 2 [.str x, .tup [.str (Str.ofString "bucket"), .str (Str.ofString "window"), .str (Str.ofString "slide")]] h = .ok (.bl (decide (Str.ofString "bucket" = x) || (decide (Str.ofString "window" = x) || decide (Str.ofString "slide" = x)))) h := fun x => by
    rw [call_eq F_is_word]
    simp [f_is_word, startM, evB, evS, evE, Res.bind, Res.of, tyOk, tyIn, isTy, tru, opCmp, inD, D.seq, D.flat, eqF, back_same]
  rw [call_eq F_is_part]
  cases p with
  | gp s =>
    obtain ⟨h1, h2⟩ := w
    simp [f_is_part, startM, evB, evS, evE, evA, Res.bind, Res.of, Pt.d, tyOk, tyIn, isTy, tru, tst, opCmp, inD, D.seq, D.flat, eqF, biD, idxD, atD, L2.ixN, eqD_int, hw, p_int, h1, h2, sizeLine, back_same]
  | bk n s =>
    obtain ⟨h1, h2, h3, h4⟩ := w
    simp [f_is_part, startM, evB, evS, evE, evA, Res.bind, Res.of, Pt.d, tyOk, tyIn, isTy, tru, tst, opCmp, inD, D.seq, D.flat, eqF, biD, idxD, atD, L2.ixN, eqD_int, hw3, p_int, h1, h2, h3, h4, sizeLine, back_same]
  | wd n s =>
    obtain ⟨h1, h2, h3, h4⟩ := w
    simp [f_is_part, startM, evB, evS, evE, evA, Res.bind, Res.of, Pt.d, tyOk, tyIn, isTy, tru, tst, opCmp, inD, D.seq, D.flat, eqF, biD, idxD, atD, L2.ixN, eqD_int, hw3, p_int, h1, h2, h3, h4, sizeLine, back_same]
  | sl n s =>
    obtain ⟨h1, h2, h3, h4⟩ := w
    simp [f_is_part, startM, evB, evS, evE, evA, Res.bind, Res.of, Pt.d, tyOk, tyIn, isTy, tru, tst, opCmp, inD, D.seq, D.flat, eqF, biD, idxD, atD, L2.ixN, eqD_int, hw3, p_int, h1, h2, h3, h4, sizeLine, back_same]
theorem p_link (k : Nat) (l : Lk) (h : Hs) (w : wfP l.p) : cl (k+3) 4 [l.d] h = .ok (.bl true) h := by
  have hw : ∀ b : Bool, cl (k+2) 2 [.str (if b then Str.ofString "all" else Str.ofString "each"), .tup [.str (Str.ofString "all"), .str (Str.ofString "each")]] h = .ok (.bl true) h := fun b => by
    rw [call_eq F_is_word]
    cases b <;> simp [f_is_word, startM, evB, evS, evE, Res.bind, Res.of, tyOk, tyIn, isTy, tru, opCmp, inD, D.seq, D.flat, eqF, back_same]
  have hp := p_part k l.p h w
  rw [call_eq F_is_link]
  simp [f_is_link, startM, evB, evS, evE, evA, Res.bind, Res.of, Lk.d, Lk.sc, tyOk, tyIn, isTy, tru, tst, opCmp, D.seq, biD, idxD, atD, L2.ixN, eqD_int, hw, hp, back_same]
theorem boolsTrue {α : Type} : ∀ xs : List α, boolsOf (xs.map fun _ => D.bl true) = some (xs.map fun _ => true)
  | [] => rfl
  | x :: xs => by simp [boolsOf, boolsTrue xs]
theorem c_init (k : Nat) (c : Ch) (h : Hs) (w : Wf c) : cl (k+4) 5 [.ref h.length, c.rd, .int c.folk, .bl c.costly] (h ++ [.ins 4 []]) = .ok .non (h ++ [.ins 4 [(28, c.rd), (16, .int c.folk), (15, .bl c.costly)]]) := by
  obtain ⟨r1, r3, f1, f2, pt⟩ := w
  have e1 : ∀ h', evE pd.tab (cl (k+3)) c_Chain_init_1 [some (.ref h.length), some c.rd, some (.int c.folk), some (.bl c.costly), none] h' = .ok (.lst (c.rows.map fun _ => D.bl true)) h' := fun h' => by
    refine lc_map (en := Lk.d) (by simp [evI, evE, Res.bind, Ch.rd]) (by rw [sizeLine_eq]; omega) (fun l hl g => ⟨_, rfl, rfl, ?_⟩) (fun i _ => rfl)
    exact e_fn (qa (e_var rfl) q0) (p_link k l g (pt l hl))
  have e2 : ∀ h', evE pd.tab (cl (k+3)) (.bi .all (.cons c_Chain_init_1 .nil)) [some (.ref h.length), some c.rd, some (.int c.folk), some (.bl c.costly), none] h' = .ok (.bl true) h' := fun h' => by
    rw [all_ok' (e1 h') (boolsTrue _)]
    simp
  have q : ∀ (f : Nat) (d : D) (fs : List (Nat × D)), pd.tab.fok 4 f = true → fs.length < 900 → ∀ σ : Sg, σ[0]? = some (some (.ref h.length)) → evG pd.tab (cl (k+3)) (.att (.var 0) f) d σ (h ++ [.ins 4 fs]) = .ok σ (h ++ [.ins 4 (putF f d fs)]) := fun f d fs hf hl σ e =>
    g_att (e_var e) (hget ..) (by simp [hf, hl]) (hset ..)
  have n1 : (1 : Int) ≤ c.rows.length := by omega
  have n2 : (c.rows.length : Int) ≤ 3 := by omega
  have n3 : (1 : Int) ≤ c.folk := by omega
  have n4 : (c.folk : Int) ≤ 2 := by omega
  have t1 : ∀ h', evE pd.tab (cl (k+3)) (.or (.not (.isi (.var 1) [.tuple])) (.or (.not (.chn .LtE .LtE (.cst (.int 1)) (.bi .len (.cons (.var 1) .nil)) (.glo 2 (.int 3)))) (.not (.bi .all (.cons c_Chain_init_1 .nil))))) [some (.ref h.length), some c.rd, some (.int c.folk), some (.bl c.costly), none] h' = .ok (.bl false) h' := fun h' => by
    refine e_orf (e_not (e_isi (e_var rfl) rfl) rfl) rfl (e_orf (e_not (k := true) (e_chnt (d := .bl true) e_cst (e_bi (d := .int c.rows.length) (qa (e_var rfl) q0) (by simp [biD, Ch.rd, D.seq])) (by simp [opCmp, n1]) e_glo (by simp [opCmp, n2])) rfl) rfl (e_not (k := true) (e2 h') rfl))
  have t2 : ∀ h', evE pd.tab (cl (k+3)) (.not (.fn 1 (.cons (.var 2) (.cons (.cst (.int 1)) (.cons (.glo 0 (.int 2)) .nil))))) [some (.ref h.length), some c.rd, some (.int c.folk), some (.bl c.costly), none] h' = .ok (.bl false) h' := fun h' => by
    have := p_int (k+2) c.folk 1 2 h'
    rw [decide_eq_true n3, decide_eq_true n4] at this
    exact e_not (e_fn (qa (e_var rfl) (qa e_cst (qa e_glo q0))) this) rfl
  have t3 : ∀ h', evE pd.tab (cl (k+3)) (.not (.isi (.var 3) [.bool])) [some (.ref h.length), some c.rd, some (.int c.folk), some (.bl c.costly), none] h' = .ok (.bl false) h' := fun h' => e_not (k := true) (d := .bl true) (e_isi (x := .bl c.costly) (e_var rfl) rfl) rfl
  have hb := b_nx (s_iff (t := (.cons .never .nil)) (t1 (h ++ [.ins 4 []])) rfl q_nil) (b_nx (s_iff (t := (.cons .never .nil)) (t2 _) rfl q_nil) (b_nx (s_iff (t := (.cons .never .nil)) (t3 _) rfl q_nil) (b_nx (s_asg (a := .var 1) (e_var rfl) (q 28 c.rd [] fok_rows (by decide) _ rfl)) (b_nx (s_asg (a := .var 2) (e_var rfl) (q 16 (.int c.folk) _ fok_folk (by simp [MC.putF]) _ rfl)) (b_nx (s_asg (a := .var 3) (e_var rfl) (q 15 (.bl c.costly) _ fok_costly (by simp [MC.putF]) _ rfl)) q_nil)))))
  rw [call_nx F_Chain_init rfl hb]
  exact back_len (by simp)
theorem c_mk (k : Nat) (c : Ch) (h : Hs) (w : Wf c) : (cl (k+4) 5 [.ref h.length, c.rd, .int c.folk, .bl c.costly] (h ++ [.ins 4 []])) = .ok .non (h ++ [.ins 4 [(28, c.rd), (16, .int c.folk), (15, .bl c.costly)]]) ∧ back true h (.ref h.length) (h ++ [.ins 4 [(28, c.rd), (16, .int c.folk), (15, .bl c.costly)]]) = .ok c.d h := by
  refine ⟨c_init k c h w, back_ins ?_⟩
  have := Ch.nr c
  simp [Ch.d, D.nr, D.nrF] at this
  simp [D.nr, this]
theorem Lk.dt (l : Lk) : Dt 2 l.d := by
  have hs : Dt 1 (.str l.sc) := .str 1 (by unfold Lk.sc; split <;> simp)
  refine .tup (.cons hs (.cons ?_ (.nil _)))
  obtain ⟨a, p⟩ := l
  cases p <;> exact .tup (.cons (.str 0 (by simp)) (.cons (.int ..) (by first | exact .cons (.int ..) (.nil _) | exact .nil _)))
theorem dtL_map {α : Type} {n : Nat} {f : α → D} : ∀ {xs : List α}, (∀ x ∈ xs, Dt n (f x)) → DtL n (xs.map f)
  | [], _ => .nil _
  | x :: xs, h => .cons (h x (List.mem_cons_self ..)) (dtL_map fun y hy => h y (List.mem_cons_of_mem _ hy))
theorem Ch.rdt (c : Ch) : Dt 3 c.rd := .tup (dtL_map fun l _ => l.dt)
@[simp] theorem m_all_parts : pd.tab.meth 4 11 = some 10 := by decide +kernel
@[simp] theorem m_ceq : pd.tab.meth 4 pd.tab.eq = some 9 := by decide +kernel
theorem c_allParts (k : Nat) (c : Ch) (h : Hs) : cl (k+1) 10 [c.d] h = .ok (.lst [c.rd, .int c.folk, .bl c.costly]) h := by
  rw [call_eq F_Chain_all_parts]
  simp [f_Chain_all_parts, startM, evB, evS, evE, evA, Res.bind, Res.of, Ch.rows_fld, getF, sizeLine, back_same]
theorem getF_none {f : Nat} (c : Ch) (h1 : 28 ≠ f) (h2 : 16 ≠ f) (h3 : 15 ≠ f) : getF f [(28, c.rd), (16, .int c.folk), (15, .bl c.costly)] = none := by
  simp [getF, h1, h2, h3]
theorem c_eq (k : Nat) (c : Ch) (h : Hs) : cl (k+2) 9 [c.d, c.d] h = .ok (.bl true) h := by
  have hc : pd.tab.cok 4 = true := by decide +kernel
  have e1 : evE pd.tab (cl (k+1)) (.isi (.var 1) [(.own 4)]) [some c.d, some c.d] h = .ok (.bl true) h := by
    rw [e_isi (e_var rfl) (by simp [Ch.d, tyOk, tyIn, hc])]
    rfl
  have e2 : ∀ i, i < 2 → evE pd.tab (cl (k+1)) (.mth 11 (.var i) .nil) [some c.d, some c.d] h = .ok (.lst [c.rd, .int c.folk, .bl c.costly]) h := fun i hi => by
    refine e_mth (e_var (d := c.d) ?_) (Ch.rows_fld c _) (getF_none c (by decide) (by decide) (by decide)) m_all_parts q0 (Ch.rows_fld c _) (c_allParts k c h)
    match i, hi with
    | 0, _ => rfl
    | 1, _ => rfl
  refine call_same F_Chain_eq rfl (b_ret (e_andt e1 rfl (e_cmp (e2 0 (by decide)) (e2 1 (by decide)) ?_)))
  have := eqD_self (n := 4) (d := .lst [c.rd, .int c.folk, .bl c.costly]) (.lst (.cons c.rdt (.cons (.int ..) (.cons (.bl ..) (.nil _))))) (by omega) h
  simp [opCmp, this]
end K02

set_option Elab.async false
set_option linter.all false
set_option maxRecDepth 100000
set_option maxHeartbeats 1000000
namespace K02
open PySem PySem.Spec PyProof.Rows L2 He MC MP
/-! ### draws -/
theorem d_cell (k : Nat) (ns : List Int) (i : Nat) (h : Hs) : ∃ v, cl (k+1) 49 [.lst (ns.map D.int), .int i] h = .ok (.int v) h := by
  have e1 : evE pd.tab (cl k) (.cmp .Lt (.var 1) (.bi .len (.cons (.var 0) .nil))) [some (.lst (ns.map D.int)), some (.int i)] h = .ok (.bl (decide ((i : Int) < ns.length))) h :=
    e_cmp (e_var rfl) (e_bi (d := .int ns.length) (qa (e_var rfl) q0) (by simp [biD, D.seq])) (by simp only [opCmp])
  by_cases hi : i < ns.length
  · rw [decide_eq_true (by omega)] at e1
    exact ⟨ns[i], call_same F_law_cell_at rfl (b_rt (s_ift e1 rfl (b_ret (e_idx (e_var rfl) (e_var rfl) (by simp [idxD, atD_nat, hi])))))⟩
  · rw [decide_eq_false (by omega)] at e1
    exact ⟨0, call_same F_law_cell_at rfl (b_nx (s_iff e1 rfl q_nil) (b_ret e_cst))⟩
def primes : List Int := [1000003, 1000033, 1000037, 1000039, 1000081, 1000099, 1000117, 1000121, 1000133, 1000151, 1000159, 1000171, 1000183, 1000187, 1000193, 1000199]
theorem prime_at (j : Int) (h0 : 0 ≤ j) (h1 : j < 16) : ∃ p : Int, 0 < p ∧ atD (primes.map D.int) j = some (.int p) := by
  obtain ⟨m, rfl⟩ := Int.eq_ofNat_of_zero_le h0
  have hm : m < 16 := by omega
  have h2 : m < primes.length := hm
  refine ⟨primes[m], ?_, ?_⟩
  · have : ∀ x ∈ primes, (0 : Int) < x := by decide
    exact this _ (List.getElem_mem h2)
  · rw [atD_nat]
    simp [h2]
theorem small_lit {i : Int} (h1 : -(2 ^ 64) < i) (h2 : i < 2 ^ 64) : small i = true := by
  unfold small
  rw [decide_eq_true h1, decide_eq_true h2]
  rfl
theorem mul_r (i j : Int) (h1 : -(2 ^ 64) < j) (h2 : j < 2 ^ 64) (h : Hs) : opBin h .Mult (.int i) (.int j) = some (.int (i * j)) := by
  simp only [opBin, opMul, small_lit h1 h2, Bool.or_true, if_true]
theorem mul_l (i j : Int) (h1 : -(2 ^ 64) < i) (h2 : i < 2 ^ 64) (h : Hs) : opBin h .Mult (.int i) (.int j) = some (.int (i * j)) := by
  simp only [opBin, opMul, small_lit h1 h2, Bool.true_or, if_true]
theorem mod_ok (i j : Int) (h0 : 0 < j) (h : Hs) : opBin h .Mod (.int i) (.int j) = some (.int (i % j)) := by
  simp only [opBin, h0, if_true]
theorem add_ok (i j : Int) (h : Hs) : opBin h .Add (.int i) (.int j) = some (.int (i + j)) := rfl
theorem sub_ok (i j : Int) (h : Hs) : opBin h .Sub (.int i) (.int j) = some (.int (i - j)) := rfl
theorem int_ok (i : Int) (h : Hs) : biD h .int [.int i] = some (.int i) := rfl
theorem d_draw (k : Nat) (a kk b : Int) (hb : 0 < b) (h : Hs) : ∃ r, 0 ≤ r ∧ r < b ∧ cl (k+1) 50 [.int a, .int kk, .int b] h = .ok (.int r) h := by
  obtain ⟨p, hp, ep⟩ := prime_at (kk % 16) (Int.emod_nonneg _ (by decide)) (Int.emod_lt_of_pos _ (by decide))
  refine ⟨(a * 48271 + kk * 69621) % p % b, Int.emod_nonneg _ (by omega), Int.emod_lt_of_pos _ hb, ?_⟩
  refine call_same F_law_draw rfl (b_nx (h1 := h) (s_set (d := .tup (primes.map D.int)) (e_tup (xs := primes.map D.int) ?_ (by decide +kernel))) (b_ret ?_))
  · simp only [evA, evE, Res.bind]; rfl
  · exact e_bin (e_bin (e_bi (qa (e_bin (e_bin (e_var rfl) e_cst (mul_r a 48271 (by decide) (by decide) _)) (e_bin (e_var rfl) e_cst (mul_r kk 69621 (by decide) (by decide) _)) (add_ok _ _ _)) q0) (int_ok _ _)) (e_idx (x := .tup (primes.map D.int)) (e_var rfl) (e_bin (e_bi (qa (e_var rfl) q0) (int_ok _ _)) e_cst (mod_ok _ 16 (by decide) _)) ep) (mod_ok _ _ hp _)) (e_var rfl) (mod_ok _ _ hb _)
theorem pow_loop (k : Nat) (x0 x1 x2 x5 x6 : Option D) (h : Hs) : ∀ (js : List Nat) (p : Int) (x4 : Option D), ∃ y4, loopF (evG pd.tab (cl k) g_law_number_1) (evB pd.tab (cl k) b_law_number_1) (js.map fun (i : Nat) => D.int (i : Int)) [x0, x1, x2, some (.int p), x4, x5, x6] h = .ok (.nx, [x0, x1, x2, some (.int (p * 1009 ^ js.length)), y4, x5, x6]) h
  | [], p, x4 => ⟨x4, by simp [loopF]⟩
  | j :: js, p, x4 => by
    obtain ⟨y4, ih⟩ := pow_loop k x0 x1 x2 x5 x6 h js (p * 1009) (some (.int j))
    refine ⟨y4, ?_⟩
    have hb : evB pd.tab (cl k) b_law_number_1 [x0, x1, x2, some (.int p), some (.int j), x5, x6] h = .ok (.nx, [x0, x1, x2, some (.int (p * 1009)), some (.int j), x5, x6]) h :=
      b_nx (s_set (e_bin (e_var rfl) e_cst (mul_r p 1009 (by decide) (by decide) _))) q_nil
    have hg : evG pd.tab (cl k) g_law_number_1 (.int j) [x0, x1, x2, some (.int p), x4, x5, x6] h = .ok [x0, x1, x2, some (.int p), some (.int j), x5, x6] h := g_nm
    rw [List.map_cons, f_nx hg hb ih]
    have : p * 1009 * 1009 ^ js.length = p * 1009 ^ (j :: js).length := by
      rw [List.length_cons, Int.pow_succ]; ac_rfl
    rw [this]
theorem pow_lt (n : Nat) (h : n < 24) : (1009 : Int) ^ n < 2 ^ 1000 ∧ (0 : Int) < 1009 ^ n := by
  have : ∀ m : Fin 24, (1009 : Int) ^ m.val < 2 ^ 1000 ∧ (0 : Int) < 1009 ^ m.val := by decide +kernel
  exact this ⟨n, h⟩
theorem d_number (k : Nat) (a : Int) (kk : Nat) (b : Int) (hk : kk < 1000) (hb : 0 < b) (h : Hs) : ∃ r, 0 ≤ r ∧ r < b ∧ cl (k+2) 51 [.int a, .int kk, .int b] h = .ok (.int r) h := by
  obtain ⟨y4, e1⟩ := pow_loop (k+1) (some (.int a)) (some (.int kk)) (some (.int b)) none none h (List.range (kk % 24)) 1 none
  have hp := pow_lt (kk % 24) (Nat.mod_lt _ (by decide))
  rw [List.length_range, Int.one_mul] at e1
  have e0 : evI pd.tab (cl (k+1)) (.rng1 (.bin .Mod (.bi .int (.cons (.var 1) .nil)) (.cst (.int 24)))) [some (.int a), some (.int kk), some (.int b), some (.int 1), none, none, none] h = .ok (.its ((List.range (kk % 24)).map fun (i : Nat) => D.int (i : Int))) h :=
    evI_rng1 (e_bin (e_bi (qa (e_var rfl) q0) (int_ok _ _)) e_cst (mod_ok _ 24 (by decide) _)) (by omega)
  have e2 : ∀ σ : Sg, σ[0]? = some (some (.int a)) → σ[3]? = some (some (.int (1009 ^ (kk % 24)))) → evE pd.tab (cl (k+1)) (.bin .FloorDiv (.bin .Sub (.var 0) (.bin .Pow (.cst (.int 10)) (.cst (.int 18)))) (.var 3)) σ h = .ok (.int ((a - 10 ^ 18) / 1009 ^ (kk % 24))) h := fun σ z0 z3 =>
    e_bin (e_bin (e_var z0) (e_bin (d := .int (10 ^ 18)) e_cst e_cst (by simp [opBin])) (sub_ok _ _ _)) (e_var z3) (by simp only [opBin]; rw [decide_eq_true hp.2, decide_eq_true hp.1]; rfl)
  generalize (a - 10 ^ 18) / 1009 ^ (kk % 24) = q at e2
  by_cases hq : 0 < q
  · refine ⟨q % 1009 % b, Int.emod_nonneg _ (by omega), Int.emod_lt_of_pos _ hb, ?_⟩
    exact call_same F_law_number rfl (b_nx (s_set e_cst) (b_nx (s_for e0 e1) (b_nx (s_set (e2 _ rfl rfl)) (b_rt (s_ift (d := .bl true) (e_cmp (e_var rfl) e_cst (by simp [opCmp, hq])) rfl (b_ret (e_bin (e_bin (e_bi (qa (e_var rfl) q0) (int_ok _ _)) e_cst (mod_ok _ 1009 (by decide) _)) (e_var rfl) (mod_ok _ _ hb _))))))))
  · obtain ⟨r, h1, h2, e3⟩ := d_draw k ((a % 1000003 + 977 * kk) * (a % 1000003 + 31 * kk + 5)) ((kk : Int) % 9 + 1) 999983 (by decide) h
    refine ⟨r % b, Int.emod_nonneg _ (by omega), Int.emod_lt_of_pos _ hb, ?_⟩
    have s0 : 0 ≤ a % 1000003 := Int.emod_nonneg _ (by decide)
    have s1 : a % 1000003 < 1000003 := Int.emod_lt_of_pos _ (by decide)
    exact call_same F_law_number rfl (b_nx (s_set e_cst) (b_nx (s_for e0 e1) (b_nx (s_set (e2 _ rfl rfl)) (b_nx (s_iff (d := .bl false) (e_cmp (e_var rfl) e_cst (by simp [opCmp]; omega)) rfl q_nil) (b_nx (s_set (e_bin (e_bi (qa (e_var rfl) q0) (int_ok _ _)) e_cst (mod_ok _ 1000003 (by decide) _))) (b_ret (e_bin (e_fn (qa (e_bin (e_bin (e_var rfl) (e_bin e_cst (e_var rfl) (mul_l 977 _ (by decide) (by decide) _)) (add_ok _ _ _)) (e_bin (e_bin (e_var rfl) (e_bin e_cst (e_var rfl) (mul_l 31 _ (by decide) (by decide) _)) (add_ok _ _ _)) e_cst (add_ok _ _ _)) (mul_l _ _ (by omega) (by omega) _)) (qa (e_bin (e_bin (e_bi (qa (e_var rfl) q0) (int_ok _ _)) e_cst (mod_ok _ 9 (by decide) _)) e_cst (add_ok _ _ _)) (qa e_cst q0))) e3) (e_var rfl) (mod_ok _ _ hb _))))))))
def dr (ns : List Int) (by_ : Nat) (j : Nat) : O := .lst [.lst (ns.map D.int), .int by_, .int j]
structure Drw (ns : List Int) (by_ n : Nat) (h h' : Hs) : Prop where
  ge : h.length ≤ h'.length
  oth : ∀ i, i < h.length → i ≠ n → h'[i]? = h[i]?
  at_ : ∃ j j', h[n]? = some (dr ns by_ j) ∧ h'[n]? = some (dr ns by_ j') ∧ j < j'
theorem Drw.trans {ns : List Int} {by_ n : Nat} {h h1 h2 : Hs} (p : Drw ns by_ n h h1) (q : Drw ns by_ n h1 h2) : Drw ns by_ n h h2 := by
  refine ⟨Nat.le_trans p.ge q.ge, fun i hi hn => (q.oth i (Nat.lt_of_lt_of_le hi p.ge) hn).trans (p.oth i hi hn), ?_⟩
  obtain ⟨j, j1, a, b, c⟩ := p.at_
  obtain ⟨j2, j3, a', b', c'⟩ := q.at_
  have : j1 = j2 := by
    have := b.symm.trans a'
    simp [dr] at this
    omega
  exact ⟨j, j3, a, b', by omega⟩
theorem ix3 (i : Nat) (h : i < 3) : L2.ixN 3 (i : Int) = some i := by
  match i, h with
  | 0, _ => rfl
  | 1, _ => rfl
  | 2, _ => rfl
theorem d_next (k : Nat) (ns : List Int) (by_ n j : Nat) (b : Nat) (hb : 0 < b) (h : Hs) (hn : h[n]? = some (dr ns by_ j)) : ∃ r : Nat, r < b ∧ cl (k+3) 52 [.ref n, .int b] h = .ok (.int r) (h.set n (dr ns by_ (j+1))) ∧ Drw ns by_ n h (h.set n (dr ns by_ (j+1))) := by
  have hl := (List.getElem?_eq_some_iff.mp hn).1
  obtain ⟨v, ev⟩ := d_cell (k+1) ns (by_ + (j+1) / 12) (h.set n (dr ns by_ (j+1)))
  obtain ⟨r, h1, h2, er⟩ := d_number k (v + 31 * (((j+1) / 12 : Nat) : Int)) ((j+1) % 12 + 1) (b : Int) (by omega) (by omega) (h.set n (dr ns by_ (j+1)))
  obtain ⟨r, rfl⟩ := Int.eq_ofNat_of_zero_le h1
  refine ⟨r, by omega, ?_, ?_⟩
  · have hn' : (h.set n (dr ns by_ (j+1)))[n]? = some (dr ns by_ (j+1)) := List.getElem?_set_self hl
    have ei : ∀ (g : Hs) (jj i : Nat) (d : D) (σ : Sg), g[n]? = some (dr ns by_ jj) → σ[0]? = some (some (.ref n)) → [.lst (ns.map D.int), .int by_, .int jj][i]? = some d → evE pd.tab (cl (k+2)) (.idx (.var 0) (.cst (.int i))) σ g = .ok d g := fun g jj i d σ eg es e => by
      refine e_idx (e_var es) e_cst ?_
      simp only [idxD, eg, dr, atD_nat, e]
    have es : evS pd.tab (cl (k+2)) (.asg (.sub (.var 0) (.cst (.int 2))) (.bin .Add (.idx (.var 0) (.cst (.int 2))) (.cst (.int 1)))) [some (.ref n), some (.int b), none, none] h = .ok (.nx, [some (.ref n), some (.int b), none, none]) (h.set n (dr ns by_ (j+1))) :=
      s_asg (e_bin (ei h j 2 _ _ hn rfl rfl) e_cst (add_ok _ _ _)) (g_sub (e_var rfl) e_cst hn (ix3 2 (by decide)) (by simp [dr]))
    have tw : (12 : Int) < 2 ^ 1000 := by decide +kernel
    have e2 : evE pd.tab (cl (k+2)) (.bin .FloorDiv (.idx (.var 0) (.cst (.int 2))) (.cst (.int 12))) [some (.ref n), some (.int b), none, none] (h.set n (dr ns by_ (j+1))) = .ok (.int (((j+1) / 12 : Nat) : Int)) (h.set n (dr ns by_ (j+1))) :=
      e_bin (ei _ (j+1) 2 _ _ hn' rfl rfl) e_cst (by simp [opBin, tw])
    have e3 : evE pd.tab (cl (k+2)) (.bin .Add (.fn 49 (.cons (.idx (.var 0) (.cst (.int 0))) (.cons (.bin .Add (.idx (.var 0) (.cst (.int 1))) (.var 2)) .nil))) (.bin .Mult (.cst (.int 31)) (.var 2))) [some (.ref n), some (.int b), some (.int (((j+1) / 12 : Nat) : Int)), none] (h.set n (dr ns by_ (j+1))) = .ok (.int (v + 31 * (((j+1) / 12 : Nat) : Int))) (h.set n (dr ns by_ (j+1))) :=
      e_bin (e_fn (qa (ei _ (j+1) 0 _ _ hn' rfl rfl) (qa (e_bin (ei _ (j+1) 1 _ _ hn' rfl rfl) (e_var rfl) (add_ok _ _ _)) q0)) ev) (e_bin e_cst (e_var rfl) (mul_l 31 _ (by decide) (by decide) _)) (add_ok _ _ _)
    have e4 : evE pd.tab (cl (k+2)) (.bin .Add (.bin .Mod (.bi .int (.cons (.idx (.var 0) (.cst (.int 2))) .nil)) (.cst (.int 12))) (.cst (.int 1))) [some (.ref n), some (.int b), some (.int (((j+1) / 12 : Nat) : Int)), some (.int (v + 31 * (((j+1) / 12 : Nat) : Int)))] (h.set n (dr ns by_ (j+1))) = .ok (.int (((j+1) % 12 + 1 : Nat) : Int)) (h.set n (dr ns by_ (j+1))) :=
      e_bin (e_bin (e_bi (qa (ei _ (j+1) 2 _ _ hn' rfl rfl) q0) (int_ok _ _)) e_cst (mod_ok _ 12 (by decide) _)) e_cst (by rw [add_ok]; simp)
    have e5 := call_rt (k := k + 2) (xs := [.ref n, .int b]) F_law_next rfl (b_nx es (b_nx (s_set e2) (b_nx (s_set e3) (b_ret (e_fn (qa (e_var rfl) (qa e4 (qa (e_var rfl) q0))) er)))))
    rw [e5]
    exact back_len (by simp)
  · exact ⟨by simp, fun i _ hi => List.getElem?_set_ne (Ne.symm hi), j, j+1, hn, List.getElem?_set_self hl, by omega⟩
end K02

set_option Elab.async false
set_option linter.all false
set_option maxRecDepth 100000
set_option maxHeartbeats 1000000
namespace K02
open PySem PySem.Spec PyProof.Rows L2 He MC MP
theorem hseq {a b : Hs} (h : Hs.eqb a b = true) : a = b := Hs.eqb_eq h
theorem back_chg {fz : Bool} {h h' : Hs} {d : D} {n : Nat} {o : O} (e : h[n]? = some o) (e' : h'[n]? ≠ some o) : back fz h d h' = .ok d h' := by
  unfold back
  split
  · rfl
  · rw [if_neg]
    intro z
    have := hseq (Bool.and_eq_true_iff.mp z).2
    apply e'
    rw [← e, ← this, List.getElem?_take, if_pos (List.getElem?_eq_some_iff.mp e).1]
theorem Drw.of {ns : List Int} {by_ n j j' : Nat} {h r : Hs} (hn : h[n]? = some (dr ns by_ j)) (hj : j < j') : Drw ns by_ n h (h.set n (dr ns by_ j') ++ r) := by
  have hl := (List.getElem?_eq_some_iff.mp hn).1
  refine ⟨by simp, fun i hi hne => ?_, j, j', hn, ?_, hj⟩
  · rw [List.getElem?_append_left (by simpa using hi), List.getElem?_set_ne (Ne.symm hne)]
  · rw [List.getElem?_append_left (by simpa using hl), List.getElem?_set_self hl]
theorem Drw.ne {ns : List Int} {by_ n : Nat} {h h' : Hs} (p : Drw ns by_ n h h') {fz : Bool} {d : D} : back fz h d h' = .ok d h' := by
  obtain ⟨j, j', a, b, c⟩ := p.at_
  refine back_chg a ?_
  rw [b]
  intro z
  simp [dr] at z
  omega
theorem d_pick (k : Nat) (ns : List Int) (by_ n j : Nat) (xs : List D) (hx : 0 < xs.length) (h : Hs) (hn : h[n]? = some (dr ns by_ j)) : ∃ x ∈ xs, cl (k+4) 53 [.ref n, .lst xs] h = .ok x (h.set n (dr ns by_ (j+1))) := by
  obtain ⟨r, hr, e, _⟩ := d_next k ns by_ n j xs.length hx h hn
  refine ⟨xs[r], List.getElem_mem hr, ?_⟩
  have e2 := call_rt (k := k + 3) (xs := [.ref n, .lst xs]) F_law_pick rfl (b_ret (e_idx (d := xs[r]) (e_var rfl) (e_fn (qa (e_var rfl) (qa (e_bi (d := .int xs.length) (qa (e_var rfl) q0) (by simp [biD, D.seq])) q0)) e) (by simp [idxD, atD_nat, hr])))
  rw [e2]
  exact back_len (by simp)
theorem d_link (k : Nat) (ns : List Int) (by_ n j high : Nat) (h1 : 1 ≤ high) (h6 : high ≤ 6) (h : Hs) (hn : h[n]? = some (dr ns by_ j)) : ∃ l : Lk, wfP l.p ∧ cl (k+5) 54 [.ref n, .int high] h = .ok l.d (h.set n (dr ns by_ (j+4))) := by
  have hl := (List.getElem?_eq_some_iff.mp hn).1
  have hs : ∀ i, (h.set n (dr ns by_ i))[n]? = some (dr ns by_ i) := fun i => List.getElem?_set_self hl
  obtain ⟨sc, hsc, e1⟩ := d_pick k ns by_ n j [.str (Str.ofString "all"), .str (Str.ofString "all"), .str (Str.ofString "each")] (by decide) h hn
  obtain ⟨r, hr, e2, _⟩ := d_next (k+1) ns by_ n (j+1) 2 (by decide) (h.set n (dr ns by_ (j+1))) (hs _)
  rw [List.set_set] at e2
  obtain ⟨q, hq, e3, _⟩ := d_next (k+1) ns by_ n (j+2) high (by omega) (h.set n (dr ns by_ (j+2))) (hs _)
  rw [List.set_set] at e3
  obtain ⟨wd, hwd, e4⟩ := d_pick k ns by_ n (j+3) [.str (Str.ofString "bucket"), .str (Str.ofString "window"), .str (Str.ofString "slide"), .str (Str.ofString "gap")] (by decide) (h.set n (dr ns by_ (j+3))) (hs _)
  rw [List.set_set] at e4
  have hsc' : ∃ b : Bool, sc = .str (if b then Str.ofString "all" else Str.ofString "each") := by
    simp only [List.mem_cons, List.not_mem_nil, or_false] at hsc
    rcases hsc with rfl | rfl | rfl
    · exact ⟨true, rfl⟩
    · exact ⟨true, rfl⟩
    · exact ⟨false, rfl⟩
  obtain ⟨a, rfl⟩ := hsc'
  have t1 : evS pd.tab (cl (k+4)) (.par 2 3 (.fn 53 (.cons (.var 0) (.cons (.lst true (.cons (.cst (.str (Str.ofString "all"))) (.cons (.cst (.str (Str.ofString "all"))) (.cons (.cst (.str (Str.ofString "each"))) .nil)))) .nil))) (.bin .Add (.cst (.int 1)) (.fn 52 (.cons (.var 0) (.cons (.cst (.int 2)) .nil))))) [some (.ref n), some (.int high), none, none, none, none] h = .ok (.nx, [some (.ref n), some (.int high), some (.str (if a then Str.ofString "all" else Str.ofString "each")), some (.int (1 + r)), none, none]) (h.set n (dr ns by_ (j+2))) :=
    s_par (e_fn (qa (e_var rfl) (qa (e_lstT (qa e_cst (qa e_cst (qa e_cst q0))) (by simp [sizeLine])) q0)) e1) (e_bin e_cst (e_fn (qa (e_var rfl) (qa e_cst q0)) e2) (add_ok _ _ _))
  have t2 : evS pd.tab (cl (k+4)) (.asg (.nm 4) (.bin .Add (.cst (.int 1)) (.fn 52 (.cons (.var 0) (.cons (.var 1) .nil))))) [some (.ref n), some (.int high), some (.str (if a then Str.ofString "all" else Str.ofString "each")), some (.int (1 + r)), none, none] (h.set n (dr ns by_ (j+2))) = .ok (.nx, [some (.ref n), some (.int high), some (.str (if a then Str.ofString "all" else Str.ofString "each")), some (.int (1 + r)), some (.int (1 + q)), none]) (h.set n (dr ns by_ (j+3))) :=
    s_set (e_bin e_cst (e_fn (qa (e_var rfl) (qa (e_var rfl) q0)) e3) (add_ok _ _ _))
  have t3 : evS pd.tab (cl (k+4)) (.asg (.nm 5) (.fn 53 (.cons (.var 0) (.cons (.lst true (.cons (.cst (.str (Str.ofString "bucket"))) (.cons (.cst (.str (Str.ofString "window"))) (.cons (.cst (.str (Str.ofString "slide"))) (.cons (.cst (.str (Str.ofString "gap"))) .nil))))) .nil)))) [some (.ref n), some (.int high), some (.str (if a then Str.ofString "all" else Str.ofString "each")), some (.int (1 + r)), some (.int (1 + q)), none] (h.set n (dr ns by_ (j+3))) = .ok (.nx, [some (.ref n), some (.int high), some (.str (if a then Str.ofString "all" else Str.ofString "each")), some (.int (1 + r)), some (.int (1 + q)), some wd]) (h.set n (dr ns by_ (j+4))) :=
    s_set (e_fn (qa (e_var rfl) (qa (e_lstT (qa e_cst (qa e_cst (qa e_cst (qa e_cst q0)))) (by simp [sizeLine])) q0)) e4)
  have key : ∀ p : Pt, wfP p → evE pd.tab (cl (k+4)) (.ite (.cmp .Eq (.var 5) (.cst (.str (Str.ofString "gap")))) (.tup (.cons (.var 5) (.cons (.var 4) .nil))) (.tup (.cons (.var 5) (.cons (.var 3) (.cons (.var 4) .nil))))) [some (.ref n), some (.int high), some (.str (if a then Str.ofString "all" else Str.ofString "each")), some (.int (1 + r)), some (.int (1 + q)), some wd] (h.set n (dr ns by_ (j+4))) = .ok p.d (h.set n (dr ns by_ (j+4))) → ∃ l : Lk, wfP l.p ∧ cl (k+5) 54 [.ref n, .int high] h = .ok l.d (h.set n (dr ns by_ (j+4))) := fun p hp e5 => by
    refine ⟨⟨a, p⟩, hp, ?_⟩
    have e6 := call_rt (k := k + 4) (xs := [.ref n, .int high]) F_law_link rfl (b_nx t1 (b_nx t2 (b_nx t3 (b_ret (e_tup (qa (e_var rfl) (qa e5 q0)) (by simp [sizeLine]))))))
    rw [e6]
    exact back_len (by simp)
  have ng : ∀ x : Str, wd = .str x → PyData.strOk x = true → Str.ofString "gap" ≠ x → evE pd.tab (cl (k+4)) (.ite (.cmp .Eq (.var 5) (.cst (.str (Str.ofString "gap")))) (.tup (.cons (.var 5) (.cons (.var 4) .nil))) (.tup (.cons (.var 5) (.cons (.var 3) (.cons (.var 4) .nil))))) [some (.ref n), some (.int high), some (.str (if a then Str.ofString "all" else Str.ofString "each")), some (.int (1 + r)), some (.int (1 + q)), some wd] (h.set n (dr ns by_ (j+4))) = .ok (.tup [.str x, .int (1 + r), .int (1 + q)]) (h.set n (dr ns by_ (j+4))) := fun x hx ho hne => by
    subst hx
    exact e_itef (d := .bl false) (e_cmp (e_var rfl) e_cst (by simp [opCmp, eqD_str, ho, Ne.symm hne])) rfl (e_tup (qa (e_var rfl) (qa (e_var rfl) (qa (e_var rfl) q0))) (by simp [sizeLine]))
  simp only [List.mem_cons, List.not_mem_nil, or_false] at hwd
  rcases hwd with hw | hw | hw | hw
  · exact key (.bk (1 + r) (1 + q)) ⟨by omega, by omega, by omega, by omega⟩ (ng _ hw (by simp) (by simp))
  · exact key (.wd (1 + r) (1 + q)) ⟨by omega, by omega, by omega, by omega⟩ (ng _ hw (by simp) (by simp))
  · exact key (.sl (1 + r) (1 + q)) ⟨by omega, by omega, by omega, by omega⟩ (ng _ hw (by simp) (by simp))
  · subst hw
    exact key (.gp (1 + q)) ⟨by omega, by omega⟩ (e_itet (d := .bl true) (e_cmp (e_var rfl) e_cst (by simp [opCmp, eqD_str])) rfl (e_tup (qa (e_var rfl) (qa (e_var rfl) q0)) (by simp [sizeLine])))
theorem links_loop (k : Nat) (ns : List Int) (by_ n high : Nat) (h1 : 1 ≤ high) (h6 : high ≤ 6) (x2 x3 x4 : Option D) : ∀ (items : List D) (h : Hs) (j : Nat) (acc : List D), h[n]? = some (dr ns by_ j) → acc.length + items.length ≤ 1000 →
    ∃ ls : List Lk, ls.length = items.length ∧ (∀ l ∈ ls, wfP l.p) ∧ loopLC (evG pd.tab (cl (k+5)) (.nm 4)) (evOT pd.tab (cl (k+5)) .none) (evE pd.tab (cl (k+5)) (.fn 54 (.cons (.var 0) (.cons (.var 1) .nil)))) [some (.ref n), some (.int high), x2, x3, x4] h.length items (h ++ [.lst acc]) = .ok () (h.set n (dr ns by_ (j + 4 * items.length)) ++ [.lst (acc ++ ls.map Lk.d)])
  | [], h, j, acc, hn, _ => ⟨[], rfl, (fun _ z => nomatch z), by
      have : h.set n (dr ns by_ (j + 4 * 0)) = h := by
        obtain ⟨hl, e⟩ := List.getElem?_eq_some_iff.mp hn
        rw [Nat.mul_zero, Nat.add_zero, ← e, List.set_getElem_self]
      simp only [loopLC, List.length_nil, this]; simp⟩
  | x :: xs, h, j, acc, hn, ha => by
    simp only [List.length_cons] at ha
    have hl := (List.getElem?_eq_some_iff.mp hn).1
    obtain ⟨l, hp, e1⟩ := d_link k ns by_ n j high h1 h6 (h ++ [.lst acc]) (by rw [List.getElem?_append_left hl]; exact hn)
    rw [List.set_append_left _ _ hl] at e1
    have hn' : (h.set n (dr ns by_ (j+4)))[n]? = some (dr ns by_ (j+4)) := List.getElem?_set_self hl
    obtain ⟨ls, g1, g2, g3⟩ := links_loop k ns by_ n high h1 h6 x2 x3 x4 xs (h.set n (dr ns by_ (j+4))) (j+4) (acc ++ [l.d]) hn' (by simp; omega)
    refine ⟨l :: ls, by simp [g1], fun y hy => ?_, ?_⟩
    · rcases List.mem_cons.mp hy with rfl | hy
      · exact hp
      · exact g2 y hy
    · rw [List.length_set] at g3
      have hps : pushM h.length l.d (h.set n (dr ns by_ (j+4)) ++ [.lst acc]) = .ok () (h.set n (dr ns by_ (j+4)) ++ [.lst (acc ++ [l.d])]) := by
        have := push_ok (g := h.set n (dr ns by_ (j+4))) (acc := acc) (y := l.d) (by rw [sizeLine_eq]; omega)
        rw [List.length_set] at this
        exact this
      have hel : evE pd.tab (cl (k+5)) (.fn 54 (.cons (.var 0) (.cons (.var 1) .nil))) [some (.ref n), some (.int high), x2, x3, some x] (h ++ [.lst acc]) = .ok l.d (h.set n (dr ns by_ (j+4)) ++ [.lst acc]) := e_fn (qa (e_var rfl) (qa (e_var rfl) q0)) e1
      rw [lc_step g_nm ot_none hel hps g3, List.set_set]
      have : j + 4 + 4 * xs.length = j + 4 * (x :: xs).length := by simp; omega
      rw [this]
      simp
theorem d_chain (k : Nat) (ns : List Int) (by_ n j high count : Nat) (h1 : 1 ≤ high) (h6 : high ≤ 6) (c1 : 1 ≤ count) (c2 : count ≤ 2) (h : Hs) (hn : h[n]? = some (dr ns by_ j)) : ∃ (c : Ch) (h' : Hs), Wf c ∧ c.folk = count ∧ cl (k+6) 55 [.ref n, .int high, .int count] h = .ok c.d h' ∧ Drw ns by_ n h h' := by
  have hl := (List.getElem?_eq_some_iff.mp hn).1
  have hs : ∀ i, (h.set n (dr ns by_ i))[n]? = some (dr ns by_ i) := fun i => List.getElem?_set_self hl
  obtain ⟨r, hr, e1, _⟩ := d_next (k+2) ns by_ n j 2 (by decide) h hn
  obtain ⟨ls, g1, g2, g3⟩ := links_loop k ns by_ n high h1 h6 (some (.int count)) none none ((List.range (1 + r)).map fun (i : Nat) => D.int (i : Int)) (h.set n (dr ns by_ (j+1))) (j+1) [] (hs _) (by simp; omega)
  simp only [List.length_map, List.length_range] at g1 g3
  rw [List.set_set, List.nil_append] at g3
  have ei : evI pd.tab (cl (k+5)) (.rng1 (.bin .Add (.cst (.int 1)) (.fn 52 (.cons (.var 0) (.cons (.cst (.int 2)) .nil))))) [some (.ref n), some (.int high), some (.int count), none, none] h = .ok (.its ((List.range (1 + r)).map fun (i : Nat) => D.int (i : Int))) (h.set n (dr ns by_ (j+1))) :=
    evI_rng1 (e_bin e_cst (e_fn (qa (e_var rfl) (qa e_cst q0)) e1) (add_ok _ _ _)) (by omega)
  let g := h.set n (dr ns by_ (j + 1 + 4 * (1 + r))) ++ [O.lst (ls.map Lk.d)]
  have gn : g[n]? = some (dr ns by_ (j + 1 + 4 * (1 + r))) := by
    simp only [g]
    rw [List.getElem?_append_left (by simpa using hl)]
    exact hs _
  have ec : evE pd.tab (cl (k+5)) c_law_chain_1 [some (.ref n), some (.int high), some (.int count), none, none] h = .ok (.ref h.length) g := by
    unfold c_law_chain_1
    rw [evE, ei]
    simp only [Res.bind]
    have e6 : wipeM [4] [some (.ref n), some (.int high), some (.int count), none, none] = [some (.ref n), some (.int high), some (.int count), none, none] := rfl
    rw [e6, g3]
    simp only []
    rw [List.length_set]
    refine back_chg (hs _) ?_
    rw [gn]
    simp [dr]
    omega
  obtain ⟨r3, hr3, e3, _⟩ := d_next (k+2) ns by_ n (j + 1 + 4 * (1 + r)) 3 (by decide) g gn
  let c : Ch := ⟨ls, count, decide (r3 = 0)⟩
  have w : Wf c := ⟨by show 1 ≤ ls.length; omega, by show ls.length ≤ 3; omega, c1, c2, g2⟩
  let g' := g.set n (dr ns by_ (j + 1 + 4 * (1 + r) + 1))
  have et : evS pd.tab (cl (k+5)) (.asg (.nm 3) (.bi .tuple (.cons c_law_chain_1 .nil))) [some (.ref n), some (.int high), some (.int count), none, none] h = .ok (.nx, [some (.ref n), some (.int high), some (.int count), some c.rd, none]) g :=
    s_set (e_bi (qa ec q0) (by
      have : g[h.length]? = some (.lst (ls.map Lk.d)) := by simp [g]
      simp only [biD, D.seq, this, Option.map_some]; rfl))
  have hcm := c_mk (k+1) c g' w
  have em : evE pd.tab (cl (k+5)) (.mk 4 2 (.cons (.var 3) .nil) (.cons (.var 2) (.cons (.cmp .Eq (.fn 52 (.cons (.var 0) (.cons (.cst (.int 3)) .nil))) (.cst (.int 0))) .nil))) [some (.ref n), some (.int high), some (.int count), some c.rd, none] g = .ok c.d g' := by
    refine e_mk (zs := [c.rd, .int c.folk, .bl c.costly]) (qa (e_var rfl) q0) (qa (e_var rfl) (qa (e_cmp (d := .bl c.costly) (e_fn (qa (e_var rfl) (qa e_cst q0)) e3) e_cst ?_) q0)) (show pd.tab.init 4 = some (5, true) by decide +kernel) (by rfl) hcm.1 hcm.2
    simp [opCmp, eqD_int, c]
  have dw : Drw ns by_ n h g' := by
    have : g' = h.set n (dr ns by_ (j + 1 + 4 * (1 + r) + 1)) ++ [O.lst (ls.map Lk.d)] := by
      simp only [g', g]
      rw [List.set_append_left _ _ (by simpa using hl), List.set_set]
    rw [this]
    exact Drw.of hn (by omega)
  refine ⟨c, g', w, rfl, ?_, dw⟩
  have e6 := call_rt (k := k + 5) (xs := [.ref n, .int high, .int count]) F_law_chain rfl (b_nx et (b_ret em))
  rw [e6]
  exact dw.ne
end K02

set_option Elab.async false
set_option linter.all false
set_option maxRecDepth 100000
set_option maxHeartbeats 1000000
namespace K02
open PySem PySem.Spec PyProof.Rows L2 He MC MP
theorem On.dt (o : On) : Dt 1 o.d := by
  cases o with
  | pr t z => exact .tup (.cons (.int ..) (.cons (.int ..) (.nil _)))
  | ag xs => exact .tup (dtL_map fun i _ => .int ..)
  | gp g => exact .int ..
theorem Dt.up {n : Nat} {d : D} : Dt n d → Dt (n + 1) d := by
  intro h
  have key : ∀ m, (∀ {n : Nat}, n ≤ m → ∀ {d : D}, Dt n d → Dt (n + 1) d) ∧ (∀ {n : Nat}, n ≤ m → ∀ {xs : List D}, DtL n xs → DtL (n + 1) xs) := by
    have lst : ∀ {n : Nat}, (∀ {d : D}, Dt n d → Dt (n + 1) d) → ∀ {xs : List D}, DtL n xs → DtL (n + 1) xs := by
      intro n hd xs
      induction xs with
      | nil => intro _; exact .nil _
      | cons x xs ih => intro h; cases h with | cons a b => exact .cons (hd a) (ih b)
    intro m
    induction m with
    | zero =>
      have hd : ∀ {n : Nat}, n ≤ 0 → ∀ {d : D}, Dt n d → Dt (n + 1) d := by
        intro n hn d h
        cases h with
        | non => exact .non _
        | bl _ b => exact .bl _ _
        | int _ i => exact .int _ _
        | str _ ok => exact .str _ ok
        | tup h => omega
        | lst h => omega
      exact ⟨hd, fun hn => lst (hd hn)⟩
    | succ m ih =>
      have hd : ∀ {n : Nat}, n ≤ m + 1 → ∀ {d : D}, Dt n d → Dt (n + 1) d := by
        intro n hn d h
        cases h with
        | non => exact .non _
        | bl _ b => exact .bl _ _
        | int _ i => exact .int _ _
        | str _ ok => exact .str _ ok
        | tup h => exact .tup (ih.2 (by omega) h)
        | lst h => exact .lst (ih.2 (by omega) h)
      exact ⟨hd, fun hn => lst (hd hn)⟩
  exact (key n).1 (Nat.le_refl _) h
theorem Sl.dt (s : Sl) : Dt 2 s.d := by
  cases s with
  | al o => exact o.dt.up
  | ea os => exact .tup (dtL_map fun o _ => o.dt)
theorem vD_dt (ss : List Sl) : Dt 3 (vD ss) := .tup (dtL_map fun s _ => s.dt)
theorem Ev.dt (e : Ev) : Dt 1 e.d := by
  cases e with
  | tick => exact .tup (.cons (.str _ (by simp)) (.nil _))
  | ask w => exact .tup (.cons (.str _ (by simp)) (.cons (.int ..) (.nil _)))
theorem evT_dt (es : List Ev) : Dt 2 (.tup (es.map Ev.d)) := .tup (dtL_map fun e _ => e.dt)
theorem evL_dt (es : List Ev) : Dt 2 (.lst (es.map Ev.d)) := .lst (dtL_map fun e _ => e.dt)
theorem ansE_dt (c : Ch) (ss : List Sl) (e : Ev) : Dt 0 (ansE c ss e) := by
  cases e with
  | tick => exact .non _
  | ask w => exact .bl ..
theorem ne_self {n : Nat} {d : D} (hd : Dt n d) (hn : n ≤ 64) (h : Hs) : opCmp h .NotEq d d = some (.bl false) := by
  simp [opCmp, eqD_self hd hn h]
theorem eq_self {n : Nat} {d : D} (hd : Dt n d) (hn : n ≤ 64) (h : Hs) : opCmp h .Eq d d = some (.bl true) := by
  simp [opCmp, eqD_self hd hn h]
theorem back_any {fz : Bool} {h h' : Hs} {d : D} (hd : d.nr = true) : ∃ h'', back fz h d h' = .ok d h'' := by
  unfold back
  split
  · exact ⟨_, rfl⟩
  · split
    · rw [frz_nr hd]; exact ⟨_, rfl⟩
    · exact ⟨_, rfl⟩
end K02

set_option Elab.async false
set_option linter.all false
set_option maxRecDepth 100000
set_option maxHeartbeats 1000000
namespace K02
open PySem PySem.Spec PyProof.Rows L2 He MC MP
/-! ### two chains side by side, typed -/
abbrev Pr := List Sl × List Sl
def ansO (c : Ch) (ss : List Sl) : Ev → Option Bool
  | .tick => none
  | .ask w => some (ansV w c.rows ss)
def aD : Option Bool → D
  | none => .non
  | some b => .bl b
theorem ansE_aD (c : Ch) (ss : List Sl) (e : Ev) : ansE c ss e = aD (ansO c ss e) := by cases e <;> rfl
structure Two where
  a : Ch
  b : Ch
  al : Bool
structure Two.Ok (t : Two) : Prop where
  wa : Wf t.a
  wb : Wf t.b
  fk : t.a.folk = t.b.folk
def Two.bad (t : Two) (m n : Option Bool) : Bool := if t.al then m != n else (m == some true && n == some false)
def Two.goes (t : Two) (m : Option Bool) : Bool := t.al || m != some false
def Two.m (t : Two) (p : Pr) (e : Ev) : Option Bool := ansO t.a p.1 e
def Two.n (t : Two) (p : Pr) (e : Ev) : Option Bool := ansO t.b p.2 e
def Two.nx (t : Two) (p : Pr) (e : Ev) : Pr := (nxt t.a p.1 e, nxt t.b p.2 e)
def Two.bd (t : Two) (p : Pr) (e : Ev) : Bool := t.bad (t.m p e) (t.n p e)
def Two.go (t : Two) (p : Pr) (e : Ev) : Bool := t.goes (t.m p e)
def Two.st (t : Two) : Pr := (t.a.rows.map (fstS t.a.folk), t.b.rows.map (fstS t.b.folk))
abbrev Met := List (Pr × List Ev)
def has (met : Met) (q : Pr) : Bool := met.any fun x => decide (x.1 = q)
def Two.scan (t : Two) (p : Pr) (h : List Ev) : List Ev → Met → (List Ev × Met) ⊕ Met
  | [], met => .inr met
  | e :: es, met => if t.bd p e then .inl (h ++ [e], met) else if t.go p e && !has met (t.nx p e) then t.scan p h es (met ++ [(t.nx p e, h ++ [e])]) else t.scan p h es met
def Two.srch (t : Two) : Nat → Nat → Met → Option (Option (List Ev) × Met)
  | 0, _, _ => none
  | k + 1, i, met => match met[i]? with
    | none => some (none, met)
    | some (p, h) => match t.scan p h (evs t.a) met with
      | .inl (hist, met') => some (some hist, met')
      | .inr met' => if met'.length > 400 then none else t.srch k (i + 1) met'
/-- running a history: no break, and it goes on -/
def Two.runs (t : Two) : Pr → List Ev → Option Pr
  | p, [] => some p
  | p, e :: es => if t.bd p e then none else if t.go p e then t.runs (t.nx p e) es else none
theorem Two.runs_snoc (t : Two) (e : Ev) : ∀ (h : List Ev) (p q : Pr), t.runs p h = some q → t.bd q e = false → t.go q e = true → t.runs p (h ++ [e]) = some (t.nx q e)
  | [], p, q, r, hb, hg => by cases r; simp [Two.runs, hb, hg]
  | x :: h, p, q, r, hb, hg => by
    simp only [Two.runs, List.cons_append] at r ⊢
    split at r
    · cases r
    · rename_i h1
      split at r
      · rename_i h2
        rw [if_neg h1, if_pos h2]
        exact Two.runs_snoc t e h _ q r hb hg
      · cases r
/-- whether a history parts the two by its last event -/
def Two.part (t : Two) : Bool → Pr → List Ev → Bool
  | b, _, [] => b
  | b, p, e :: es => if b || !t.go p e then false else t.part (t.bd p e) (t.nx p e) es
def Two.closed (t : Two) (ps : List Pr) : Bool := decide (t.st ∈ ps) && ps.all fun p => (evs t.a).all fun e => !t.bd p e && (!t.go p e || decide (t.nx p e ∈ ps))
/-! #### what the search keeps -/
def keysM (met : Met) : List Pr := met.map (·.1)
theorem has_iff (met : Met) (q : Pr) : has met q = true ↔ q ∈ keysM met := by
  simp [has, keysM]
structure Two.Inv (t : Two) (met : Met) : Prop where
  nd : (keysM met).Nodup
  run : ∀ x ∈ met, t.runs t.st x.2 = some x.1
  st : t.st ∈ keysM met
theorem Two.scan_inv (t : Two) (p : Pr) (h : List Ev) (hr : t.runs t.st h = some p) : ∀ (es : List Ev) (met : Met), t.Inv met →
    (∀ hist met', t.scan p h es met = .inl (hist, met') → ∃ e ∈ es, hist = h ++ [e] ∧ t.bd p e = true ∧ t.Inv met' ∧ ∃ r, met' = met ++ r) ∧
    (∀ met', t.scan p h es met = .inr met' → t.Inv met' ∧ (∃ r, met' = met ++ r) ∧ ∀ e ∈ es, t.bd p e = false ∧ (t.go p e = true → t.nx p e ∈ keysM met'))
  | [], met, I => by
    refine ⟨fun hist met' z => by simp [Two.scan] at z, fun met' z => ?_⟩
    simp only [Two.scan, Sum.inr.injEq] at z
    subst z
    exact ⟨I, ⟨[], by simp⟩, fun e he => by cases he⟩
  | e :: es, met, I => by
    by_cases hb : t.bd p e = true
    · refine ⟨fun hist met' z => ?_, fun met' z => by simp [Two.scan, hb] at z⟩
      simp only [Two.scan, hb, if_true, Sum.inl.injEq, Prod.mk.injEq] at z
      obtain ⟨rfl, rfl⟩ := z
      exact ⟨e, List.mem_cons_self .., rfl, hb, I, [], by simp⟩
    · have hb' : t.bd p e = false := by simpa using hb
      by_cases hc : (t.go p e && !has met (t.nx p e)) = true
      · have hg : t.go p e = true := (Bool.and_eq_true_iff.mp hc).1
        have hn : t.nx p e ∉ keysM met := by
          rw [← has_iff]
          have := (Bool.and_eq_true_iff.mp hc).2
          simpa using this
        have I' : t.Inv (met ++ [(t.nx p e, h ++ [e])]) := by
          refine ⟨?_, fun x hx => ?_, ?_⟩
          · rw [keysM, List.map_append, List.nodup_append]
            refine ⟨I.nd, by simp, fun a ha b hb2 => ?_⟩
            simp at hb2
            subst hb2
            exact fun z => hn (z ▸ ha)
          · rcases List.mem_append.mp hx with hx | hx
            · exact I.run x hx
            · rw [List.mem_singleton.mp hx]
              exact t.runs_snoc e h t.st p hr hb' hg
          · rw [keysM, List.map_append]
            exact List.mem_append_left _ I.st
        obtain ⟨i1, i2⟩ := Two.scan_inv t p h hr es _ I'
        refine ⟨fun hist met' z => ?_, fun met' z => ?_⟩
        · simp only [Two.scan, hb, if_false, hc, if_true] at z
          obtain ⟨x, hx, a1, a2, a3, r, a4⟩ := i1 hist met' z
          exact ⟨x, List.mem_cons_of_mem _ hx, a1, a2, a3, _, by rw [a4, List.append_assoc]⟩
        · simp only [Two.scan, hb, if_false, hc, if_true] at z
          obtain ⟨a1, ⟨r, a2⟩, a3⟩ := i2 met' z
          refine ⟨a1, ⟨_, by rw [a2, List.append_assoc]⟩, fun x hx => ?_⟩
          rcases List.mem_cons.mp hx with rfl | hx
          · refine ⟨hb', fun _ => ?_⟩
            rw [a2]
            simp [keysM]
          · exact a3 x hx
      · obtain ⟨i1, i2⟩ := Two.scan_inv t p h hr es met I
        refine ⟨fun hist met' z => ?_, fun met' z => ?_⟩
        · simp only [Two.scan, hb, if_false, hc] at z
          obtain ⟨x, hx, a⟩ := i1 hist met' z
          exact ⟨x, List.mem_cons_of_mem _ hx, a⟩
        · simp only [Two.scan, hb, if_false, hc] at z
          obtain ⟨a1, ⟨r, a2⟩, a3⟩ := i2 met' z
          refine ⟨a1, ⟨r, a2⟩, fun x hx => ?_⟩
          rcases List.mem_cons.mp hx with rfl | hx
          · refine ⟨hb', fun hg => ?_⟩
            have : has met (t.nx p x) = true := by
              rw [hg] at hc
              simpa using hc
            have := (has_iff met _).mp this
            rw [a2, keysM, List.map_append]
            exact List.mem_append_left _ this
          · exact a3 x hx
theorem Two.srch_inv (t : Two) : ∀ (k i : Nat) (met : Met), t.Inv met → (∀ j, j < i → ∀ x, met[j]? = some x → ∀ e ∈ evs t.a, t.bd x.1 e = false ∧ (t.go x.1 e = true → t.nx x.1 e ∈ keysM met)) → i ≤ met.length → ∀ due met', t.srch k i met = some (due, met') → t.Inv met' ∧
    (due = none → ∀ x ∈ met', ∀ e ∈ evs t.a, t.bd x.1 e = false ∧ (t.go x.1 e = true → t.nx x.1 e ∈ keysM met')) ∧
    (∀ hist, due = some hist → ∃ h e, ∃ x ∈ met', hist = h ++ [e] ∧ e ∈ evs t.a ∧ t.runs t.st h = some x.1 ∧ t.bd x.1 e = true)
  | 0, i, met, I, hd, hi, due, met', z => by cases z
  | k + 1, i, met, I, hd, hi, due, met', z => by
    simp only [Two.srch] at z
    cases q : met[i]? with
    | none =>
      rw [q] at z
      simp only [Option.some.injEq, Prod.mk.injEq] at z
      obtain ⟨rfl, rfl⟩ := z
      have hl : met.length ≤ i := List.getElem?_eq_none_iff.mp q
      refine ⟨I, fun _ x hx => ?_, fun hist z => by cases z⟩
      obtain ⟨j, hj⟩ := List.getElem?_of_mem hx
      have := (List.getElem?_eq_some_iff.mp hj).1
      exact hd j (by omega) x hj
    | some x =>
      obtain ⟨p, h⟩ := x
      rw [q] at z
      simp only at z
      have hr := I.run (p, h) (List.mem_of_getElem? q)
      obtain ⟨i1, i2⟩ := t.scan_inv p h hr (evs t.a) met I
      cases q2 : t.scan p h (evs t.a) met with
      | inl y =>
        obtain ⟨hist, met2⟩ := y
        rw [q2] at z
        simp only [Option.some.injEq, Prod.mk.injEq] at z
        obtain ⟨rfl, rfl⟩ := z
        obtain ⟨e, he, a1, a2, a3, r, a4⟩ := i1 hist met2 q2
        refine ⟨a3, (fun z => by cases z), fun hist' z => ?_⟩
        cases z
        exact ⟨h, e, (p, h), by rw [a4]; exact List.mem_append_left _ (List.mem_of_getElem? q), a1, he, hr, a2⟩
      | inr met2 =>
        rw [q2] at z
        simp only at z
        split at z
        · cases z
        · obtain ⟨a1, ⟨r, a2⟩, a3⟩ := i2 met2 q2
          have hi' : i < met.length := (List.getElem?_eq_some_iff.mp q).1
          refine Two.srch_inv t k (i + 1) met2 a1 (fun j hj x hx => ?_) (by rw [a2]; simp; omega) due met' z
          have hjl : j < met.length := by omega
          have hx' : met[j]? = some x := by
            rw [a2, List.getElem?_append_left hjl] at hx
            exact hx
          intro e he
          by_cases hji : j = i
          · subst hji
            rw [q] at hx'
            cases hx'
            exact a3 e he
          · obtain ⟨b1, b2⟩ := hd j (by omega) x hx' e he
            refine ⟨b1, fun hg => ?_⟩
            rw [a2, keysM, List.map_append]
            exact List.mem_append_left _ (b2 hg)
def Two.met0 (t : Two) : Met := [(t.st, [])]
theorem Two.inv0 (t : Two) : t.Inv t.met0 := ⟨by simp [keysM, Two.met0], fun x hx => by simp [Two.met0] at hx; subst hx; rfl, by simp [keysM, Two.met0]⟩
theorem Two.part_of (t : Two) (e : Ev) : ∀ (h : List Ev) (p q : Pr), t.runs p h = some q → t.bd q e = true → t.part false p (h ++ [e]) = true
  | [], p, q, r, hb => by
    cases r
    have hg : t.go p e = true := by
      unfold Two.bd Two.bad at hb
      unfold Two.go Two.goes
      split at hb
      · simp [*]
      · rw [Bool.and_eq_true] at hb
        have := hb.1
        simp at this
        simp [this]
    simp [Two.part, hg, hb]
  | x :: h, p, q, r, hb => by
    simp only [Two.runs] at r
    split at r
    · cases r
    · rename_i h1
      split at r
      · rename_i h2
        have h1 : t.bd p x = false := by simpa using h1
        simp only [List.cons_append, Two.part, h2, h1, Bool.not_true, Bool.or_self, Bool.false_eq_true, if_false]
        exact Two.part_of t e h _ q r hb
      · cases r
/-- what the law asks of a search's end -/
theorem Two.srch_none (t : Two) {k : Nat} {met : Met} (z : t.srch k 0 t.met0 = some (none, met)) : t.closed (keysM met) = true ∧ t.Inv met := by
  obtain ⟨I, h1, _⟩ := t.srch_inv k 0 t.met0 t.inv0 (fun j hj => by omega) (Nat.zero_le _) none met z
  refine ⟨?_, I⟩
  unfold Two.closed
  rw [Bool.and_eq_true, decide_eq_true_eq, List.all_eq_true]
  refine ⟨I.st, fun p hp => ?_⟩
  obtain ⟨x, hx, rfl⟩ := List.mem_map.mp hp
  rw [List.all_eq_true]
  intro e he
  obtain ⟨a1, a2⟩ := h1 rfl x hx e he
  cases hg : t.go x.1 e with
  | true => simp [a1, a2 hg]
  | false => simp [a1]
theorem Two.srch_some (t : Two) {k : Nat} {met : Met} {hist : List Ev} (z : t.srch k 0 t.met0 = some (some hist, met)) : t.part false t.st hist = true ∧ t.closed (keysM met) = false ∧ t.Inv met ∧ ∃ h e, hist = h ++ [e] := by
  obtain ⟨I, _, h2⟩ := t.srch_inv k 0 t.met0 t.inv0 (fun j hj => by omega) (Nat.zero_le _) _ met z
  obtain ⟨h, e, x, hx, rfl, he, hr, hb⟩ := h2 hist rfl
  refine ⟨t.part_of e h t.st x.1 hr hb, ?_, I, h, e, rfl⟩
  unfold Two.closed
  rw [Bool.and_eq_false_iff]
  right
  rw [List.all_eq_false]
  refine ⟨x.1, List.mem_map.mpr ⟨x, hx, rfl⟩, ?_⟩
  rw [Bool.not_eq_true, List.all_eq_false]
  exact ⟨e, he, by simp [hb]⟩
end K02

set_option Elab.async false
set_option linter.all false
set_option maxRecDepth 100000
set_option maxHeartbeats 1000000
namespace K02
open PySem PySem.Spec PyProof.Rows L2 He MC MP
/-! ### states as keys -/
def kOn : On → NestedKey
  | .pr t z => .tup [.num t, .num z]
  | .ag xs => .tup (xs.map .num)
  | .gp g => .num g
def kSl : Sl → NestedKey
  | .al o => kOn o
  | .ea os => .tup (os.map kOn)
def kSt (ss : List Sl) : NestedKey := .tup (ss.map kSl)
def kPr (p : Pr) : NestedKey := .tup [kSt p.1, kSt p.2]
def pD (p : Pr) : D := .tup [vD p.1, vD p.2]
theorem keys_map {α : Type} {f : α → D} {g : α → NestedKey} (h : ∀ x, (f x).key = some (g x)) : ∀ xs : List α, D.keys (xs.map f) = some (xs.map g)
  | [] => rfl
  | x :: xs => by simp [D.keys, h x, keys_map h xs]
theorem On.key (o : On) : o.d.key = some (kOn o) := by
  cases o with
  | pr t z => rfl
  | ag xs =>
    show (D.keys (xs.map D.int)).map NestedKey.tup = _
    rw [keys_map (g := NestedKey.num) (fun _ => rfl)]
    rfl
  | gp g => rfl
theorem Sl.key (s : Sl) : s.d.key = some (kSl s) := by
  cases s with
  | al o => exact o.key
  | ea os =>
    show (D.keys (os.map On.d)).map NestedKey.tup = _
    rw [keys_map (g := kOn) On.key]
    rfl
theorem vD_key (ss : List Sl) : (vD ss).key = some (kSt ss) := by
  show (D.keys (ss.map Sl.d)).map NestedKey.tup = _
  rw [keys_map (g := kSl) Sl.key]
  rfl
theorem depth_map {α : Type} {g : α → NestedKey} {m : Nat} (h : ∀ x, (g x).depth ≤ m) : ∀ xs : List α, NestedKey.depthAll (xs.map g) ≤ m
  | [] => Nat.zero_le _
  | x :: xs => by
    simp only [List.map_cons, NestedKey.depthAll]
    have := h x
    have := depth_map h xs
    omega
theorem kOn_depth (o : On) : (kOn o).depth ≤ 1 := by
  cases o with
  | pr t z => simp [kOn, NestedKey.depth, NestedKey.depthAll]
  | ag xs =>
    simp only [kOn, NestedKey.depth]
    have := depth_map (g := NestedKey.num) (m := 0) (fun _ => by simp [NestedKey.depth]) xs
    omega
  | gp g => simp [kOn, NestedKey.depth]
theorem kSl_depth (s : Sl) : (kSl s).depth ≤ 2 := by
  cases s with
  | al o => have := kOn_depth o; simp only [kSl]; omega
  | ea os =>
    simp only [kSl, NestedKey.depth]
    have := depth_map (m := 1) kOn_depth os
    omega
theorem kSt_depth (ss : List Sl) : (kSt ss).depth ≤ 3 := by
  simp only [kSt, NestedKey.depth]
  have := depth_map (m := 2) kSl_depth ss
  omega
theorem pD_tkey (p : Pr) : (pD p).tkey = some (kPr p) := by
  have e : (pD p).key = some (kPr p) := by
    show (D.keys [vD p.1, vD p.2]).map NestedKey.tup = _
    simp [D.keys, vD_key, kPr]
  have h1 := kSt_depth p.1
  have h2 := kSt_depth p.2
  have hd : (kPr p).depth ≤ 8 := by
    simp only [kPr, NestedKey.depth, NestedKey.depthAll]
    omega
  show (match D.key (pD p) with | some k => if k.depth ≤ 8 then some k else none | none => none) = _
  rw [e]
  simp [hd]
theorem num_inj : ∀ {xs ys : List Int}, xs.map NestedKey.num = ys.map NestedKey.num → xs = ys
  | [], [], _ => rfl
  | [], _ :: _, h => by cases h
  | _ :: _, [], h => by cases h
  | x :: xs, y :: ys, h => by
    simp only [List.map_cons, List.cons.injEq, NestedKey.num.injEq] at h
    rw [h.1, num_inj h.2]
theorem kOn_inj {p : Pt} {o o' : On} (h : fit p o) (h' : fit p o') (e : kOn o = kOn o') : o = o' := by
  cases p <;> cases o <;> first | exact h.elim | (cases o' <;> first | exact h'.elim | skip)
  case bk.pr.pr n s t z t' z' => simp [kOn] at e; rw [e.1, e.2]
  case wd.pr.pr n s t z t' z' => simp [kOn] at e; rw [e.1, e.2]
  case sl.ag.ag n s xs ys => simp only [kOn, NestedKey.tup.injEq] at e; rw [num_inj e]
  case gp.gp.gp s g g' => simp [kOn] at e; rw [e]
theorem kOns_inj {p : Pt} : ∀ {os os' : List On}, (∀ o ∈ os, fit p o) → (∀ o ∈ os', fit p o) → os.map kOn = os'.map kOn → os = os'
  | [], [], _, _, _ => rfl
  | [], _ :: _, _, _, h => by cases h
  | _ :: _, [], _, _, h => by cases h
  | x :: xs, y :: ys, h1, h2, h => by
    simp only [List.map_cons, List.cons.injEq] at h
    rw [kOn_inj (h1 x (List.mem_cons_self ..)) (h2 y (List.mem_cons_self ..)) h.1, kOns_inj (fun o ho => h1 o (List.mem_cons_of_mem _ ho)) (fun o ho => h2 o (List.mem_cons_of_mem _ ho)) h.2]
theorem kSl_inj {n : Nat} {l : Lk} {s s' : Sl} (h : fitS n l s) (h' : fitS n l s') (e : kSl s = kSl s') : s = s' := by
  cases s with
  | al o =>
    cases s' with
    | al o' => rw [kOn_inj h.2 h'.2 e]
    | ea os => have h1 := h.1; have h2 := h'.1; rw [h1] at h2; cases h2
  | ea os =>
    cases s' with
    | al o' => have h1 := h.1; have h2 := h'.1; rw [h1] at h2; cases h2
    | ea os' =>
      simp only [kSl, NestedKey.tup.injEq] at e
      rw [kOns_inj h.2.2 h'.2.2 e]
theorem kSls_inj {n : Nat} : ∀ {ls : List Lk} {ss ss' : List Sl}, FitV n ls ss → FitV n ls ss' → ss.map kSl = ss'.map kSl → ss = ss'
  | _, _, _, .nil, .nil, _ => rfl
  | _, _, _, .cons h t, .cons h' t', e => by
    simp only [List.map_cons, List.cons.injEq] at e
    rw [kSl_inj h h' e.1, kSls_inj t t' e.2]
def Two.Fit (t : Two) (p : Pr) : Prop := FitV t.a.folk t.a.rows p.1 ∧ FitV t.b.folk t.b.rows p.2
theorem kPr_inj {t : Two} {p q : Pr} (h : t.Fit p) (h' : t.Fit q) (e : kPr p = kPr q) : p = q := by
  simp only [kPr, NestedKey.tup.injEq, List.cons.injEq, and_true] at e
  obtain ⟨e1, e2⟩ := e
  simp only [kSt, NestedKey.tup.injEq] at e1 e2
  exact Prod.ext (kSls_inj h.1 h'.1 e1) (kSls_inj h.2 h'.2 e2)
theorem Two.fit_st (t : Two) (ok : t.Ok) : t.Fit t.st := ⟨FitV_fst ok.wa.pt, FitV_fst ok.wb.pt⟩
theorem ev_ok_b {t : Two} (ok : t.Ok) {e : Ev} (he : e.ok t.a) : e.ok t.b := by
  cases e with
  | tick => trivial
  | ask w => show w < t.b.folk; rw [← ok.fk]; exact he
theorem Two.fit_nx (t : Two) (ok : t.Ok) {p : Pr} {e : Ev} (h : t.Fit p) (he : e.ok t.a) : t.Fit (t.nx p e) := ⟨FitV_nxt ok.wa he h.1, FitV_nxt ok.wb (ev_ok_b ok he) h.2⟩
/-! ### the dict of the pairs met -/
def hD (h : List Ev) : D := .tup (h.map Ev.d)
def metD (met : Met) : List (D × D) := met.map fun x => (pD x.1, hD x.2)
theorem pD_key (p : Pr) : (pD p).key = some (kPr p) := (tkey_key (pD_tkey p)).1
theorem getK_met {t : Two} {q : Pr} (hq : t.Fit q) : ∀ {met : Met}, (∀ x ∈ met, t.Fit x.1) → getK (kPr q) (metD met) = (met.find? fun x => decide (x.1 = q)).map fun x => hD x.2
  | [], _ => rfl
  | x :: met, h => by
    have hx := h x (List.mem_cons_self ..)
    have ih := getK_met hq (met := met) fun y hy => h y (List.mem_cons_of_mem _ hy)
    simp only [metD, List.map_cons, getK, pD_key, Option.some.injEq] at ih ⊢
    by_cases e : x.1 = q
    · rw [if_pos (by rw [e])]
      simp [List.find?_cons, e]
    · rw [if_neg (fun z => e (kPr_inj hx hq z))]
      simp only [List.find?_cons, decide_eq_false e]
      exact ih
theorem hasK_met {t : Two} {q : Pr} (hq : t.Fit q) {met : Met} (h : ∀ x ∈ met, t.Fit x.1) : hasK (kPr q) (metD met) = has met q := by
  unfold hasK
  rw [getK_met hq h, Option.isSome_map, has, Bool.eq_iff_iff, List.find?_isSome, List.any_eq_true]
theorem putN_met {t : Two} {q : Pr} (hq : t.Fit q) {met : Met} (h : ∀ x ∈ met, t.Fit x.1) (hn : has met q = false) (es : List Ev) : putN (pD q) (kPr q) (hD es) (metD met) = metD (met ++ [(q, es)]) := by
  unfold putN
  rw [hasK_met hq h, hn]
  simp [metD]
theorem pDs_nr (p : Pr) : (pD p).nr = true := key_nr (pD_key p)
end K02

set_option Elab.async false
set_option linter.all false
set_option maxRecDepth 100000
set_option maxHeartbeats 1000000
namespace K02
open PySem PySem.Spec PyProof.Rows L2 He MC MP
/-! ### small defs of comparing -/
theorem eqD_aD (h : Hs) (m n : Option Bool) : eqD h (aD m) (aD n) = some (m == n) := by
  rcases m with _ | (_ | _) <;> rcases n with _ | (_ | _) <;> rfl
theorem aD_nr (m : Option Bool) : (aD m).nr = true := by cases m <;> rfl
theorem isb_aD (m : Option Bool) (c ng : Bool) : isbD ng (aD m) (.bl c) = some (.bl ((m == some c) != ng)) := by
  rcases m with _ | (_ | _) <;> cases c <;> cases ng <;> rfl
section
variable {T : Tab} {cf : Nat → List D → Hs → Res D} {σ : Sg} {h h1 h2 : Hs}
theorem e_isb {ng : Bool} {a b : E} {x y d : D} (e1 : evE T cf a σ h = .ok x h1) (e2 : evE T cf b σ h1 = .ok y h2) (e3 : isbD ng x y = some d) : evE T cf (.isb ng a b) σ h = .ok d h2 := by
  simp only [evE, e1, e2, e3, Res.bind, Res.of]
theorem e_din {ng : Bool} {a b : E} {x y d : D} (e1 : evE T cf a σ h = .ok x h1) (e2 : evE T cf b σ h1 = .ok y h2) (e3 : dinD ng h2 x y = some d) : evE T cf (.din ng a b) σ h = .ok d h2 := by
  simp only [evE, e1, e2, e3, Res.bind, Res.of]
theorem e_dget {a b : E} {x y d : D} (e1 : evE T cf a σ h = .ok x h1) (e2 : evE T cf b σ h1 = .ok y h2) (e3 : dgetD h2 x y = some d) : evE T cf (.dget a b) σ h = .ok d h2 := by
  simp only [evE, e1, e2, e3, Res.bind, Res.of]
end
theorem p_breaksW (k : Nat) (m n : Option Bool) (h : Hs) : cl (k+1) 26 [aD m, aD n] h = .ok (.bl (m == some true && n == some false)) h := by
  have e1 : evE pd.tab (cl k) (.isb false (.var 0) (.cst (.bl true))) [some (aD m), some (aD n)] h = .ok (.bl (m == some true)) h := by
    have := e_isb (T := pd.tab) (cf := cl k) (σ := [some (aD m), some (aD n)]) (h := h) (ng := false) (a := .var 0) (b := .cst (.bl true)) (e_var rfl) e_cst (isb_aD m true false)
    simpa using this
  have e2 : evE pd.tab (cl k) (.isb false (.var 1) (.cst (.bl false))) [some (aD m), some (aD n)] h = .ok (.bl (n == some false)) h := by
    have := e_isb (T := pd.tab) (cf := cl k) (σ := [some (aD m), some (aD n)]) (h := h) (ng := false) (a := .var 1) (b := .cst (.bl false)) (e_var rfl) e_cst (isb_aD n false false)
    simpa using this
  refine call_same F_breaks_within rfl (b_ret ?_)
  cases hm : m == some true with
  | true => rw [hm] at e1; rw [Bool.true_and]; exact e_andt e1 rfl e2
  | false => rw [hm] at e1; exact e_andf e1 rfl
theorem p_breaksA (k : Nat) (m n : Option Bool) (h : Hs) : cl (k+1) 27 [aD m, aD n] h = .ok (.bl (m != n)) h :=
  call_same F_breaks_alike rfl (b_ret (e_cmp (e_var rfl) (e_var rfl) (by simp [opCmp, eqD_aD, bne])))
theorem p_goes (k : Nat) (t : Two) (m : Option Bool) (h : Hs) : cl (k+1) 28 [aD m, .bl t.al] h = .ok (.bl (t.goes m)) h := by
  refine call_same F_goes_on rfl (b_ret ?_)
  unfold Two.goes
  cases ha : t.al with
  | true => exact e_ort (e_var rfl) rfl
  | false =>
    refine e_orf (e_var rfl) rfl ?_
    have := e_isb (T := pd.tab) (cf := cl k) (σ := [some (aD m), some (.bl false)]) (h := h) (ng := true) (a := .var 0) (b := .cst (.bl false)) (e_var rfl) e_cst (isb_aD m false true)
    rw [show (false || m != some false) = ((m == some false) != true) by rcases m with _ | (_ | _) <;> rfl]
    exact this
theorem l_bad (k : Nat) (t : Two) (m n : Option Bool) (h : Hs) : cl (k+1) 66 [aD m, aD n, .bl t.al] h = .ok (.bl (t.bad m n)) h := by
  refine call_same F_law_bad rfl (b_ret ?_)
  unfold Two.bad
  cases ha : t.al with
  | true => exact e_itet (e_var rfl) rfl (e_cmp (e_var rfl) (e_var rfl) (by simp [opCmp, eqD_aD, bne]))
  | false =>
    have e1 : evE pd.tab (cl k) (.isb false (.var 0) (.cst (.bl true))) [some (aD m), some (aD n), some (.bl false)] h = .ok (.bl (m == some true)) h := by
      have := e_isb (T := pd.tab) (cf := cl k) (σ := [some (aD m), some (aD n), some (.bl false)]) (h := h) (ng := false) (a := .var 0) (b := .cst (.bl true)) (e_var rfl) e_cst (isb_aD m true false)
      simpa using this
    have e2 : evE pd.tab (cl k) (.isb false (.var 1) (.cst (.bl false))) [some (aD m), some (aD n), some (.bl false)] h = .ok (.bl (n == some false)) h := by
      have := e_isb (T := pd.tab) (cf := cl k) (σ := [some (aD m), some (aD n), some (.bl false)]) (h := h) (ng := false) (a := .var 1) (b := .cst (.bl false)) (e_var rfl) e_cst (isb_aD n false false)
      simpa using this
    refine e_itef (e_var rfl) rfl ?_
    simp only [Bool.false_eq_true, if_false]
    cases hm : m == some true with
    | true => rw [hm] at e1; rw [Bool.true_and]; exact e_andt e1 rfl e2
    | false => rw [hm] at e1; exact e_andf e1 rfl
theorem p_checkTwo (k : Nat) (t : Two) (ok : t.Ok) (h : Hs) : cl (k+2) 24 [t.a.d, t.b.d] h = .ok .non h := by
  have hf : ((t.a.folk : Int)) = ((t.b.folk : Int)) := by rw [ok.fk]
  have e := b_nx (T := pd.tab) (cl := cl (k+1)) (σ := [some t.a.d, some t.b.d]) (h := h) (s_exp (e_fn (f := 11) (as := .cons (.var 0) .nil) (qa (e_var rfl) q0) (p_check k t.a h))) (b_nx (s_exp (e_fn (f := 11) (as := .cons (.var 1) .nil) (qa (e_var rfl) q0) (p_check k t.b h))) (b_nx (s_iff (t := (.cons .never .nil)) (c := .cmp .NotEq (.fld (.var 0) 16) (.fld (.var 1) 16)) (d := .bl false) (e_cmp (e_fld (e_var rfl) (Ch.rows_fld t.a _) fok_folk rfl) (e_fld (e_var rfl) (Ch.rows_fld t.b _) fok_folk rfl) (by rw [hf]; exact ne_self (.int 0 _) (by decide) _)) rfl q_nil) q_nil))
  rw [call_nx F_check_two rfl e]
  exact back_same
def rowD (t : Two) (p : Pr) (e : Ev) : D := .tup [e.d, aD (t.m p e), aD (t.n p e), pD (t.nx p e)]
theorem rowD_nr (t : Two) (p : Pr) (e : Ev) : (rowD t p e).nr = true := by
  simp [rowD, D.nr, D.nrL, Ev.nr, aD_nr, pDs_nr]
theorem evs_ok {c : Ch} {e : Ev} (h : e ∈ evs c) : e.ok c := by
  rcases List.mem_cons.mp h with rfl | h
  · trivial
  · obtain ⟨i, hi, rfl⟩ := List.mem_map.mp h
    exact List.mem_range.mp hi
theorem evs_len (c : Ch) : (evs c).length = c.folk + 1 := by simp [evs]
theorem p_steps (k : Nat) (t : Two) (ok : t.Ok) (p : Pr) (hp : t.Fit p) (h : Hs) : cl (k+6) 25 [t.a.d, t.b.d, pD p] h = .ok (.lst ((evs t.a).map (rowD t p))) h := by
  have f2 := ok.wa.f2
  have hb : ∀ e ∈ evs t.a, ∀ σ acc, (∃ x4 x5 x6 x7 x8, σ = [some t.a.d, some t.b.d, some (pD p), some (.ref h.length), x4, x5, x6, x7, x8]) → acc.length < sizeLine → ∃ σ1 σ', evG pd.tab (cl (k+5)) g_steps_from_1 e.d σ (h ++ [.lst acc]) = .ok σ1 (h ++ [.lst acc]) ∧ evB pd.tab (cl (k+5)) b_steps_from_1 σ1 (h ++ [.lst acc]) = .ok (.nx, σ') (h ++ [.lst (acc ++ [rowD t p e])]) ∧ (∃ x4 x5 x6 x7 x8, σ' = [some t.a.d, some t.b.d, some (pD p), some (.ref h.length), x4, x5, x6, x7, x8]) := by
    rintro e he σ acc ⟨x4, x5, x6, x7, x8, rfl⟩ hl
    have eo := evs_ok he
    have e1 := p_afterEvent k t.a p.1 e (h ++ [.lst acc]) ok.wa eo hp.1
    have e2 := p_afterEvent k t.b p.2 e (h ++ [.lst acc]) ok.wb (ev_ok_b ok eo) hp.2
    refine ⟨[some t.a.d, some t.b.d, some (pD p), some (.ref h.length), some e.d, x5, x6, x7, x8], [some t.a.d, some t.b.d, some (pD p), some (.ref h.length), some e.d, some (aD (t.m p e)), some (vD (nxt t.a p.1 e)), some (aD (t.n p e)), some (vD (nxt t.b p.2 e))], g_nm, ?_, _, _, _, _, _, rfl⟩
    rw [ansE_aD] at e1 e2
    exact b_nx (s_asg (e_fn (qa (e_var rfl) (qa (e_idx (e_var rfl) e_cst rfl) (qa (e_var rfl) q0))) e1) (by simp only [evG, evGL, Res.bind]; rfl)) (b_nx (s_asg (e_fn (qa (e_var rfl) (qa (e_idx (e_var rfl) e_cst rfl) (qa (e_var rfl) q0))) e2) (by simp only [evG, evGL, Res.bind]; rfl)) (b_nx (s_exp (e_app (xs := acc) (e_var rfl) (by simp [D.lseq]) (e_tup (qa (e_var rfl) (qa (e_var rfl) (qa (e_var rfl) (qa (e_tup (qa (e_var rfl) (qa (e_var rfl) q0)) (by simp [sizeLine])) q0)))) (by simp [sizeLine])) (by simp) hl (by simp; rfl))) q_nil))
  obtain ⟨σf, e3, x4, x5, x6, x7, x8, rfl⟩ := loop_app (en := Ev.d) (f := rowD t p) (g := h) (as := evs t.a) (acc := []) (σ := [some t.a.d, some t.b.d, some (pD p), some (.ref h.length), none, none, none, none, none]) (Inv := fun σ => ∃ x4 x5 x6 x7 x8, σ = [some t.a.d, some t.b.d, some (pD p), some (.ref h.length), x4, x5, x6, x7, x8]) ⟨_, _, _, _, _, rfl⟩ (by rw [evs_len, sizeLine_eq]; simp; omega) hb
  have e4 : evI pd.tab (cl (k+5)) (.val (.fn 12 (.cons (.var 0) .nil))) [some t.a.d, some t.b.d, some (pD p), some (.ref h.length), none, none, none, none, none] (h ++ [.lst []]) = .ok (.its ((evs t.a).map Ev.d)) (h ++ [.lst []]) := by
    simp only [evI]
    rw [e_fn (qa (e_var rfl) q0) (p_eventsOf (k+4) t.a _ (by omega))]
    rfl
  have e5 := call_rt (k := k + 5) (xs := [t.a.d, t.b.d, pD p]) F_steps_from rfl (b_nx (s_set (e_lstF q0 (by simp [sizeLine]))) (b_nx (s_for e4 e3) (b_ret (e_var rfl))))
  rw [e5, List.nil_append]
  exact back_list fun y hy => by
    obtain ⟨e, _, rfl⟩ := List.mem_map.mp hy
    exact rowD_nr t p e
end K02

set_option Elab.async false
set_option linter.all false
set_option maxRecDepth 100000
set_option maxHeartbeats 1000000
namespace K02
open PySem PySem.Spec PyProof.Rows L2 He MC MP
theorem l_both (k : Nat) (t : Two) (ok : t.Ok) (p : Pr) (hp : t.Fit p) (h : Hs) : cl (k+4) 65 [t.a.d, t.b.d, pD p] h = .ok (.lst ((evs t.a).map (rowD t p))) h := by
  have f2 := ok.wa.f2
  have hb : ∀ e ∈ evs t.a, ∀ σ acc, (∃ x4 x5 x6 x7 x8, σ = [some t.a.d, some t.b.d, some (pD p), some (.ref h.length), x4, x5, x6, x7, x8]) → acc.length < sizeLine → ∃ σ1 σ', evG pd.tab (cl (k+3)) g_law_both_1 e.d σ (h ++ [.lst acc]) = .ok σ1 (h ++ [.lst acc]) ∧ evB pd.tab (cl (k+3)) b_law_both_1 σ1 (h ++ [.lst acc]) = .ok (.nx, σ') (h ++ [.lst (acc ++ [rowD t p e])]) ∧ (∃ x4 x5 x6 x7 x8, σ' = [some t.a.d, some t.b.d, some (pD p), some (.ref h.length), x4, x5, x6, x7, x8]) := by
    rintro e he σ acc ⟨x4, x5, x6, x7, x8, rfl⟩ hl
    have eo := evs_ok he
    have e1 := l_step k t.a p.1 e (h ++ [.lst acc]) ok.wa eo hp.1
    have e2 := l_step k t.b p.2 e (h ++ [.lst acc]) ok.wb (ev_ok_b ok eo) hp.2
    refine ⟨[some t.a.d, some t.b.d, some (pD p), some (.ref h.length), some e.d, x5, x6, x7, x8], [some t.a.d, some t.b.d, some (pD p), some (.ref h.length), some e.d, some (aD (t.m p e)), some (vD (nxt t.a p.1 e)), some (aD (t.n p e)), some (vD (nxt t.b p.2 e))], g_nm, ?_, _, _, _, _, _, rfl⟩
    rw [ansE_aD] at e1 e2
    exact b_nx (s_asg (e_fn (qa (e_var rfl) (qa (e_idx (e_var rfl) e_cst rfl) (qa (e_var rfl) q0))) e1) (by simp only [evG, evGL, Res.bind]; rfl)) (b_nx (s_asg (e_fn (qa (e_var rfl) (qa (e_idx (e_var rfl) e_cst rfl) (qa (e_var rfl) q0))) e2) (by simp only [evG, evGL, Res.bind]; rfl)) (b_nx (s_exp (e_app (xs := acc) (e_var rfl) (by simp [D.lseq]) (e_tup (qa (e_var rfl) (qa (e_var rfl) (qa (e_var rfl) (qa (e_tup (qa (e_var rfl) (qa (e_var rfl) q0)) (by simp [sizeLine])) q0)))) (by simp [sizeLine])) (by simp) hl (by simp; rfl))) q_nil))
  obtain ⟨σf, e3, x4, x5, x6, x7, x8, rfl⟩ := loop_app (en := Ev.d) (f := rowD t p) (g := h) (as := evs t.a) (acc := []) (σ := [some t.a.d, some t.b.d, some (pD p), some (.ref h.length), none, none, none, none, none]) (Inv := fun σ => ∃ x4 x5 x6 x7 x8, σ = [some t.a.d, some t.b.d, some (pD p), some (.ref h.length), x4, x5, x6, x7, x8]) ⟨_, _, _, _, _, rfl⟩ (by rw [evs_len, sizeLine_eq]; simp; omega) hb
  have e4 : evI pd.tab (cl (k+3)) (.val (.fn 56 (.cons (.var 0) .nil))) [some t.a.d, some t.b.d, some (pD p), some (.ref h.length), none, none, none, none, none] (h ++ [.lst []]) = .ok (.its ((evs t.a).map Ev.d)) (h ++ [.lst []]) := by
    simp only [evI]
    rw [e_fn (qa (e_var rfl) q0) (l_events (k+1) t.a _ (by omega))]
    rfl
  have e5 := call_rt (k := k + 3) (xs := [t.a.d, t.b.d, pD p]) F_law_both rfl (b_nx (s_set (e_lstF q0 (by simp [sizeLine]))) (b_nx (s_for e4 e3) (b_ret (e_var rfl))))
  rw [e5, List.nil_append]
  exact back_list fun y hy => by
    obtain ⟨e, _, rfl⟩ := List.mem_map.mp hy
    exact rowD_nr t p e
end K02

set_option Elab.async false
set_option linter.all false
set_option maxRecDepth 100000
set_option maxHeartbeats 1000000
namespace K02
open PySem PySem.Spec PyProof.Rows L2 He MC MP
/-! ### the law's search -/
section
variable {T : Tab} {cf : Nat → List D → Hs → Res D} {σ : Sg} {h h1 h2 : Hs}
theorem e_dlst {a : E} {x : D} {kvs : List (D × D)} (e1 : evE T cf a σ h = .ok x h1) (e2 : x.kvs h1 = some kvs) : evE T cf (.dlst true a) σ h = .ok (.lst (kvs.map (·.1))) h1 := by
  simp only [evE, e1, e2, Res.bind, if_true]
theorem e_dlen {a : E} {x : D} {kvs : List (D × D)} (e1 : evE T cf a σ h = .ok x h1) (e2 : x.kvs h1 = some kvs) : evE T cf (.dlen a) σ h = .ok (.int kvs.length) h1 := by
  simp only [evE, e1, e2, Res.bind]
theorem g_dst {a i : E} {n : Nat} {y d : D} {kvs : List (D × D)} {k : NestedKey} {h3 : Hs} (e : evE T cf a σ h = .ok (.ref n) h1) (e1 : evE T cf i σ h1 = .ok y h2) (e2 : h2[n]? = some (.dct kvs)) (e3 : y.tkey = some k) (hl : kvs.length < sizeLine) (e4 : h2.set n (.dct (putN y k d kvs)) = h3) : evG T cf (.dsub a i) d σ h = .ok σ h3 := by
  simp only [evG, e, e1, Res.bind, storeM, e2, e3, if_pos hl, e4]
theorem e_pop0 {a : E} {n : Nat} {y : D} {ys : List D} {h3 : Hs} (e : evE T cf a σ h = .ok (.ref n) h1) (e2 : h1[n]? = some (.lst (y :: ys))) (e3 : h1.set n (.lst ys) = h3) : evE T cf (.pop0 a) σ h = .ok y h3 := by
  simp only [evE, e, Res.bind, popM, e2, e3]
end
theorem f_rt {tg : D → Sg → Hs → Res Sg} {bd : Sg → Hs → MC.R2} {σ σ1 σ2 : Sg} {x d : D} {xs : List D} {h h1 h2 : Hs} (e1 : tg x σ h = .ok σ1 h1) (e2 : bd σ1 h1 = .ok (.rt d, σ2) h2) : loopF tg bd (x :: xs) σ h = .ok (.rt d, σ2) h2 := by
  simp only [loopF, e1, e2, Res.bind]
theorem keys_metD (met : Met) : (metD met).map (·.1) = (keysM met).map pD := by simp [metD, keysM]
theorem met_len (met : Met) : (metD met).length = met.length := by simp [metD]
/-- the heap of the search -/
def sH (h : Hs) (met : Met) (qs : List Pr) : Hs := h ++ [.dct (metD met), .lst (qs.map pD)]
theorem sH5 (h : Hs) (met : Met) (qs : List Pr) : (sH h met qs)[h.length]? = some (.dct (metD met)) := by simp [sH]
theorem sH6 (h : Hs) (met : Met) (qs : List Pr) : (sH h met qs)[h.length + 1]? = some (.lst (qs.map pD)) := by simp [sH]
theorem sHk (h : Hs) (met : Met) (qs : List Pr) : (D.ref h.length).kvs (sH h met qs) = some (metD met) := by simp only [D.kvs, sH5]
theorem sH_put (h : Hs) (met : Met) (qs : List Pr) (kvs : List (D × D)) (met' : Met) (e : kvs = metD met') : (sH h met qs).set h.length (.dct kvs) = sH h met' qs := by subst e; simp [sH]
theorem sH_app (h : Hs) (met : Met) (qs : List Pr) (q : Pr) : (sH h met qs).set (h.length + 1) (.lst (qs.map pD ++ [pD q])) = sH h met (qs ++ [q]) := by simp [sH, List.set_append]
def sSt (t : Two) (lim : Nat) (h : Hs) (x7 x8 x9 x10 x11 : Option D) : Sg := [some t.a.d, some t.b.d, some (.bl t.al), some (.int lim), some (pD t.st), some (.ref h.length), some (.ref (h.length + 1)), x7, x8, x9, x10, x11]
theorem find_met {met : Met} {p : Pr} {hp : List Ev} (nd : (keysM met).Nodup) (hm : (p, hp) ∈ met) : (met.find? fun x => decide (x.1 = p)) = some (p, hp) := by
  induction met with
  | nil => cases hm
  | cons x met ih =>
    simp only [keysM, List.map_cons, List.nodup_cons] at nd
    rcases List.mem_cons.mp hm with rfl | hm
    · simp [List.find?_cons]
    · have : x.1 ≠ p := by
        rintro rfl
        exact nd.1 (List.mem_map.mpr ⟨_, hm, rfl⟩)
      simp only [List.find?_cons, decide_eq_false this]
      exact ih nd.2 hm
theorem hD_add (h : List Ev) (e : Ev) (g : Hs) (hl : h.length < 1000) : opBin g .Add (hD h) (.tup [e.d]) = some (hD (h ++ [e])) := by
  have z : (h.map Ev.d).length + [e.d].length ≤ sizeLine := by rw [sizeLine_eq]; simp; omega
  simp only [hD, opBin, opAdd, if_pos z]
  simp
theorem goes_e (t : Two) (lim : Nat) (h : Hs) (cf : Nat → List D → Hs → Res D) (x7 x8 x10 x11 : Option D) (m : Option Bool) (g : Hs) : evE pd.tab cf (.or (.var 2) (.isb true (.var 9) (.cst (.bl false)))) (sSt t lim h x7 x8 (some (aD m)) x10 x11) g = .ok (.bl (t.goes m)) g := by
  unfold Two.goes
  cases ha : t.al with
  | true => exact e_ort (d := .bl true) (e_var (by simp [sSt, ha])) rfl
  | false =>
    refine e_orf (d := .bl false) (e_var (by simp [sSt, ha])) rfl ?_
    rw [show (false || m != some false) = ((m == some false) != true) by rcases m with _ | (_ | _) <;> rfl]
    exact e_isb (e_var rfl) e_cst (isb_aD m false true)
theorem search_in (k : Nat) (t : Two) (ok : t.Ok) (lim : Nat) (h : Hs) (p : Pr) (hp : List Ev) (hr : t.runs t.st hp = some p) (hpl : hp.length < 1000) (fp : t.Fit p) : ∀ (es : List Ev) (met : Met) (qs : List Pr) (x8 x9 x10 x11 : Option D), (∀ e ∈ es, e.ok t.a) → t.Inv met → (∀ x ∈ met, t.Fit x.1) → (p, hp) ∈ met → met.length + es.length < 1000 → qs.length + es.length < 1000 →
    (∀ hist met', t.scan p hp es met = .inl (hist, met') → ∃ σ' r, loopF (evG pd.tab (cl (k+1)) g_law_search_1) (evB pd.tab (cl (k+1)) b_law_search_1) (es.map (rowD t p)) (sSt t lim h (some (pD p)) x8 x9 x10 x11) (sH h met qs) = .ok (.rt (.tup [hD hist, .lst ((keysM met').map pD)]), σ') (h ++ r)) ∧
    (∀ met', t.scan p hp es met = .inr met' → (∀ x ∈ met', t.Fit x.1) ∧ ∃ y8 y9 y10 y11, loopF (evG pd.tab (cl (k+1)) g_law_search_1) (evB pd.tab (cl (k+1)) b_law_search_1) (es.map (rowD t p)) (sSt t lim h (some (pD p)) x8 x9 x10 x11) (sH h met qs) = .ok (.nx, sSt t lim h (some (pD p)) y8 y9 y10 y11) (sH h met' (qs ++ (keysM met').drop met.length)))
  | [], met, qs, x8, x9, x10, x11, _, I, hf, hm, _, _ => by
    refine ⟨fun hist met' z => by simp [Two.scan] at z, fun met' z => ?_⟩
    simp only [Two.scan, Sum.inr.injEq] at z
    subst z
    refine ⟨hf, x8, x9, x10, x11, ?_⟩
    have : (keysM met).drop met.length = [] := by simp [keysM]
    rw [this, List.append_nil]
    exact f_nil
  | e :: es, met, qs, x8, x9, x10, x11, heo, I, hf, hm, hl, hql => by
    simp only [List.length_cons] at hl hql
    have he := heo e (List.mem_cons_self ..)
    have heo' := fun x hx => heo x (List.mem_cons_of_mem _ hx)
    have hg : evG pd.tab (cl (k+1)) g_law_search_1 (rowD t p e) (sSt t lim h (some (pD p)) x8 x9 x10 x11) (sH h met qs) = .ok (sSt t lim h (some (pD p)) (some e.d) (some (aD (t.m p e))) (some (aD (t.n p e))) (some (pD (t.nx p e)))) (sH h met qs) := by
      simp only [g_law_search_1, rowD, evG, evGL, Res.bind]
      rfl
    have hget : ∀ x9 x10 x11, evE pd.tab (cl (k+1)) (.bin .Add (.dget (.var 5) (.var 7)) (.tup (.cons (.var 8) .nil))) (sSt t lim h (some (pD p)) (some e.d) x9 x10 x11) (sH h met qs) = .ok (hD (hp ++ [e])) (sH h met qs) := fun x9 x10 x11 => by
      refine e_bin (e_dget (d := hD hp) (e_var rfl) (e_var rfl) ?_) (e_tup (qa (e_var rfl) q0) (by simp [sizeLine])) (hD_add hp e _ hpl)
      simp only [dgetD, sHk, pD_tkey, getK_met fp hf, find_met I.nd hm, Option.map_some]
    have hbad := l_bad k t (t.m p e) (t.n p e) (sH h met qs)
    have hbd : evE pd.tab (cl (k+1)) (.fn 66 (.cons (.var 9) (.cons (.var 10) (.cons (.var 2) .nil)))) (sSt t lim h (some (pD p)) (some e.d) (some (aD (t.m p e))) (some (aD (t.n p e))) (some (pD (t.nx p e)))) (sH h met qs) = .ok (.bl (t.bd p e)) (sH h met qs) := e_fn (qa (e_var rfl) (qa (e_var rfl) (qa (e_var rfl) q0))) hbad
    rw [List.map_cons]
    have fq := t.fit_nx ok fp he
    by_cases hb : t.bd p e = true
    · rw [hb] at hbd
      refine ⟨fun hist met' z => ?_, fun met' z => by simp [Two.scan, hb] at z⟩
      simp only [Two.scan, hb, if_true, Sum.inl.injEq, Prod.mk.injEq] at z
      obtain ⟨rfl, rfl⟩ := z
      have hbod : evB pd.tab (cl (k+1)) b_law_search_1 (sSt t lim h (some (pD p)) (some e.d) (some (aD (t.m p e))) (some (aD (t.n p e))) (some (pD (t.nx p e)))) (sH h met qs) = .ok (.rt (.tup [hD (hp ++ [e]), .lst ((keysM met).map pD)]), sSt t lim h (some (pD p)) (some e.d) (some (aD (t.m p e))) (some (aD (t.n p e))) (some (pD (t.nx p e)))) (sH h met qs) := by
        have := e_dlst (T := pd.tab) (cf := cl (k+1)) (σ := sSt t lim h (some (pD p)) (some e.d) (some (aD (t.m p e))) (some (aD (t.n p e))) (some (pD (t.nx p e)))) (h := sH h met qs) (a := .var 5) (e_var rfl) (sHk h met qs)
        rw [keys_metD] at this
        exact b_rt (s_ift hbd rfl (b_ret (e_tup (qa (hget _ _ _) (qa this q0)) (by simp [sizeLine]))))
      exact ⟨_, [.dct (metD met), .lst (qs.map pD)], f_rt hg hbod⟩
    · have hb' : t.bd p e = false := by simpa using hb
      rw [hb'] at hbd
      have hgo : ∀ g, evE pd.tab (cl (k+1)) (.or (.var 2) (.isb true (.var 9) (.cst (.bl false)))) (sSt t lim h (some (pD p)) (some e.d) (some (aD (t.m p e))) (some (aD (t.n p e))) (some (pD (t.nx p e)))) g = .ok (.bl (t.go p e)) g := fun g => goes_e t lim h _ _ _ _ _ _ g
      have hdin : evE pd.tab (cl (k+1)) (.din true (.var 11) (.var 5)) (sSt t lim h (some (pD p)) (some e.d) (some (aD (t.m p e))) (some (aD (t.n p e))) (some (pD (t.nx p e)))) (sH h met qs) = .ok (.bl (!has met (t.nx p e))) (sH h met qs) := by
        refine e_din (e_var rfl) (e_var rfl) ?_
        simp only [dinD, sHk, pD_tkey, hasK_met fq hf]
        cases has met (t.nx p e) <;> rfl
      by_cases hc : (t.go p e && !has met (t.nx p e)) = true
      · obtain ⟨c1, c2⟩ := Bool.and_eq_true_iff.mp hc
        have hn : has met (t.nx p e) = false := by simpa using c2
        have hgo1 := hgo (sH h met qs)
        rw [c1] at hgo1
        rw [c2] at hdin
        have hbod : evB pd.tab (cl (k+1)) b_law_search_1 (sSt t lim h (some (pD p)) (some e.d) (some (aD (t.m p e))) (some (aD (t.n p e))) (some (pD (t.nx p e)))) (sH h met qs) = .ok (.nx, sSt t lim h (some (pD p)) (some e.d) (some (aD (t.m p e))) (some (aD (t.n p e))) (some (pD (t.nx p e)))) (sH h (met ++ [(t.nx p e, hp ++ [e])]) (qs ++ [t.nx p e])) :=
          b_nx (s_iff hbd rfl q_nil) (b_nx (s_ift (e_andt hgo1 rfl hdin) rfl (b_nx (s_asg (hget _ _ _) (g_dst (e_var rfl) (e_var rfl) (sH5 h met qs) (pD_tkey _) (by rw [met_len, sizeLine_eq]; omega) (sH_put h met qs _ _ (putN_met fq hf hn _)))) (b_nx (s_exp (e_app (e_var rfl) (by simp only [D.lseq, sH6]) (e_var rfl) (sH6 h _ qs) (by rw [List.length_map, sizeLine_eq]; omega) (sH_app h _ qs _))) q_nil))) q_nil)
        have J : t.Inv (met ++ [(t.nx p e, hp ++ [e])]) ∧ True := by
          refine ⟨⟨?_, fun x hx => ?_, ?_⟩, trivial⟩
          · rw [keysM, List.map_append, List.nodup_append]
            refine ⟨I.nd, by simp, fun a ha b hb2 => ?_⟩
            simp at hb2
            subst hb2
            intro z
            subst z
            have := (has_iff met _).mpr ha
            rw [hn] at this
            cases this
          · rcases List.mem_append.mp hx with hx | hx
            · exact I.run x hx
            · rw [List.mem_singleton.mp hx]
              exact t.runs_snoc e hp t.st p hr hb' c1
          · rw [keysM, List.map_append]
            exact List.mem_append_left _ I.st
        have hf2 : ∀ x ∈ met ++ [(t.nx p e, hp ++ [e])], t.Fit x.1 := fun x hx => by
          rcases List.mem_append.mp hx with hx | hx
          · exact hf x hx
          · rw [List.mem_singleton.mp hx]; exact fq
        obtain ⟨i1, i2⟩ := search_in k t ok lim h p hp hr hpl fp es (met ++ [(t.nx p e, hp ++ [e])]) (qs ++ [t.nx p e]) (some e.d) (some (aD (t.m p e))) (some (aD (t.n p e))) (some (pD (t.nx p e))) heo' J.1 hf2 (List.mem_append_left _ hm) (by simp; omega) (by simp; omega)
        have hsc : t.scan p hp (e :: es) met = t.scan p hp es (met ++ [(t.nx p e, hp ++ [e])]) := by simp [Two.scan, hb', hc]
        refine ⟨fun hist met' z => ?_, fun met' z => ?_⟩
        · rw [hsc] at z
          obtain ⟨σ', r, i3⟩ := i1 hist met' z
          exact ⟨σ', r, f_nx hg hbod i3⟩
        · rw [hsc] at z
          obtain ⟨i3, y8, y9, y10, y11, i4⟩ := i2 met' z
          refine ⟨i3, y8, y9, y10, y11, ?_⟩
          rw [f_nx hg hbod i4]
          obtain ⟨_, ⟨r, er⟩, _⟩ := (t.scan_inv p hp hr es _ J.1).2 met' z
          have : qs ++ [t.nx p e] ++ (keysM met').drop (met ++ [(t.nx p e, hp ++ [e])]).length = qs ++ (keysM met').drop met.length := by
            rw [er]
            simp [keysM, List.drop_append]
          rw [this]
      · have hbod : evB pd.tab (cl (k+1)) b_law_search_1 (sSt t lim h (some (pD p)) (some e.d) (some (aD (t.m p e))) (some (aD (t.n p e))) (some (pD (t.nx p e)))) (sH h met qs) = .ok (.nx, sSt t lim h (some (pD p)) (some e.d) (some (aD (t.m p e))) (some (aD (t.n p e))) (some (pD (t.nx p e)))) (sH h met qs) := by
          refine b_nx (s_iff hbd rfl q_nil) (b_nx (s_iff (d := .bl false) ?_ rfl q_nil) q_nil)
          have hgo1 := hgo (sH h met qs)
          cases hg1 : t.go p e with
          | false => rw [hg1] at hgo1; exact e_andf hgo1 rfl
          | true =>
            rw [hg1] at hgo1 hc
            have : (!has met (t.nx p e)) = false := by simpa using hc
            rw [this] at hdin
            exact e_andt hgo1 rfl hdin
        obtain ⟨i1, i2⟩ := search_in k t ok lim h p hp hr hpl fp es met qs (some e.d) (some (aD (t.m p e))) (some (aD (t.n p e))) (some (pD (t.nx p e))) heo' I hf hm (by omega) (by omega)
        have hsc : t.scan p hp (e :: es) met = t.scan p hp es met := by simp [Two.scan, hb', hc]
        refine ⟨fun hist met' z => ?_, fun met' z => ?_⟩
        · rw [hsc] at z
          obtain ⟨σ', r, i3⟩ := i1 hist met' z
          exact ⟨σ', r, f_nx hg hbod i3⟩
        · rw [hsc] at z
          obtain ⟨i3, y8, y9, y10, y11, i4⟩ := i2 met' z
          exact ⟨i3, y8, y9, y10, y11, f_nx hg hbod i4⟩
end K02

set_option Elab.async false
set_option linter.all false
set_option maxRecDepth 100000
set_option maxHeartbeats 1000000
namespace K02
open PySem PySem.Spec PyProof.Rows L2 He MC MP
theorem pD_dt (p : Pr) : Dt 4 (pD p) := .tup (.cons (vD_dt _) (.cons (vD_dt _) (.nil _)))
theorem nil_eq {g : Hs} {a : D} {xs : List D} {n : Nat} (hx : DtL n xs) (hn : n ≤ 60) (ha : a.py g = (D.pyP xs).map .list) : eqD g a (.lst []) = some xs.isEmpty := by
  obtain ⟨ys, e1, e2, e3⟩ := hx.py
  unfold eqD
  rw [ha, e1]
  have sh : SeqAt.shaped (.list ys) = true := by
    simp [SeqAt.shaped, PyData.canLay0, e2, PyData.depth]
    omega
  show (if SeqAt.shaped (.list ys) && SeqAt.shaped (.list []) then some (PyData.eqv (.list ys) (.list [])) else none) = _
  rw [sh]
  have : SeqAt.shaped (.list []) = true := by decide +kernel
  rw [this]
  simp only [Bool.and_self, if_true, Option.some.injEq]
  cases xs with
  | nil => cases e1; rfl
  | cons x xs =>
    cases ys with
    | nil =>
      simp only [D.pyP] at e1
      split at e1 <;> cases e1
    | cons y ys => rfl
theorem ne_nil_ref {g : Hs} {n : Nat} {qs : List Pr} (e : g[n]? = some (.lst (qs.map pD))) : opCmp g .NotEq (.ref n) (.lst []) = some (.bl (!qs.isEmpty)) := by
  have := nil_eq (g := g) (a := .ref n) (xs := qs.map pD) (dtL_map fun p _ => pD_dt p) (by decide) (by simp only [D.py, e])
  simp only [opCmp, this, Option.map_some]
  cases qs <;> rfl
theorem ne_nil_lst {g : Hs} {qs : List Pr} : opCmp g .NotEq (.lst (qs.map pD)) (.lst []) = some (.bl (!qs.isEmpty)) := by
  have := nil_eq (g := g) (a := .lst (qs.map pD)) (xs := qs.map pD) (dtL_map fun p _ => pD_dt p) (by decide) (by rfl)
  simp only [opCmp, this, Option.map_some]
  cases qs <;> rfl
theorem Two.scan_len (t : Two) (p : Pr) (hp : List Ev) : ∀ (es : List Ev) (met : Met), (∀ x ∈ met, x.2.length < met.length) → hp.length < met.length → (∀ met', t.scan p hp es met = .inr met' → (∀ x ∈ met', x.2.length < met'.length) ∧ met'.length ≤ met.length + es.length)
  | [], met, h, _, met', z => by
    simp only [Two.scan, Sum.inr.injEq] at z
    subst z
    exact ⟨h, by simp⟩
  | e :: es, met, h, hl, met', z => by
    simp only [Two.scan] at z
    split at z
    · cases z
    · split at z
      · have := Two.scan_len t p hp es (met ++ [(t.nx p e, hp ++ [e])]) (fun x hx => by
          rcases List.mem_append.mp hx with hx | hx
          · have := h x hx; simp; omega
          · rw [List.mem_singleton.mp hx]; simp; omega) (by simp; omega) met' z
        refine ⟨this.1, ?_⟩
        have := this.2
        simp at this ⊢
        omega
      · have := Two.scan_len t p hp es met h hl met' z
        refine ⟨this.1, ?_⟩
        have := this.2
        simp
        omega
section
variable {c : Sg → Hs → Res Bool} {bd : Sg → Hs → MC.R2} {σ σ2 : Sg} {h h1 h2 : Hs} {m : Nat} {r : MC.R2}
theorem w_end (e : c σ h = .ok false h1) : loopW c bd (m + 1) σ h = .ok (.nx, σ) h1 := by
  simp only [loopW, e, Res.bind, Bool.false_eq_true, if_false]
theorem w_nx (e : c σ h = .ok true h1) (e2 : bd σ h1 = .ok (.nx, σ2) h2) (e3 : loopW c bd m σ2 h2 = r) : loopW c bd (m + 1) σ h = r := by
  simp only [loopW, e, e2, Res.bind, if_true]
  exact e3
theorem w_rt {d : D} (e : c σ h = .ok true h1) (e2 : bd σ h1 = .ok (.rt d, σ2) h2) : loopW c bd (m + 1) σ h = .ok (.rt d, σ2) h2 := by
  simp only [loopW, e, e2, Res.bind, if_true]
end
/-- the body of the search's loop -/
def sBody : B := (.cons (.asg (.nm 7) (.pop0 (.var 6))) (.cons (.for_ g_law_search_1 (.val (.fn 65 (.cons (.var 0) (.cons (.var 1) (.cons (.var 7) .nil))))) b_law_search_1) (.cons (.ifs (.cmp .Gt (.dlen (.var 5)) (.var 3)) (.cons (.ret (.tup (.cons (.cst .non) (.cons (.cst .non) .nil)))) .nil) .nil) .nil)))
theorem drop_join {α : Type} (a b : List α) (i : Nat) (h : i ≤ a.length) : a.drop i ++ (a ++ b).drop a.length = (a ++ b).drop i := by
  rw [List.drop_append_of_le_length h, List.drop_left]
theorem drop_get {met : Met} {i : Nat} {x : Pr × List Ev} (e : met[i]? = some x) : (keysM met).drop i = x.1 :: (keysM met).drop (i + 1) := by
  have hi := (List.getElem?_eq_some_iff.mp e).1
  have hk : i < (keysM met).length := by simpa [keysM] using hi
  rw [List.drop_eq_getElem_cons hk]
  congr 1
  obtain ⟨_, e2⟩ := List.getElem?_eq_some_iff.mp e
  simp [keysM, e2]
theorem search_while (k : Nat) (t : Two) (ok : t.Ok) (h : Hs) : ∀ (n i : Nat) (met : Met) (fu : Nat) (x7 x8 x9 x10 x11 : Option D), t.Inv met → (∀ x ∈ met, t.Fit x.1) → (∀ x ∈ met, x.2.length < met.length) → i ≤ met.length → met.length ≤ 400 → 400 < n + i → n ≤ fu →
    (t.srch n i met = none → ∃ σ' r, loopW (fun σ h => (evE pd.tab (cl (k+4)) (.cmp .NotEq (.var 6) (.lst true .nil)) σ h).bind tst) (evB pd.tab (cl (k+4)) sBody) fu (sSt t 400 h x7 x8 x9 x10 x11) (sH h met ((keysM met).drop i)) = .ok (.rt (.tup [.non, .non]), σ') (h ++ r)) ∧
    (∀ hist met', t.srch n i met = some (some hist, met') → ∃ σ' r, loopW (fun σ h => (evE pd.tab (cl (k+4)) (.cmp .NotEq (.var 6) (.lst true .nil)) σ h).bind tst) (evB pd.tab (cl (k+4)) sBody) fu (sSt t 400 h x7 x8 x9 x10 x11) (sH h met ((keysM met).drop i)) = .ok (.rt (.tup [hD hist, .lst ((keysM met').map pD)]), σ') (h ++ r)) ∧
    (∀ met', t.srch n i met = some (none, met') → met'.length ≤ 400 ∧ (∀ x ∈ met', t.Fit x.1) ∧ ∃ y7 y8 y9 y10 y11, loopW (fun σ h => (evE pd.tab (cl (k+4)) (.cmp .NotEq (.var 6) (.lst true .nil)) σ h).bind tst) (evB pd.tab (cl (k+4)) sBody) fu (sSt t 400 h x7 x8 x9 x10 x11) (sH h met ((keysM met).drop i)) = .ok (.nx, sSt t 400 h y7 y8 y9 y10 y11) (sH h met' []))
  | 0, i, met, fu, x7, x8, x9, x10, x11, I, hf, hlen, hi, hm, hn, hfu => absurd hn (by omega)
  | n + 1, i, met, 0, x7, x8, x9, x10, x11, I, hf, hlen, hi, hm, hn, hfu => absurd hfu (by omega)
  | n + 1, i, met, fu + 1, x7, x8, x9, x10, x11, I, hf, hlen, hi, hm, hn, hfu => by
    have hcond : ∀ b, (!((keysM met).drop i).isEmpty) = b → (fun σ h => (evE pd.tab (cl (k+4)) (.cmp .NotEq (.var 6) (.lst true .nil)) σ h).bind tst) (sSt t 400 h x7 x8 x9 x10 x11) (sH h met ((keysM met).drop i)) = .ok b (sH h met ((keysM met).drop i)) := fun b hb => by
      have e : evE pd.tab (cl (k+4)) (.cmp .NotEq (.var 6) (.lst true .nil)) (sSt t 400 h x7 x8 x9 x10 x11) (sH h met ((keysM met).drop i)) = .ok (.bl b) (sH h met ((keysM met).drop i)) := by
        rw [← hb]
        exact e_cmp (e_var rfl) (e_lstT q0 (by simp [sizeLine])) (ne_nil_ref (sH6 h met _))
      simp only [e, Res.bind, tst, tru, Res.of]
    cases q : met[i]? with
    | none =>
      have hl : met.length ≤ i := List.getElem?_eq_none_iff.mp q
      have hd : (keysM met).drop i = [] := List.drop_eq_nil_of_le (by simpa [keysM] using hl)
      have hs : t.srch (n + 1) i met = some (none, met) := by simp [Two.srch, q]
      rw [hs]
      refine ⟨(fun z => by cases z), (fun hist met' z => by cases z), fun met' z => ?_⟩
      simp only [Option.some.injEq, Prod.mk.injEq, true_and] at z
      subst z
      refine ⟨hm, hf, x7, x8, x9, x10, x11, ?_⟩
      rw [w_end (hcond false (by rw [hd]; rfl)), hd]
    | some x =>
      obtain ⟨p, hp⟩ := x
      have hmem := List.mem_of_getElem? q
      have hil := (List.getElem?_eq_some_iff.mp q).1
      have hd := drop_get q
      have hr := I.run _ hmem
      have fp := hf _ hmem
      have hpl := hlen _ hmem
      simp only at hd hr fp hpl
      have f2 := ok.wa.f2
      have el := evs_len t.a
      have hpop : evS pd.tab (cl (k+4)) (.asg (.nm 7) (.pop0 (.var 6))) (sSt t 400 h x7 x8 x9 x10 x11) (sH h met ((keysM met).drop i)) = .ok (.nx, sSt t 400 h (some (pD p)) x8 x9 x10 x11) (sH h met ((keysM met).drop (i + 1))) := by
        refine s_set (e_pop0 (e_var rfl) (by rw [sH6, hd]; rfl) ?_)
        rw [hd]
        simp [sH, List.set_append]
      obtain ⟨s1, s2⟩ := search_in (k+3) t ok 400 h p hp hr (by omega) fp (evs t.a) met ((keysM met).drop (i + 1)) x8 x9 x10 x11 (fun e he => evs_ok he) I hf hmem (by omega) (by simp [keysM]; omega)
      have hboth := l_both k t ok p fp (sH h met ((keysM met).drop (i + 1)))
      have hit : evI pd.tab (cl (k+4)) (.val (.fn 65 (.cons (.var 0) (.cons (.var 1) (.cons (.var 7) .nil))))) (sSt t 400 h (some (pD p)) x8 x9 x10 x11) (sH h met ((keysM met).drop (i + 1))) = .ok (.its ((evs t.a).map (rowD t p))) (sH h met ((keysM met).drop (i + 1))) := by
        simp only [evI]
        rw [e_fn (qa (e_var rfl) (qa (e_var rfl) (qa (e_var rfl) q0))) hboth]
        rfl
      have ht := hcond true (by rw [hd]; rfl)
      cases q2 : t.scan p hp (evs t.a) met with
      | inl y =>
        obtain ⟨hist, met2⟩ := y
        have hs : t.srch (n + 1) i met = some (some hist, met2) := by simp [Two.srch, q, q2]
        rw [hs]
        refine ⟨(fun z => by cases z), fun hist' met' z => ?_, (fun met' z => by cases z)⟩
        simp only [Option.some.injEq, Prod.mk.injEq] at z
        obtain ⟨rfl, rfl⟩ := z
        obtain ⟨σ', r, s3⟩ := s1 hist met2 q2
        exact ⟨σ', r, w_rt ht (b_nx hpop (b_rt (s_for hit s3)))⟩
      | inr met2 =>
        obtain ⟨hf2, y8, y9, y10, y11, s3⟩ := s2 met2 q2
        obtain ⟨I2, ⟨r2, er2⟩, _⟩ := (t.scan_inv p hp hr (evs t.a) met I).2 met2 q2
        obtain ⟨l1, l2⟩ := t.scan_len p hp (evs t.a) met hlen hpl met2 q2
        have hq : (keysM met).drop (i + 1) ++ (keysM met2).drop met.length = (keysM met2).drop (i + 1) := by
          have ek : keysM met2 = keysM met ++ keysM r2 := by rw [er2]; simp [keysM]
          have lk : met.length = (keysM met).length := by simp [keysM]
          rw [ek, lk]
          exact drop_join _ _ _ (by rw [← lk]; omega)
        rw [hq] at s3
        have hgt : ∀ b, decide ((400 : Int) < (met2.length : Int)) = b → evE pd.tab (cl (k+4)) (.cmp .Gt (.dlen (.var 5)) (.var 3)) (sSt t 400 h (some (pD p)) y8 y9 y10 y11) (sH h met2 ((keysM met2).drop (i + 1))) = .ok (.bl b) (sH h met2 ((keysM met2).drop (i + 1))) := fun b hb => by
          refine e_cmp (x := .int met2.length) (by
            have := e_dlen (T := pd.tab) (cf := cl (k+4)) (σ := sSt t 400 h (some (pD p)) y8 y9 y10 y11) (h := sH h met2 ((keysM met2).drop (i + 1))) (a := .var 5) (e_var rfl) (sHk h met2 _)
            rw [met_len] at this
            exact this) (e_var rfl) ?_
          show some (D.bl (decide ((400 : Int) < (met2.length : Int)))) = _
          rw [hb]
        by_cases hbig : met2.length > 400
        · have hs : t.srch (n + 1) i met = none := by simp [Two.srch, q, q2, hbig]
          rw [hs]
          refine ⟨fun _ => ?_, (fun hist' met' z => by cases z), (fun met' z => by cases z)⟩
          refine ⟨_, [.dct (metD met2), .lst (((keysM met2).drop (i + 1)).map pD)], w_rt ht (b_nx hpop (b_nx (s_for hit s3) (b_rt (s_ift (hgt true (decide_eq_true (by omega))) rfl (b_ret (e_tup (qa e_cst (qa e_cst q0)) (by simp [sizeLine])))))))⟩
        · have hs : t.srch (n + 1) i met = t.srch n (i + 1) met2 := by simp [Two.srch, q, q2, hbig]
          rw [hs]
          have hl2 : met.length ≤ met2.length := by rw [er2]; simp
          obtain ⟨j1, j2, j3⟩ := search_while k t ok h n (i + 1) met2 fu (some (pD p)) y8 y9 y10 y11 I2 hf2 l1 (by omega) (by omega) (by omega) (by omega)
          have hbod : evB pd.tab (cl (k+4)) sBody (sSt t 400 h x7 x8 x9 x10 x11) (sH h met ((keysM met).drop i)) = .ok (.nx, sSt t 400 h (some (pD p)) y8 y9 y10 y11) (sH h met2 ((keysM met2).drop (i + 1))) :=
            b_nx hpop (b_nx (s_for hit s3) (b_nx (s_iff (hgt false (decide_eq_false (by omega))) rfl q_nil) q_nil))
          refine ⟨fun z => ?_, fun hist' met' z => ?_, fun met' z => ?_⟩
          · obtain ⟨σ', r, w⟩ := j1 z
            exact ⟨σ', r, w_nx ht hbod w⟩
          · obtain ⟨σ', r, w⟩ := j2 hist' met' z
            exact ⟨σ', r, w_nx ht hbod w⟩
          · obtain ⟨a1, a2, z7, z8, z9, z10, z11, w⟩ := j3 met' z
            exact ⟨a1, a2, z7, z8, z9, z10, z11, w_nx ht hbod w⟩
end K02

set_option Elab.async false
set_option linter.all false
set_option maxRecDepth 100000
set_option maxHeartbeats 1000000
namespace K02
open PySem PySem.Spec PyProof.Rows L2 He MC MP
theorem fuel_ok : 402 ≤ pd.tab.fuel := by decide +kernel
section
variable {T : Tab} {cf : Nat → List D → Hs → Res D} {σ : Sg} {h h1 h2 : Hs}
theorem e_dof {a : E} {x : D} {xs : List D} {kvs : List (D × D)} (e1 : evE T cf a σ h = .ok x h1) (e2 : x.lseq h1 = some xs) (e3 : pairsD xs = some kvs) (hl : kvs.length ≤ sizeLine) : evE T cf (.dof a) σ h = .ok (.ref h1.length) (h1 ++ [.dct (mergeN [] kvs)]) := by
  simp only [evE, e1, e2, e3, Res.bind, if_pos hl]
theorem s_whl {c : E} {b : B} {r : MC.R2} (e : loopW (fun σ h => (evE T cf c σ h).bind tst) (evB T cf b) T.fuel σ h = r) : evS T cf (.whl c b) σ h = r := by
  simp only [evS]
  exact e
end
def dueD : Option (List Ev) → D
  | none => .non
  | some h => hD h
def Two.res (t : Two) : D := match t.srch 402 0 t.met0 with
  | none => .tup [.non, .non]
  | some (due, met) => .tup [dueD due, .lst ((keysM met).map pD)]
theorem hD_nr (h : List Ev) : (hD h).nr = true := by
  show D.nrL (h.map Ev.d) = true
  induction h with
  | nil => rfl
  | cons e h ih => simp [D.nrL, Ev.nr, ih]
theorem pDl_nr (ps : List Pr) : (D.lst (ps.map pD)).nr = true := by
  show D.nrL (ps.map pD) = true
  induction ps with
  | nil => rfl
  | cons e h ih => simp [D.nrL, pDs_nr, ih]
theorem Two.fits0 (t : Two) (ok : t.Ok) : ∀ x ∈ t.met0, t.Fit x.1 := fun x hx => by
  simp [Two.met0] at hx
  subst hx
  exact t.fit_st ok
theorem l_search (k : Nat) (t : Two) (ok : t.Ok) (h : Hs) : cl (k+5) 67 [t.a.d, t.b.d, .bl t.al, .int 400] h = .ok t.res h := by
  obtain ⟨r1a, r3a, f1a, f2a, _⟩ := ok.wa
  obtain ⟨r1b, r3b, f1b, f2b, _⟩ := ok.wb
  have e1 : evS pd.tab (cl (k+4)) (.asg (.nm 4) (.tup (.cons (.fn 58 (.cons (.var 0) .nil)) (.cons (.fn 58 (.cons (.var 1) .nil)) .nil)))) [some t.a.d, some t.b.d, some (.bl t.al), some (.int 400), none, none, none, none, none, none, none, none] h = .ok (.nx, [some t.a.d, some t.b.d, some (.bl t.al), some (.int 400), some (pD t.st), none, none, none, none, none, none, none]) h :=
    s_set (e_tup (qa (e_fn (qa (e_var rfl) q0) (l_start (k+2) t.a h f1a (by omega) (by omega))) (qa (e_fn (qa (e_var rfl) q0) (l_start (k+2) t.b h f1b (by omega) (by omega))) q0)) (by simp [sizeLine]))
  have ep : pairsD [.tup [pD t.st, .tup []]] = some [(pD t.st, .tup [])] := by simp [pairsD, pD_tkey]
  have em : mergeN [] [(pD t.st, D.tup [])] = metD t.met0 := by
    simp [mergeN, pD_tkey, putN, hasK, getK, metD, Two.met0, hD]
  have e2 : evS pd.tab (cl (k+4)) (.par 5 6 (.dof (.lst true (.cons (.tup (.cons (.var 4) (.cons (.tup .nil) .nil))) .nil))) (.lst false (.cons (.var 4) .nil))) [some t.a.d, some t.b.d, some (.bl t.al), some (.int 400), some (pD t.st), none, none, none, none, none, none, none] h = .ok (.nx, sSt t 400 h none none none none none) (sH h t.met0 ((keysM t.met0).drop 0)) := by
    have z := s_par (T := pd.tab) (cl := cl (k+4)) (i := 5) (j := 6) (σ := [some t.a.d, some t.b.d, some (.bl t.al), some (.int 400), some (pD t.st), none, none, none, none, none, none, none]) (h := h) (e_dof (a := .lst true (.cons (.tup (.cons (.var 4) (.cons (.tup .nil) .nil))) .nil)) (e_lstT (qa (e_tup (qa (e_var (d := pD t.st) rfl) (qa (e_tup q0 (by simp [sizeLine])) q0)) (by simp [sizeLine])) q0) (by simp [sizeLine])) rfl ep (by simp [sizeLine])) (e_lstF (as := .cons (.var 4) .nil) (qa (e_var (d := pD t.st) rfl) q0) (by simp [sizeLine]))
    rw [z, em]
    have hlen : (h ++ [O.dct (metD t.met0)]).length = h.length + 1 := by simp
    rw [hlen]
    simp [sSt, sH, keysM, Two.met0]
  obtain ⟨w1, w2, w3⟩ := search_while k t ok h 402 0 t.met0 pd.tab.fuel none none none none none t.inv0 (t.fits0 ok) (fun x hx => by simp [Two.met0] at hx; subst hx; simp [Two.met0]) (Nat.zero_le _) (by simp [Two.met0]) (by omega) fuel_ok
  unfold Two.res
  cases q : t.srch 402 0 t.met0 with
  | none =>
    obtain ⟨σ', r, w⟩ := w1 q
    have e5 := call_rt (k := k + 4) (xs := [t.a.d, t.b.d, .bl t.al, .int 400]) F_law_search rfl (b_nx e1 (b_nx e2 (b_rt (s_whl w))))
    rw [e5]
    exact back_nr rfl
  | some y =>
    obtain ⟨due, met⟩ := y
    cases due with
    | some hist =>
      obtain ⟨σ', r, w⟩ := w2 hist met q
      have e5 := call_rt (k := k + 4) (xs := [t.a.d, t.b.d, .bl t.al, .int 400]) F_law_search rfl (b_nx e1 (b_nx e2 (b_rt (s_whl w))))
      rw [e5]
      refine back_nr ?_
      have := pDl_nr (keysM met)
      simp [D.nr, D.nrL, hD_nr] at this ⊢
      exact this
    | none =>
      obtain ⟨_, _, y7, y8, y9, y10, y11, w⟩ := w3 met q
      have el := e_dlst (T := pd.tab) (cf := cl (k+4)) (σ := sSt t 400 h y7 y8 y9 y10 y11) (h := sH h met []) (a := .var 5) (e_var rfl) (sHk h met [])
      rw [keys_metD] at el
      have e5 := call_rt (k := k + 4) (xs := [t.a.d, t.b.d, .bl t.al, .int 400]) F_law_search rfl (b_nx e1 (b_nx e2 (b_nx (s_whl w) (b_ret (e_tup (qa e_cst (qa el q0)) (by simp [sizeLine]))))))
      rw [e5]
      refine back_nr (new := [.dct (metD met), .lst []]) ?_
      have := pDl_nr (keysM met)
      simp [D.nr, D.nrL, dueD] at this ⊢
      exact this
end K02

set_option Elab.async false
set_option linter.all false
set_option maxRecDepth 100000
set_option maxHeartbeats 1000000
namespace K02
open PySem PySem.Spec PyProof.Rows L2 He MC MP
/-! ### layers against the queue, typed -/
def Two.lay (t : Two) : Met → Met → List Ev ⊕ Met
  | [], met => .inr met
  | (p, hp) :: r, met => match t.scan p hp (evs t.a) met with
    | .inl (hist, _) => .inl hist
    | .inr met' => t.lay r met'
theorem Two.scan_ext (t : Two) (p : Pr) (hp : List Ev) : ∀ (es : List Ev) (met met' : Met), t.scan p hp es met = .inr met' → ∃ r, met' = met ++ r
  | [], met, met', z => by
    simp only [Two.scan, Sum.inr.injEq] at z
    exact ⟨[], by simp [z]⟩
  | e :: es, met, met', z => by
    simp only [Two.scan] at z
    split at z
    · cases z
    · split at z
      · obtain ⟨r, er⟩ := Two.scan_ext t p hp es _ met' z
        exact ⟨_, by rw [er, List.append_assoc]⟩
      · exact Two.scan_ext t p hp es met met' z
theorem Two.lay_ext (t : Two) : ∀ (r met met' : Met), t.lay r met = .inr met' → ∃ x, met' = met ++ x
  | [], met, met', z => by
    simp only [Two.lay, Sum.inr.injEq] at z
    exact ⟨[], by simp [z]⟩
  | (p, hp) :: r, met, met', z => by
    simp only [Two.lay] at z
    split at z
    · cases z
    · rename_i met1 q
      obtain ⟨x, ex⟩ := t.scan_ext p hp _ _ _ q
      obtain ⟨y, ey⟩ := Two.lay_ext t r met1 met' z
      exact ⟨x ++ y, by rw [ey, ex, List.append_assoc]⟩
theorem Two.lay_srch (t : Two) : ∀ (r : Met) (n j : Nat) (met : Met) (due : Option (List Ev)) (mF : Met), (∀ i, i < r.length → met[j + i]? = r[i]?) → t.srch n j met = some (due, mF) →
    (∀ hist, t.lay r met = .inl hist → due = some hist) ∧ (∀ met2, t.lay r met = .inr met2 → (r ≠ [] → met2.length ≤ 400) ∧ r.length ≤ n ∧ t.srch (n - r.length) (j + r.length) met2 = some (due, mF))
  | [], n, j, met, due, mF, _, z => by
    refine ⟨fun hist y => by simp [Two.lay] at y, fun met2 y => ?_⟩
    simp only [Two.lay, Sum.inr.injEq] at y
    subst y
    exact ⟨(fun h => absurd rfl h), Nat.zero_le _, by simpa using z⟩
  | (p, hp) :: r, 0, j, met, due, mF, _, z => by cases z
  | (p, hp) :: r, n + 1, j, met, due, mF, hr, z => by
    have h0 := hr 0 (by simp)
    simp only [Nat.add_zero, List.getElem?_cons_zero] at h0
    simp only [Two.srch, h0] at z
    simp only [Two.lay]
    cases q : t.scan p hp (evs t.a) met with
    | inl y =>
      obtain ⟨hist, m1⟩ := y
      rw [q] at z
      simp only [Option.some.injEq, Prod.mk.injEq] at z
      refine ⟨fun hist' y => ?_, fun met2 y => by cases y⟩
      simp only [Sum.inl.injEq] at y
      rw [← y]
      exact z.1.symm
    | inr m1 =>
      rw [q] at z
      simp only at z
      split at z
      · cases z
      · rename_i hbig
        obtain ⟨x, ex⟩ := t.scan_ext p hp _ _ _ q
        have hr' : ∀ i, i < r.length → m1[j + 1 + i]? = r[i]? := fun i hi => by
          have h1 := hr (i + 1) (by simp; omega)
          rw [List.getElem?_cons_succ] at h1
          have hlt : j + (i + 1) < met.length := by
            have : r[i]? = some r[i] := List.getElem?_eq_getElem hi
            rw [this] at h1
            exact (List.getElem?_eq_some_iff.mp h1).1
          rw [ex, show j + 1 + i = j + (i + 1) by omega, List.getElem?_append_left hlt]
          exact h1
        obtain ⟨i1, i2⟩ := Two.lay_srch t r n (j + 1) m1 due mF hr' z
        refine ⟨fun hist y => i1 hist y, fun met2 y => ?_⟩
        obtain ⟨a1, a2, a3⟩ := i2 met2 y
        refine ⟨fun _ => ?_, by simp; omega, ?_⟩
        · by_cases hre : r = []
          · subst hre
            simp only [Two.lay, Sum.inr.injEq] at y
            subst y
            omega
          · exact a1 hre
        · rw [List.length_cons, show n + 1 - (r.length + 1) = n - r.length by omega, show j + (r.length + 1) = j + 1 + r.length by omega]
          exact a3
end K02

set_option Elab.async false
set_option linter.all false
set_option maxRecDepth 100000
set_option maxHeartbeats 1000000
namespace K02
open PySem PySem.Spec PyProof.Rows L2 He MC MP
/-! ### the program's comparison: one layer -/
def cF (t : Two) (q : Nat) (fd : D) : List (Nat × D) := [(23, t.a.d), (24, t.b.d), (20, .bl t.al), (18, .ref q), (17, fd)]
/-- a heap that holds a comparison at m, with its histories at q -/
structure CH (t : Two) (m q : Nat) (H : Met) (fd : D) (g : Hs) : Prop where
  c : g[m]? = some (.ins 5 (cF t q fd))
  d : g[q]? = some (.dct (metD H))
theorem CH.lt {t : Two} {m q : Nat} {H : Met} {fd : D} {g : Hs} (I : CH t m q H fd g) : m < g.length ∧ q < g.length := ⟨(List.getElem?_eq_some_iff.mp I.c).1, (List.getElem?_eq_some_iff.mp I.d).1⟩
theorem CH.ap {t : Two} {m q : Nat} {H : Met} {fd : D} {g : Hs} (I : CH t m q H fd g) (r : Hs) : CH t m q H fd (g ++ r) :=
  ⟨by rw [List.getElem?_append_left I.lt.1]; exact I.c, by rw [List.getElem?_append_left I.lt.2]; exact I.d⟩
theorem CH.fl {t : Two} {m q : Nat} {H : Met} {fd : D} {g : Hs} (I : CH t m q H fd g) : (D.ref m).fields g = some (5, cF t q fd) := by simp only [D.fields, I.c]
theorem CH.kv {t : Two} {m q : Nat} {H : Met} {fd : D} {g : Hs} (I : CH t m q H fd g) : (D.ref q).kvs g = some (metD H) := by simp only [D.kvs, I.d]
def nSt (m n : Nat) (ly : D) (x3 x4 x5 x6 x7 : Option D) : Sg := [some (.ref m), some ly, some (.ref n), x3, x4, x5, x6, x7]
theorem has_app (H F : Met) (p : Pr) : has (H ++ F) p = (has H p || has F p) := by simp [has]
theorem frk (g : Hs) (F : Met) : (D.ref g.length).kvs (g ++ [.dct (metD F)]) = some (metD F) := by simp [D.kvs]
theorem fr5 (g : Hs) (F : Met) : (g ++ [O.dct (metD F)])[g.length]? = some (.dct (metD F)) := by simp
theorem fr_put (g : Hs) (F F' : Met) (kvs : List (D × D)) (e : kvs = metD F') : (g ++ [O.dct (metD F)]).set g.length (.dct kvs) = g ++ [.dct (metD F')] := by subst e; simp
theorem layer_in (k : Nat) (t : Two) (ok : t.Ok) (m q : Nat) (H : Met) (fd : D) (g : Hs) (C : CH t m q H fd g) (ly : D) (p : Pr) (hp : List Ev) (hr : t.runs t.st hp = some p) (hpl : hp.length < 1000) (fp : t.Fit p) (hm : (p, hp) ∈ H) : ∀ (es : List Ev) (F : Met) (x4 x5 x6 x7 : Option D), (∀ e ∈ es, e.ok t.a) → t.Inv (H ++ F) → (∀ x ∈ H ++ F, t.Fit x.1) → F.length + es.length < 1000 →
    (∀ hist met', t.scan p hp es (H ++ F) = .inl (hist, met') → ∃ σ' r, loopF (evG pd.tab (cl (k+1)) g_Comparison_next_layer_2) (evB pd.tab (cl (k+1)) b_Comparison_next_layer_1) (es.map (rowD t p)) (nSt m g.length ly (some (pD p)) x4 x5 x6 x7) (g ++ [.dct (metD F)]) = .ok (.rt (.lst []), σ') (g.set m (.ins 5 (cF t q (hD hist))) ++ [r])) ∧
    (∀ met', t.scan p hp es (H ++ F) = .inr met' → (∀ x ∈ met', t.Fit x.1) ∧ ∃ F' y4 y5 y6 y7, met' = H ++ F' ∧ loopF (evG pd.tab (cl (k+1)) g_Comparison_next_layer_2) (evB pd.tab (cl (k+1)) b_Comparison_next_layer_1) (es.map (rowD t p)) (nSt m g.length ly (some (pD p)) x4 x5 x6 x7) (g ++ [.dct (metD F)]) = .ok (.nx, nSt m g.length ly (some (pD p)) y4 y5 y6 y7) (g ++ [.dct (metD F')]))
  | [], F, x4, x5, x6, x7, _, I, hf, _ => by
    refine ⟨fun hist met' z => by simp [Two.scan] at z, fun met' z => ?_⟩
    simp only [Two.scan, Sum.inr.injEq] at z
    subst z
    exact ⟨hf, F, x4, x5, x6, x7, rfl, f_nil⟩
  | e :: es, F, x4, x5, x6, x7, heo, I, hf, hl => by
    simp only [List.length_cons] at hl
    have he := heo e (List.mem_cons_self ..)
    have heo' := fun x hx => heo x (List.mem_cons_of_mem _ hx)
    have C1 := C.ap [.dct (metD F)]
    have hfH : ∀ x ∈ H, t.Fit x.1 := fun x hx => hf x (List.mem_append_left _ hx)
    have hfF : ∀ x ∈ F, t.Fit x.1 := fun x hx => hf x (List.mem_append_right _ hx)
    have ndH : (keysM H).Nodup := by
      have := I.nd
      rw [keysM, List.map_append, List.nodup_append] at this
      exact this.1
    let σ1 : Sg := nSt m g.length ly (some (pD p)) (some e.d) (some (aD (t.m p e))) (some (aD (t.n p e))) (some (pD (t.nx p e)))
    have hg : evG pd.tab (cl (k+1)) g_Comparison_next_layer_2 (rowD t p e) (nSt m g.length ly (some (pD p)) x4 x5 x6 x7) (g ++ [.dct (metD F)]) = .ok σ1 (g ++ [.dct (metD F)]) := by
      simp only [g_Comparison_next_layer_2, rowD, evG, evGL, Res.bind]
      rfl
    have hal : evE pd.tab (cl (k+1)) (.fld (.var 0) 20) σ1 (g ++ [.dct (metD F)]) = .ok (.bl t.al) (g ++ [.dct (metD F)]) := e_fld (e_var rfl) C1.fl rfl rfl
    have hhs : evE pd.tab (cl (k+1)) (.fld (.var 0) 18) σ1 (g ++ [.dct (metD F)]) = .ok (.ref q) (g ++ [.dct (metD F)]) := e_fld (e_var rfl) C1.fl rfl rfl
    have hget : evE pd.tab (cl (k+1)) (.tup (.star (.dget (.fld (.var 0) 18) (.var 3)) (.cons (.var 4) .nil))) σ1 (g ++ [.dct (metD F)]) = .ok (hD (hp ++ [e])) (g ++ [.dct (metD F)]) := by
      have e1 : evE pd.tab (cl (k+1)) (.dget (.fld (.var 0) 18) (.var 3)) σ1 (g ++ [.dct (metD F)]) = .ok (hD hp) (g ++ [.dct (metD F)]) := by
        refine e_dget hhs (e_var rfl) ?_
        simp only [dgetD, C1.kv, pD_tkey, getK_met fp hfH, find_met ndH hm, Option.map_some]
      have e2 := e_tup (T := pd.tab) (cl := cl (k+1)) (qs (ys := hp.map Ev.d) e1 rfl (qa (e := .var 4) (d := e.d) (e_var rfl) q0)) (by rw [sizeLine_eq]; simp; omega)
      rw [e2]
      simp [hD]
    have hbd : evE pd.tab (cl (k+1)) (.ite (.fld (.var 0) 20) (.fn 27 (.cons (.var 5) (.cons (.var 6) .nil))) (.fn 26 (.cons (.var 5) (.cons (.var 6) .nil)))) σ1 (g ++ [.dct (metD F)]) = .ok (.bl (t.bd p e)) (g ++ [.dct (metD F)]) := by
      unfold Two.bd Two.bad
      cases ha : t.al with
      | true =>
        rw [ha] at hal
        rw [if_pos rfl]
        exact e_itet hal rfl (e_fn (qa (e_var rfl) (qa (e_var rfl) q0)) (p_breaksA k _ _ _))
      | false =>
        rw [ha] at hal
        rw [if_neg (by simp)]
        exact e_itef hal rfl (e_fn (qa (e_var rfl) (qa (e_var rfl) q0)) (p_breaksW k _ _ _))
    rw [List.map_cons]
    have fq := t.fit_nx ok fp he
    by_cases hb : t.bd p e = true
    · rw [hb] at hbd
      refine ⟨fun hist met' z => ?_, fun met' z => by simp [Two.scan, hb] at z⟩
      simp only [Two.scan, hb, if_true, Sum.inl.injEq, Prod.mk.injEq] at z
      obtain ⟨rfl, rfl⟩ := z
      have hset : (g ++ [O.dct (metD F)]).set m (.ins 5 (putF 17 (hD (hp ++ [e])) (cF t q fd))) = g.set m (.ins 5 (cF t q (hD (hp ++ [e])))) ++ [.dct (metD F)] := by
        rw [List.set_append_left _ _ C.lt.1]
        rfl
      have hbod : evB pd.tab (cl (k+1)) b_Comparison_next_layer_1 σ1 (g ++ [.dct (metD F)]) = .ok (.rt (.lst []), σ1) (g.set m (.ins 5 (cF t q (hD (hp ++ [e])))) ++ [.dct (metD F)]) :=
        b_rt (s_ift hbd rfl (b_nx (s_asg hget (g_att (e_var rfl) C1.c rfl hset)) (b_ret (e_lstT q0 (by simp [sizeLine])))))
      exact ⟨_, _, f_rt hg hbod⟩
    · have hb' : t.bd p e = false := by simpa using hb
      rw [hb'] at hbd
      have hgo : evE pd.tab (cl (k+1)) (.fn 28 (.cons (.var 5) (.cons (.fld (.var 0) 20) .nil))) σ1 (g ++ [.dct (metD F)]) = .ok (.bl (t.go p e)) (g ++ [.dct (metD F)]) := e_fn (qa (e_var rfl) (qa hal q0)) (p_goes k t _ _)
      have hd1 : evE pd.tab (cl (k+1)) (.din true (.var 7) (.fld (.var 0) 18)) σ1 (g ++ [.dct (metD F)]) = .ok (.bl (!has H (t.nx p e))) (g ++ [.dct (metD F)]) := by
        refine e_din (e_var rfl) hhs ?_
        simp only [dinD, C1.kv, pD_tkey, hasK_met fq hfH]
        cases has H (t.nx p e) <;> rfl
      have hd2 : evE pd.tab (cl (k+1)) (.din true (.var 7) (.var 2)) σ1 (g ++ [.dct (metD F)]) = .ok (.bl (!has F (t.nx p e))) (g ++ [.dct (metD F)]) := by
        refine e_din (e_var rfl) (e_var rfl) ?_
        simp only [dinD, frk, pD_tkey, hasK_met fq hfF]
        cases has F (t.nx p e) <;> rfl
      have hcond : evE pd.tab (cl (k+1)) (.and (.fn 28 (.cons (.var 5) (.cons (.fld (.var 0) 20) .nil))) (.and (.din true (.var 7) (.fld (.var 0) 18)) (.din true (.var 7) (.var 2)))) σ1 (g ++ [.dct (metD F)]) = .ok (.bl (t.go p e && !has (H ++ F) (t.nx p e))) (g ++ [.dct (metD F)]) := by
        rw [has_app]
        cases h1 : t.go p e with
        | false => rw [h1] at hgo; exact e_andf hgo rfl
        | true =>
          rw [h1] at hgo
          refine e_andt hgo rfl ?_
          cases h2 : has H (t.nx p e) with
          | true => rw [h2] at hd1; exact e_andf hd1 rfl
          | false =>
            rw [h2] at hd1
            exact e_andt hd1 rfl hd2
      by_cases hc : (t.go p e && !has (H ++ F) (t.nx p e)) = true
      · obtain ⟨c1, c2⟩ := Bool.and_eq_true_iff.mp hc
        have hn : has (H ++ F) (t.nx p e) = false := by simpa using c2
        have hnF : has F (t.nx p e) = false := by rw [has_app] at hn; exact (Bool.or_eq_false_iff.mp hn).2
        rw [hc] at hcond
        have hbod : evB pd.tab (cl (k+1)) b_Comparison_next_layer_1 σ1 (g ++ [.dct (metD F)]) = .ok (.nx, σ1) (g ++ [.dct (metD (F ++ [(t.nx p e, hp ++ [e])]))]) :=
          b_nx (s_iff hbd rfl q_nil) (b_nx (s_ift hcond rfl (b_nx (s_asg hget (g_dst (e_var rfl) (e_var rfl) (fr5 g F) (pD_tkey _) (by rw [met_len, sizeLine_eq]; omega) (fr_put g F _ _ (putN_met fq hfF hnF _)))) q_nil)) q_nil)
        have J : t.Inv (H ++ F ++ [(t.nx p e, hp ++ [e])]) := by
          refine ⟨?_, fun x hx => ?_, ?_⟩
          · rw [keysM, List.map_append, List.nodup_append]
            refine ⟨I.nd, by simp, fun a ha b hb2 => ?_⟩
            simp at hb2
            subst hb2
            intro z
            subst z
            have := (has_iff (H ++ F) _).mpr ha
            rw [hn] at this
            cases this
          · rcases List.mem_append.mp hx with hx | hx
            · exact I.run x hx
            · rw [List.mem_singleton.mp hx]
              exact t.runs_snoc e hp t.st p hr hb' c1
          · rw [keysM, List.map_append]
            exact List.mem_append_left _ I.st
        have hf2 : ∀ x ∈ H ++ (F ++ [(t.nx p e, hp ++ [e])]), t.Fit x.1 := fun x hx => by
          rw [← List.append_assoc] at hx
          rcases List.mem_append.mp hx with hx | hx
          · exact hf x hx
          · rw [List.mem_singleton.mp hx]; exact fq
        rw [List.append_assoc] at J
        obtain ⟨i1, i2⟩ := layer_in k t ok m q H fd g C ly p hp hr hpl fp hm es (F ++ [(t.nx p e, hp ++ [e])]) (some e.d) (some (aD (t.m p e))) (some (aD (t.n p e))) (some (pD (t.nx p e))) heo' J hf2 (by simp; omega)
        have hsc : t.scan p hp (e :: es) (H ++ F) = t.scan p hp es (H ++ (F ++ [(t.nx p e, hp ++ [e])])) := by simp [Two.scan, hb', hc]
        refine ⟨fun hist met' z => ?_, fun met' z => ?_⟩
        · rw [hsc] at z
          obtain ⟨σ', r, i3⟩ := i1 hist met' z
          exact ⟨σ', r, f_nx hg hbod i3⟩
        · rw [hsc] at z
          obtain ⟨i3, F', y4, y5, y6, y7, i5, i4⟩ := i2 met' z
          exact ⟨i3, F', y4, y5, y6, y7, i5, f_nx hg hbod i4⟩
      · have hc' : (t.go p e && !has (H ++ F) (t.nx p e)) = false := by simpa using hc
        rw [hc'] at hcond
        have hbod : evB pd.tab (cl (k+1)) b_Comparison_next_layer_1 σ1 (g ++ [.dct (metD F)]) = .ok (.nx, σ1) (g ++ [.dct (metD F)]) :=
          b_nx (s_iff hbd rfl q_nil) (b_nx (s_iff hcond rfl q_nil) q_nil)
        obtain ⟨i1, i2⟩ := layer_in k t ok m q H fd g C ly p hp hr hpl fp hm es F (some e.d) (some (aD (t.m p e))) (some (aD (t.n p e))) (some (pD (t.nx p e))) heo' I hf (by omega)
        have hsc : t.scan p hp (e :: es) (H ++ F) = t.scan p hp es (H ++ F) := by simp only [Two.scan, hb', hc']; simp
        refine ⟨fun hist met' z => ?_, fun met' z => ?_⟩
        · rw [hsc] at z
          obtain ⟨σ', r, i3⟩ := i1 hist met' z
          exact ⟨σ', r, f_nx hg hbod i3⟩
        · rw [hsc] at z
          obtain ⟨i3, F', y4, y5, y6, y7, i5, i4⟩ := i2 met' z
          exact ⟨i3, F', y4, y5, y6, y7, i5, f_nx hg hbod i4⟩
end K02

set_option Elab.async false
set_option linter.all false
set_option maxRecDepth 100000
set_option maxHeartbeats 1000000
namespace K02
open PySem PySem.Spec PyProof.Rows L2 He MC MP
theorem keys_cons (x : Pr × List Ev) (r : Met) : (keysM (x :: r)).map pD = pD x.1 :: (keysM r).map pD := rfl
theorem layer_out (k : Nat) (t : Two) (ok : t.Ok) (m q : Nat) (H : Met) (fd : D) (g : Hs) (C : CH t m q H fd g) (ly : D) (due : Option (List Ev)) (mF : Met) : ∀ (r : Met) (n j : Nat) (F : Met) (x3 x4 x5 x6 x7 : Option D), (∀ x ∈ r, x ∈ H) → (∀ i, i < r.length → (H ++ F)[j + i]? = r[i]?) → t.Inv (H ++ F) → (∀ x ∈ H ++ F, t.Fit x.1) → (∀ x ∈ H ++ F, x.2.length < (H ++ F).length) → (H ++ F).length ≤ 400 → t.srch n j (H ++ F) = some (due, mF) →
    (∃ hist σ' o, due = some hist ∧ loopF (evG pd.tab (cl (k+6)) g_Comparison_next_layer_1) (evB pd.tab (cl (k+6)) b_Comparison_next_layer_2) ((keysM r).map pD) (nSt m g.length ly x3 x4 x5 x6 x7) (g ++ [.dct (metD F)]) = .ok (.rt (.lst []), σ') (g.set m (.ins 5 (cF t q (hD hist))) ++ [o])) ∨
    (∃ F' y3 y4 y5 y6 y7, t.Inv (H ++ F') ∧ (∀ x ∈ H ++ F', t.Fit x.1) ∧ (∀ x ∈ H ++ F', x.2.length < (H ++ F').length) ∧ (H ++ F').length ≤ 400 ∧ r.length ≤ n ∧ t.srch (n - r.length) (j + r.length) (H ++ F') = some (due, mF) ∧ loopF (evG pd.tab (cl (k+6)) g_Comparison_next_layer_1) (evB pd.tab (cl (k+6)) b_Comparison_next_layer_2) ((keysM r).map pD) (nSt m g.length ly x3 x4 x5 x6 x7) (g ++ [.dct (metD F)]) = .ok (.nx, nSt m g.length ly y3 y4 y5 y6 y7) (g ++ [.dct (metD F')]))
  | [], n, j, F, x3, x4, x5, x6, x7, _, _, I, hf, hl, h4, z => .inr ⟨F, x3, x4, x5, x6, x7, I, hf, hl, h4, Nat.zero_le _, by simpa using z, f_nil⟩
  | (p, hp) :: r, 0, j, F, x3, x4, x5, x6, x7, _, _, I, hf, hl, h4, z => by cases z
  | (p, hp) :: r, n + 1, j, F, x3, x4, x5, x6, x7, hin, hr, I, hf, hl, h4, z => by
    have h0 := hr 0 (by simp)
    simp only [Nat.add_zero, List.getElem?_cons_zero] at h0
    have hmem : (p, hp) ∈ H := hin _ (List.mem_cons_self ..)
    have hmem2 : (p, hp) ∈ H ++ F := List.mem_append_left _ hmem
    have hrun := I.run _ hmem2
    have fp := hf _ hmem2
    have hpl := hl _ hmem2
    simp only at hrun fp hpl
    have f2 := ok.wa.f2
    have el := evs_len t.a
    have hlF : F.length ≤ (H ++ F).length := by simp
    obtain ⟨s1, s2⟩ := layer_in (k+5) t ok m q H fd g C ly p hp hrun (by omega) fp hmem (evs t.a) F x4 x5 x6 x7 (fun e he => evs_ok he) I hf (by omega)
    have C1 := C.ap [.dct (metD F)]
    have hg : evG pd.tab (cl (k+6)) g_Comparison_next_layer_1 (pD p) (nSt m g.length ly x3 x4 x5 x6 x7) (g ++ [.dct (metD F)]) = .ok (nSt m g.length ly (some (pD p)) x4 x5 x6 x7) (g ++ [.dct (metD F)]) := g_nm
    have hit : evI pd.tab (cl (k+6)) (.val (.fn 25 (.cons (.fld (.var 0) 23) (.cons (.fld (.var 0) 24) (.cons (.var 3) .nil))))) (nSt m g.length ly (some (pD p)) x4 x5 x6 x7) (g ++ [.dct (metD F)]) = .ok (.its ((evs t.a).map (rowD t p))) (g ++ [.dct (metD F)]) := by
      have a1 : evE pd.tab (cl (k+6)) (.fld (.var 0) 23) (nSt m g.length ly (some (pD p)) x4 x5 x6 x7) (g ++ [.dct (metD F)]) = .ok t.a.d (g ++ [.dct (metD F)]) := e_fld (e_var rfl) C1.fl rfl rfl
      have a2 : evE pd.tab (cl (k+6)) (.fld (.var 0) 24) (nSt m g.length ly (some (pD p)) x4 x5 x6 x7) (g ++ [.dct (metD F)]) = .ok t.b.d (g ++ [.dct (metD F)]) := e_fld (e_var rfl) C1.fl rfl rfl
      have a3 : evE pd.tab (cl (k+6)) (.var 3) (nSt m g.length ly (some (pD p)) x4 x5 x6 x7) (g ++ [.dct (metD F)]) = .ok (pD p) (g ++ [.dct (metD F)]) := e_var rfl
      have a4 : evE pd.tab (cl (k+6)) (.fn 25 (.cons (.fld (.var 0) 23) (.cons (.fld (.var 0) 24) (.cons (.var 3) .nil)))) (nSt m g.length ly (some (pD p)) x4 x5 x6 x7) (g ++ [.dct (metD F)]) = .ok (.lst ((evs t.a).map (rowD t p))) (g ++ [.dct (metD F)]) := e_fn (qa a1 (qa a2 (qa a3 q0))) (p_steps k t ok p fp _)
      simp only [evI]
      rw [a4]
      rfl
    rw [keys_cons]
    simp only [Two.srch, h0] at z
    cases q2 : t.scan p hp (evs t.a) (H ++ F) with
    | inl y =>
      obtain ⟨hist, m1⟩ := y
      rw [q2] at z
      simp only [Option.some.injEq, Prod.mk.injEq] at z
      obtain ⟨σ', o, s3⟩ := s1 hist m1 q2
      exact .inl ⟨hist, σ', o, z.1.symm, f_rt hg (b_rt (s_for hit s3))⟩
    | inr m1 =>
      rw [q2] at z
      simp only at z
      split at z
      · cases z
      · rename_i hbig
        obtain ⟨hf2, F', y4, y5, y6, y7, em, s3⟩ := s2 m1 q2
        obtain ⟨I2, ⟨x, ex⟩, _⟩ := (t.scan_inv p hp hrun (evs t.a) (H ++ F) I).2 m1 q2
        obtain ⟨l1, l2⟩ := t.scan_len p hp (evs t.a) (H ++ F) hl hpl m1 q2
        have hr' : ∀ i, i < r.length → m1[j + 1 + i]? = r[i]? := fun i hi => by
          have h1 := hr (i + 1) (by simp; omega)
          rw [List.getElem?_cons_succ] at h1
          have hlt : j + (i + 1) < (H ++ F).length := by
            have : r[i]? = some r[i] := List.getElem?_eq_getElem hi
            rw [this] at h1
            exact (List.getElem?_eq_some_iff.mp h1).1
          rw [ex, show j + 1 + i = j + (i + 1) by omega, List.getElem?_append_left hlt]
          exact h1
        subst em
        have hbod : evB pd.tab (cl (k+6)) b_Comparison_next_layer_2 (nSt m g.length ly (some (pD p)) x4 x5 x6 x7) (g ++ [.dct (metD F)]) = .ok (.nx, nSt m g.length ly (some (pD p)) y4 y5 y6 y7) (g ++ [.dct (metD F')]) := b_nx (s_for hit s3) q_nil
        rcases layer_out k t ok m q H fd g C ly due mF r n (j + 1) F' (some (pD p)) y4 y5 y6 y7 (fun x hx => hin x (List.mem_cons_of_mem _ hx)) hr' I2 hf2 l1 (by omega) z with ⟨hist, σ', o, a1, a2⟩ | ⟨F2, w3, w4, w5, w6, w7, a1, a2, a3, a4, a5, a6, a7⟩
        · exact .inl ⟨hist, σ', o, a1, f_nx hg hbod a2⟩
        · refine .inr ⟨F2, w3, w4, w5, w6, w7, a1, a2, a3, a4, by simp; omega, ?_, f_nx hg hbod a7⟩
          rw [List.length_cons, show n + 1 - (r.length + 1) = n - r.length by omega, show j + (r.length + 1) = j + 1 + r.length by omega]
          exact a6
theorem back_two {fz : Bool} {g g' : Hs} {d : D} (hd : d.nr = true) : back fz g d g' = .ok d g' ∨ (back fz g d g' = .ok d g ∧ g'.take g.length = g) := by
  unfold back
  split
  · exact .inl rfl
  · split
    · rename_i hc
      rw [frz_nr hd]
      rw [Bool.and_eq_true] at hc
      exact .inr ⟨rfl, Hs.eqb_eq hc.2⟩
    · exact .inl rfl
theorem take_get {g g' : Hs} {m : Nat} (e : g'.take g.length = g) (h : m < g.length) : g[m]? = g'[m]? := by
  have : (g'.take g.length)[m]? = g'[m]? := by rw [List.getElem?_take, if_pos h]
  rw [e] at this
  exact this
theorem CH.back {t : Two} {m q : Nat} {H : Met} {fd : D} {g g' : Hs} (C : CH t m q H fd g') (hm : m < g.length) (hq : q < g.length) (e : g'.take g.length = g) : CH t m q H fd g :=
  ⟨by rw [take_get e hm]; exact C.c, by rw [take_get e hq]; exact C.d⟩
end K02

set_option Elab.async false
set_option linter.all false
set_option maxRecDepth 100000
set_option maxHeartbeats 1000000
namespace K02
open PySem PySem.Spec PyProof.Rows L2 He MC MP
section
variable {T : Tab} {cf : Nat → List D → Hs → Res D} {σ : Sg} {h h1 h2 h3 : Hs}
theorem e_dnew : evE T cf .dnew σ h = .ok (.ref h.length) (h ++ [.dct []]) := by simp only [evE]
theorem e_dupd {a b : E} {n : Nat} {y : D} {kvs0 kvs more : List (D × D)} (e1 : evE T cf a σ h = .ok (.ref n) h1) (e2 : (D.ref n).kvs h1 = some kvs0) (e3 : evE T cf b σ h1 = .ok y h2) (e4 : y.kvs h2 = some more) (e5 : h2[n]? = some (.dct kvs)) (hc : (!kvs.isEmpty && decide (kvs.length + more.length ≤ sizeLine) && notRef n y) = true) (e6 : h2.set n (.dct (mergeN kvs more)) = h3) : evE T cf (.dupd a b) σ h = .ok .non h3 := by
  simp only [evE, e1, e2, e3, Res.bind, updM, e4, e5, hc, if_true, e6]
theorem e_done {a b : E} {x y : D} {k : NestedKey} (e1 : evE T cf a σ (h ++ [.dct []]) = .ok x (h ++ [.dct []])) (e2 : evE T cf b σ (h ++ [.dct []]) = .ok y (h ++ [.dct []])) (e3 : x.tkey = some k) : evE T cf (.done a b) σ h = .ok (.ref h.length) (h ++ [.dct (putN x k y [])]) := by
  have e4 : (h ++ [O.dct []])[h.length]? = some (.dct []) := by simp
  simp only [evE, e1, e2, Res.bind, storeM, e4, e3]
  simp [sizeLine]
end
theorem merge_met {t : Two} : ∀ (F H : Met), (∀ x ∈ H ++ F, t.Fit x.1) → (keysM (H ++ F)).Nodup → mergeN (metD H) (metD F) = metD (H ++ F)
  | [], H, _, _ => by simp [mergeN, metD]
  | x :: F, H, hf, nd => by
    obtain ⟨p, es⟩ := x
    have hp : t.Fit p := hf (p, es) (by simp)
    have hn : has H p = false := by
      cases q : has H p with
      | false => rfl
      | true =>
        have := (has_iff H p).mp q
        rw [keysM, List.map_append, List.nodup_append] at nd
        exact absurd rfl (nd.2.2 p this p (by simp))
    have e : H ++ (p, es) :: F = (H ++ [(p, es)]) ++ F := by simp
    show (match (pD p).tkey with
      | some k => mergeN (putN (pD p) k (hD es) (metD H)) (metD F)
      | none => metD H) = _
    rw [pD_tkey]
    simp only
    rw [putN_met hp (fun y hy => hf y (List.mem_append_left _ hy)) hn, e]
    rw [e] at hf nd
    exact merge_met F _ hf nd
/-- what one layer does -/
theorem p_next (k : Nat) (t : Two) (ok : t.Ok) (h : Hs) (H : Met) (g : Hs) (C : CH t h.length (h.length+1) H .non g) (ext : ∃ w, g = h ++ w) (due : Option (List Ev)) (mF : Met) (r : Met) (n j : Nat) (hin : ∀ x ∈ r, x ∈ H) (hpos : ∀ i, i < r.length → H[j + i]? = r[i]?) (I : t.Inv H) (hf : ∀ x ∈ H, t.Fit x.1) (hl : ∀ x ∈ H, x.2.length < H.length) (h4 : H.length ≤ 400) (z : t.srch n j H = some (due, mF)) :
    (∃ hist g', due = some hist ∧ cl (k+7) 30 [.ref h.length, .lst ((keysM r).map pD)] g = .ok (.lst []) g' ∧ CH t h.length (h.length+1) H (hD hist) g' ∧ ∃ w, g' = h ++ w) ∨
    (∃ F g', t.Inv (H ++ F) ∧ (∀ x ∈ H ++ F, t.Fit x.1) ∧ (∀ x ∈ H ++ F, x.2.length < (H ++ F).length) ∧ (H ++ F).length ≤ 400 ∧ r.length ≤ n ∧ t.srch (n - r.length) (j + r.length) (H ++ F) = some (due, mF) ∧ cl (k+7) 30 [.ref h.length, .lst ((keysM r).map pD)] g = .ok (.lst ((keysM F).map pD)) g' ∧ CH t h.length (h.length+1) (H ++ F) .non g' ∧ ∃ w, g' = h ++ w) := by
  have e0 : evS pd.tab (cl (k+6)) (.asg (.nm 2) .dnew) (startM 8 [.ref h.length, .lst ((keysM r).map pD)]) g = .ok (.nx, nSt h.length g.length (.lst ((keysM r).map pD)) none none none none none) (g ++ [.dct (metD [])]) := s_set e_dnew
  have hit : evI pd.tab (cl (k+6)) (.val (.var 1)) (nSt h.length g.length (.lst ((keysM r).map pD)) none none none none none) (g ++ [.dct (metD [])]) = .ok (.its ((keysM r).map pD)) (g ++ [.dct (metD [])]) := by
    have a : evE pd.tab (cl (k+6)) (.var 1) (nSt h.length g.length (.lst ((keysM r).map pD)) none none none none none) (g ++ [.dct (metD [])]) = .ok (.lst ((keysM r).map pD)) (g ++ [.dct (metD [])]) := e_var rfl
    simp only [evI]
    rw [a]
    rfl
  have hlt := C.lt
  obtain ⟨w, ew⟩ := ext
  rcases layer_out k t ok h.length (h.length+1) H .non g C (.lst ((keysM r).map pD)) due mF r n j [] none none none none none hin (by simpa using hpos) (by simpa using I) (by simpa using hf) (by simpa using hl) (by simpa using h4) (by simpa using z) with ⟨hist, σ', o, a1, a2⟩ | ⟨F, w3, w4, w5, w6, w7, a1, a2, a3, a4, a5, a6, a7⟩
  · left
    have e5 := call_rt (k := k + 6) (xs := [.ref h.length, .lst ((keysM r).map pD)]) F_Comparison_next_layer rfl (b_nx e0 (b_rt (s_for hit a2)))
    have C2 : CH t h.length (h.length+1) H (hD hist) (g.set h.length (.ins 5 (cF t (h.length+1) (hD hist))) ++ [o]) := by
      refine ⟨?_, ?_⟩
      · rw [List.getElem?_append_left (by rw [List.length_set]; exact hlt.1), List.getElem?_set_self hlt.1]
      · rw [List.getElem?_append_left (by rw [List.length_set]; exact hlt.2), List.getElem?_set_ne (by omega)]
        exact C.d
    rw [e5]
    rcases back_two (fz := f_Comparison_next_layer.fz) (g := g) (g' := g.set h.length (.ins 5 (cF t (h.length+1) (hD hist))) ++ [o]) (d := .lst []) rfl with b | ⟨b, c⟩
    · refine ⟨hist, _, a1, b, C2, ?_⟩
      rw [ew, List.set_append_right _ _ (Nat.le_refl _), List.append_assoc]
      exact ⟨_, rfl⟩
    · exact ⟨hist, _, a1, b, C2.back hlt.1 hlt.2 c, w, ew⟩
  · right
    have C1 := C.ap [.dct (metD F)]
    let σ1 : Sg := nSt h.length g.length (.lst ((keysM r).map pD)) w3 w4 w5 w6 w7
    have hset : (g ++ [O.dct (metD F)]).set (h.length+1) (.dct (mergeN (metD H) (metD F))) = g.set (h.length+1) (.dct (metD (H ++ F))) ++ [.dct (metD F)] := by
      rw [merge_met (t := t) F H a2 a1.nd, List.set_append_left _ _ hlt.2]
    have hne : (metD H).isEmpty = false := by
      have := I.st
      cases H with
      | nil => cases this
      | cons x H => rfl
    have hlF : F.length ≤ (H ++ F).length := by simp
    have hup : evS pd.tab (cl (k+6)) (.exp (.dupd (.fld (.var 0) 18) (.var 2))) σ1 (g ++ [.dct (metD F)]) = .ok (.nx, σ1) (g.set (h.length+1) (.dct (metD (H ++ F))) ++ [.dct (metD F)]) := by
      have a : evE pd.tab (cl (k+6)) (.fld (.var 0) 18) σ1 (g ++ [.dct (metD F)]) = .ok (.ref (h.length+1)) (g ++ [.dct (metD F)]) := e_fld (e_var rfl) C1.fl rfl rfl
      refine s_exp (e_dupd a C1.kv (e_var rfl) (frk g F) C1.d ?_ hset)
      rw [hne, met_len, met_len]
      have : notRef (h.length+1) (.ref g.length) = true := by
        simp [notRef]
        omega
      rw [this]
      simp [sizeLine_eq]
      omega
    have C2 : CH t h.length (h.length+1) (H ++ F) .non (g.set (h.length+1) (.dct (metD (H ++ F))) ++ [.dct (metD F)]) := by
      refine ⟨?_, ?_⟩
      · rw [List.getElem?_append_left (by rw [List.length_set]; exact hlt.1), List.getElem?_set_ne (by omega)]
        exact C.c
      · rw [List.getElem?_append_left (by rw [List.length_set]; exact hlt.2), List.getElem?_set_self hlt.2]
    have hfr : (D.ref g.length).kvs (g.set (h.length+1) (.dct (metD (H ++ F))) ++ [.dct (metD F)]) = some (metD F) := by
      have : g.length = (g.set (h.length+1) (O.dct (metD (H ++ F)))).length := by rw [List.length_set]
      rw [this]
      exact frk _ F
    have hgt : evE pd.tab (cl (k+6)) (.cmp .Gt (.dlen (.fld (.var 0) 18)) (.glo 3 (.int 3000))) σ1 (g.set (h.length+1) (.dct (metD (H ++ F))) ++ [.dct (metD F)]) = .ok (.bl false) (g.set (h.length+1) (.dct (metD (H ++ F))) ++ [.dct (metD F)]) := by
      have a : evE pd.tab (cl (k+6)) (.fld (.var 0) 18) σ1 (g.set (h.length+1) (.dct (metD (H ++ F))) ++ [.dct (metD F)]) = .ok (.ref (h.length+1)) (g.set (h.length+1) (.dct (metD (H ++ F))) ++ [.dct (metD F)]) := e_fld (e_var rfl) C2.fl rfl rfl
      have b := e_dlen a C2.kv
      rw [met_len] at b
      refine e_cmp b e_glo ?_
      show some (D.bl (decide ((3000 : Int) < ((H ++ F).length : Int)))) = _
      rw [decide_eq_false (by omega)]
    have hret : evB pd.tab (cl (k+6)) (.cons (.ret (.dlst true (.var 2))) .nil) σ1 (g.set (h.length+1) (.dct (metD (H ++ F))) ++ [.dct (metD F)]) = .ok (.rt (.lst ((keysM F).map pD)), σ1) (g.set (h.length+1) (.dct (metD (H ++ F))) ++ [.dct (metD F)]) := by
      have b := e_dlst (T := pd.tab) (cf := cl (k+6)) (σ := σ1) (a := .var 2) (e_var rfl) hfr
      rw [keys_metD] at b
      exact b_ret b
    have e5 := call_rt (k := k + 6) (xs := [.ref h.length, .lst ((keysM r).map pD)]) F_Comparison_next_layer rfl (b_nx e0 (b_nx (s_for hit a7) (b_nx hup (b_nx (s_iff hgt rfl q_nil) hret))))
    rw [e5]
    rcases back_two (fz := f_Comparison_next_layer.fz) (g := g) (g' := g.set (h.length+1) (.dct (metD (H ++ F))) ++ [.dct (metD F)]) (pDl_nr (keysM F)) with b | ⟨b, c⟩
    · refine ⟨F, _, a1, a2, a3, a4, a5, a6, b, C2, ?_⟩
      rw [ew, List.set_append_right _ _ (by omega), List.append_assoc]
      exact ⟨_, rfl⟩
    · exact ⟨F, _, a1, a2, a3, a4, a5, a6, b, C2.back hlt.1 hlt.2 c, w, ew⟩
end K02

set_option Elab.async false
set_option linter.all false
set_option maxRecDepth 100000
set_option maxHeartbeats 1000000
namespace K02
open PySem PySem.Spec PyProof.Rows L2 He MC MP
theorem fuel_ok3 : 403 ≤ pd.tab.fuel := by decide +kernel
def iSt (t : Two) (m : Nat) (ly : D) : Sg := [some (.ref m), some t.a.d, some t.b.d, some (.bl t.al), some (pD t.st), some ly]
def iCond : E := (.and (.cmp .NotEq (.var 5) (.lst true .nil)) (.cmp .Is (.fld (.var 0) 17) (.cst .non)))
def iBody : B := (.cons (.asg (.nm 5) (.mth 22 (.var 0) (.cons (.var 5) .nil))) .nil)
theorem init_while (k : Nat) (t : Two) (ok : t.Ok) (h : Hs) (due : Option (List Ev)) (mF : Met) : ∀ (fu n j : Nat) (H r : Met) (g : Hs), CH t h.length (h.length+1) H .non g → (∃ w, g = h ++ w) → (∀ x ∈ r, x ∈ H) → (∀ i, i < r.length → H[j + i]? = r[i]?) → j + r.length = H.length → t.Inv H → (∀ x ∈ H, t.Fit x.1) → (∀ x ∈ H, x.2.length < H.length) → H.length ≤ 400 → t.srch n j H = some (due, mF) → n + 1 ≤ fu →
    ∃ ly g' Hf, loopW (fun σ h => (evE pd.tab (cl (k+7)) iCond σ h).bind tst) (evB pd.tab (cl (k+7)) iBody) fu (iSt t h.length (.lst ((keysM r).map pD))) g = .ok (.nx, iSt t h.length ly) g' ∧ CH t h.length (h.length+1) Hf (dueD due) g' ∧ (∃ w, g' = h ++ w) ∧ (due = none → Hf = mF ∧ Hf.length ≤ 400 ∧ (∀ x ∈ Hf, t.Fit x.1))
  | 0, n, j, H, r, g, C, ext, hin, hpos, hj, I, hf, hl, h4, z, hfu => absurd hfu (by omega)
  | fu + 1, 0, j, H, r, g, C, ext, hin, hpos, hj, I, hf, hl, h4, z, hfu => by cases z
  | fu + 1, n + 1, j, H, [], g, C, ext, hin, hpos, hj, I, hf, hl, h4, z, hfu => by
    have e1 : evE pd.tab (cl (k+7)) (.cmp .NotEq (.var 5) (.lst true .nil)) (iSt t h.length (.lst ((keysM []).map pD))) g = .ok (.bl false) g := e_cmp (e_var rfl) (e_lstT q0 (by simp [sizeLine])) (ne_nil_lst (qs := []))
    have e2 : evE pd.tab (cl (k+7)) iCond (iSt t h.length (.lst ((keysM []).map pD))) g = .ok (.bl false) g := e_andf e1 rfl
    have e3 : (fun σ h => (evE pd.tab (cl (k+7)) iCond σ h).bind tst) (iSt t h.length (.lst ((keysM []).map pD))) g = .ok false g := by
      simp only [e2, Res.bind, tst, tru, Res.of]
    have hn : H[j]? = none := List.getElem?_eq_none_iff.mpr (by simp at hj; omega)
    simp only [Two.srch, hn, Option.some.injEq, Prod.mk.injEq] at z
    obtain ⟨rfl, rfl⟩ := z
    exact ⟨_, g, H, w_end e3, C, ext, fun _ => ⟨rfl, h4, hf⟩⟩
  | fu + 1, n + 1, j, H, x :: r, g, C, ext, hin, hpos, hj, I, hf, hl, h4, z, hfu => by
    have e1 : evE pd.tab (cl (k+7)) (.cmp .NotEq (.var 5) (.lst true .nil)) (iSt t h.length (.lst ((keysM (x :: r)).map pD))) g = .ok (.bl true) g := e_cmp (e_var rfl) (e_lstT q0 (by simp [sizeLine])) (ne_nil_lst (qs := keysM (x :: r)))
    have e1b : evE pd.tab (cl (k+7)) (.cmp .Is (.fld (.var 0) 17) (.cst .non)) (iSt t h.length (.lst ((keysM (x :: r)).map pD))) g = .ok (.bl true) g := e_cmp (x := .non) (y := .non) (e_fld (e_var rfl) C.fl rfl rfl) e_cst rfl
    have e2 : evE pd.tab (cl (k+7)) iCond (iSt t h.length (.lst ((keysM (x :: r)).map pD))) g = .ok (.bl true) g := e_andt e1 rfl e1b
    have e3 : (fun σ h => (evE pd.tab (cl (k+7)) iCond σ h).bind tst) (iSt t h.length (.lst ((keysM (x :: r)).map pD))) g = .ok true g := by
      simp only [e2, Res.bind, tst, tru, Res.of]
    rcases p_next k t ok h H g C ext due mF (x :: r) (n + 1) j hin hpos I hf hl h4 z with ⟨hist, g', a1, a2, a3, a4⟩ | ⟨F, g', a1, a2, a3, a4, a5, a6, a7, a8, a9⟩
    · have hbod : evB pd.tab (cl (k+7)) iBody (iSt t h.length (.lst ((keysM (x :: r)).map pD))) g = .ok (.nx, iSt t h.length (.lst [])) g' := b_nx (s_set (e_mth (e_var rfl) C.fl rfl rfl (qa (e_var rfl) q0) C.fl a2)) q_nil
      have f1 : evE pd.tab (cl (k+7)) (.cmp .NotEq (.var 5) (.lst true .nil)) (iSt t h.length (.lst [])) g' = .ok (.bl false) g' := e_cmp (e_var rfl) (e_lstT q0 (by simp [sizeLine])) (ne_nil_lst (qs := []))
      have f2 : evE pd.tab (cl (k+7)) iCond (iSt t h.length (.lst [])) g' = .ok (.bl false) g' := e_andf f1 rfl
      have f3 : (fun σ h => (evE pd.tab (cl (k+7)) iCond σ h).bind tst) (iSt t h.length (.lst [])) g' = .ok false g' := by
        simp only [f2, Res.bind, tst, tru, Res.of]
      obtain ⟨fu', rfl⟩ : ∃ fu', fu = fu' + 1 := ⟨fu - 1, by omega⟩
      subst a1
      exact ⟨_, g', H, w_nx e3 hbod (w_end f3), a3, a4, fun h => by cases h⟩
    · have hbod : evB pd.tab (cl (k+7)) iBody (iSt t h.length (.lst ((keysM (x :: r)).map pD))) g = .ok (.nx, iSt t h.length (.lst ((keysM F).map pD))) g' := b_nx (s_set (e_mth (e_var rfl) C.fl rfl rfl (qa (e_var rfl) q0) C.fl a7)) q_nil
      obtain ⟨ly, g2, Hf, b1, b2, b3, b4⟩ := init_while k t ok h due mF fu (n + 1 - (x :: r).length) (j + (x :: r).length) (H ++ F) F g' a8 a9 (fun y hy => List.mem_append_right _ hy) (fun i hi => by rw [hj, List.getElem?_append_right (by omega)]; congr 1; omega) (by rw [hj]; simp) a1 a2 a3 a4 a6 (by simp at a5 ⊢; omega)
      exact ⟨ly, g2, Hf, w_nx e3 hbod b1, b2, b3, b4⟩
end K02

set_option Elab.async false
set_option linter.all false
set_option maxRecDepth 100000
set_option maxHeartbeats 1000000
namespace K02
open PySem PySem.Spec PyProof.Rows L2 He MC MP
theorem g_self {cf : Nat → List D → Hs → Res D} {σ : Sg} {h w : Hs} {f : Nat} {d : D} {fs fs' : List (Nat × D)} (e : σ[0]? = some (some (.ref h.length))) (k : (pd.tab.fok 5 f && decide (fs.length < 900)) = true) (ef : putF f d fs = fs') : evG pd.tab cf (.att (.var 0) f) d σ (h ++ .ins 5 fs :: w) = .ok σ (h ++ .ins 5 fs' :: w) := by
  refine g_att (e_var e) (by simp) k ?_
  rw [ef]
  simp
theorem p_compInit (k : Nat) (t : Two) (ok : t.Ok) (h : Hs) (due : Option (List Ev)) (mF : Met) (z : t.srch 402 0 t.met0 = some (due, mF)) :
    ∃ g' Hf, cl (k+8) 29 [.ref h.length, t.a.d, t.b.d, .bl t.al] (h ++ [.ins 5 []]) = .ok .non g' ∧ CH t h.length (h.length+1) Hf (dueD due) g' ∧ (∃ w, g' = h ++ w) ∧ (due = none → Hf = mF ∧ Hf.length ≤ 400 ∧ (∀ x ∈ Hf, t.Fit x.1)) := by
  obtain ⟨r1a, r3a, f1a, f2a, _⟩ := ok.wa
  obtain ⟨r1b, r3b, f1b, f2b, _⟩ := ok.wb
  let σ0 : Sg := [some (.ref h.length), some t.a.d, some t.b.d, some (.bl t.al), none, none]
  let σ1 : Sg := [some (.ref h.length), some t.a.d, some t.b.d, some (.bl t.al), some (pD t.st), none]
  let f3 : List (Nat × D) := [(23, t.a.d), (24, t.b.d), (20, .bl t.al)]
  have e1 : evS pd.tab (cl (k+7)) (.asg (.att (.var 0) 23) (.var 1)) σ0 (h ++ [.ins 5 []]) = .ok (.nx, σ0) (h ++ [.ins 5 [(23, t.a.d)]]) := s_asg (e_var rfl) (g_self (w := []) rfl rfl rfl)
  have e2 : evS pd.tab (cl (k+7)) (.asg (.att (.var 0) 24) (.var 2)) σ0 (h ++ [.ins 5 [(23, t.a.d)]]) = .ok (.nx, σ0) (h ++ [.ins 5 [(23, t.a.d), (24, t.b.d)]]) := s_asg (e_var rfl) (g_self (w := []) rfl rfl rfl)
  have e3 : evS pd.tab (cl (k+7)) (.asg (.att (.var 0) 20) (.var 3)) σ0 (h ++ [.ins 5 [(23, t.a.d), (24, t.b.d)]]) = .ok (.nx, σ0) (h ++ [.ins 5 f3]) := s_asg (e_var rfl) (g_self (w := []) rfl rfl rfl)
  have e4 : evS pd.tab (cl (k+7)) (.asg (.nm 4) (.tup (.cons (.fn 17 (.cons (.var 1) .nil)) (.cons (.fn 17 (.cons (.var 2) .nil)) .nil)))) σ0 (h ++ [.ins 5 f3]) = .ok (.nx, σ1) (h ++ [.ins 5 f3]) :=
    s_set (e_tup (qa (e_fn (qa (e_var rfl) q0) (p_firstS (k+5) t.a _ f1a (by omega) (by omega))) (qa (e_fn (qa (e_var rfl) q0) (p_firstS (k+5) t.b _ f1b (by omega) (by omega))) q0)) (by simp [sizeLine]))
  have em : putN (pD t.st) (kPr t.st) (.tup []) [] = metD t.met0 := by
    simp [putN, hasK, getK, metD, Two.met0, hD]
  have e5 : evS pd.tab (cl (k+7)) (.asg (.att (.var 0) 18) (.done (.var 4) (.tup .nil))) σ1 (h ++ [.ins 5 f3]) = .ok (.nx, σ1) (h ++ [.ins 5 [(23, t.a.d), (24, t.b.d), (20, .bl t.al), (18, .ref (h.length+1))], .dct (metD t.met0)]) := by
    have a := e_done (T := pd.tab) (cf := cl (k+7)) (σ := σ1) (h := h ++ [.ins 5 f3]) (a := .var 4) (b := .tup .nil) (e_var rfl) (e_tup q0 (by simp [sizeLine])) (pD_tkey t.st)
    rw [em, show (h ++ [O.ins 5 f3]).length = h.length + 1 by simp, List.append_assoc] at a
    exact s_asg a (g_self (w := [.dct (metD t.met0)]) rfl rfl rfl)
  let g0 : Hs := h ++ [.ins 5 (cF t (h.length+1) .non), .dct (metD t.met0)]
  have e6 : evS pd.tab (cl (k+7)) (.asg (.att (.var 0) 17) (.cst .non)) σ1 (h ++ [.ins 5 [(23, t.a.d), (24, t.b.d), (20, .bl t.al), (18, .ref (h.length+1))], .dct (metD t.met0)]) = .ok (.nx, σ1) g0 := s_asg e_cst (g_self (w := [.dct (metD t.met0)]) rfl rfl rfl)
  have e7 : evS pd.tab (cl (k+7)) (.asg (.nm 5) (.lst true (.cons (.var 4) .nil))) σ1 g0 = .ok (.nx, iSt t h.length (.lst ((keysM t.met0).map pD))) g0 := s_set (e_lstT (qa (e_var rfl) q0) (by simp [sizeLine, keysM, Two.met0]))
  have C : CH t h.length (h.length+1) t.met0 .non g0 := ⟨by simp [g0], by simp [g0]⟩
  obtain ⟨ly, g', Hf, b1, b2, b3, b4⟩ := init_while k t ok h due mF pd.tab.fuel 402 0 t.met0 t.met0 g0 C ⟨_, rfl⟩ (fun x hx => hx) (fun i _ => by simp) (by simp) t.inv0 (t.fits0 ok) (fun x hx => by simp [Two.met0] at hx; subst hx; simp [Two.met0]) (by simp [Two.met0]) z fuel_ok3
  refine ⟨g', Hf, ?_, b2, b3, b4⟩
  have e9 := call_nx (k := k + 7) (xs := [.ref h.length, t.a.d, t.b.d, .bl t.al]) F_Comparison_init rfl (b_nx e1 (b_nx e2 (b_nx e3 (b_nx e4 (b_nx e5 (b_nx e6 (b_nx e7 (b_nx (s_whl b1) q_nil))))))))
  rw [e9]
  show back false _ _ _ = _
  unfold back
  split <;> simp
end K02

set_option Elab.async false
set_option linter.all false
set_option maxRecDepth 100000
set_option maxHeartbeats 1000000
namespace K02
open PySem PySem.Spec PyProof.Rows L2 He MC MP
def listD (al : Bool) (ps : List Pr) : D := .ins (if al then 8 else 6) [(25, .lst (ps.map pD))]
def histD (al : Bool) (h : List Ev) : D := .ins (if al then 9 else 7) [(19, hD h)]
theorem g_put {cf : Nat → List D → Hs → Res D} {σ : Sg} {h : Hs} {c f : Nat} {d : D} (e : σ[0]? = some (some (.ref h.length))) (k : pd.tab.fok c f = true) : evG pd.tab cf (.att (.var 0) f) d σ (h ++ [.ins c []]) = .ok σ (h ++ [.ins c [(f, d)]]) := by
  refine g_att (c := c) (fs := []) (e_var e) (by simp) (by rw [k]; rfl) ?_
  simp [MC.putF]
theorem c_list (k : Nat) (al : Bool) (ps : List Pr) (h : Hs) : cl (k+1) (if al then 39 else 33) [.ref h.length, .lst (ps.map pD)] (h ++ [.ins (if al then 8 else 6) []]) = .ok .non (h ++ [.ins (if al then 8 else 6) [(25, .lst (ps.map pD))]]) := by
  cases al with
  | true =>
    have e := call_nx (k := k) (xs := [.ref h.length, .lst (ps.map pD)]) (h := h ++ [.ins 8 []]) F_Alike_init rfl (b_nx (s_asg (e_bi (d := .lst (ps.map pD)) (qa (e_var rfl) q0) rfl) (g_put (c := 8) rfl rfl)) q_nil)
    rw [if_pos rfl, if_pos rfl, e]
    exact back_no
  | false =>
    have e := call_nx (k := k) (xs := [.ref h.length, .lst (ps.map pD)]) (h := h ++ [.ins 6 []]) F_Within_init rfl (b_nx (s_asg (e_bi (d := .lst (ps.map pD)) (qa (e_var rfl) q0) rfl) (g_put (c := 6) rfl rfl)) q_nil)
    rw [if_neg (by simp), if_neg (by simp), e]
    exact back_no
theorem c_hist (k : Nat) (al : Bool) (es : List Ev) (h : Hs) : cl (k+1) (if al then 42 else 36) [.ref h.length, hD es] (h ++ [.ins (if al then 9 else 7) []]) = .ok .non (h ++ [.ins (if al then 9 else 7) [(19, hD es)]]) := by
  cases al with
  | true =>
    have e := call_nx (k := k) (xs := [.ref h.length, hD es]) (h := h ++ [.ins 9 []]) F_Apart_init rfl (b_nx (s_asg (e_var rfl) (g_put (c := 9) rfl rfl)) q_nil)
    rw [if_pos rfl, if_pos rfl, e]
    exact back_no
  | false =>
    have e := call_nx (k := k) (xs := [.ref h.length, hD es]) (h := h ++ [.ins 7 []]) F_Escapes_init rfl (b_nx (s_asg (e_var rfl) (g_put (c := 7) rfl rfl)) q_nil)
    rw [if_neg (by simp), if_neg (by simp), e]
    exact back_no
theorem m_list {k : Nat} (al : Bool) {a : E} {ps : List Pr} {σ : Sg} {h h1 : Hs} (e : evE pd.tab (cl (k+1)) a σ h = .ok (.lst (ps.map pD)) h1) : evE pd.tab (cl (k+1)) (.mk (if al then 8 else 6) 1 (.cons a .nil) .nil) σ h = .ok (listD al ps) h1 := by
  have z := c_list k al ps h1
  refine e_mk (fz := true) (zs := [.lst (ps.map pD)]) (qa e q0) q0 (show pd.tab.init _ = some (if al then 39 else 33, true) by cases al <;> decide +kernel) rfl z (back_ins (by simp; exact pDl_nr ps))
theorem m_hist {k : Nat} (al : Bool) {a : E} {es : List Ev} {σ : Sg} {h h1 : Hs} (e : evE pd.tab (cl (k+1)) a σ h = .ok (hD es) h1) : evE pd.tab (cl (k+1)) (.mk (if al then 9 else 7) 1 (.cons a .nil) .nil) σ h = .ok (histD al es) h1 := by
  have z := c_hist k al es h1
  refine e_mk (fz := true) (zs := [hD es]) (qa e q0) q0 (show pd.tab.init _ = some (if al then 42 else 36, true) by cases al <;> decide +kernel) rfl z (back_ins (by simp; exact hD_nr es))
end K02

set_option Elab.async false
set_option linter.all false
set_option maxRecDepth 100000
set_option maxHeartbeats 1000000
namespace K02
open PySem PySem.Spec PyProof.Rows L2 He MC MP
def cBody (al : Bool) : B := (.cons (.exp (.fn 24 (.cons (.var 0) (.cons (.var 1) .nil)))) (.cons (.asg (.nm 2) (.mk 5 0 (.cons (.var 0) (.cons (.var 1) (.cons (.cst (.bl al)) .nil))) .nil)) (.cons (.ret (.ite (.cmp .Is (.fld (.var 2) 17) (.cst .non)) (.mk (if al then 8 else 6) 1 (.cons (.dlst true (.fld (.var 2) 18)) .nil) .nil) (.mk (if al then 9 else 7) 1 (.cons (.fld (.var 2) 17) .nil) .nil))) .nil)))
def ansT (al : Bool) (due : Option (List Ev)) (mF : Met) : D := match due with
  | none => listD al (keysM mF)
  | some es => histD al es
theorem ansT_nr (al : Bool) (due : Option (List Ev)) (mF : Met) : (ansT al due mF).nr = true := by
  cases due with
  | none =>
    have := pDl_nr (keysM mF)
    simp [ansT, listD, D.nr, D.nrF] at this ⊢
    exact this
  | some es =>
    have := hD_nr es
    simp [ansT, histD, D.nr, D.nrF, this]
theorem cBody_ok (k : Nat) (t : Two) (ok : t.Ok) (h : Hs) (due : Option (List Ev)) (mF : Met) (z : t.srch 402 0 t.met0 = some (due, mF)) : ∃ σ w, evB pd.tab (cl (k+8)) (cBody t.al) [some t.a.d, some t.b.d, none] h = .ok (.rt (ansT t.al due mF), σ) (h ++ w) := by
  obtain ⟨g', Hf, i1, C, ⟨w, ew⟩, i2⟩ := p_compInit k t ok h due mF z
  have e1 : evS pd.tab (cl (k+8)) (.exp (.fn 24 (.cons (.var 0) (.cons (.var 1) .nil)))) [some t.a.d, some t.b.d, none] h = .ok (.nx, [some t.a.d, some t.b.d, none]) h := s_exp (e_fn (qa (e_var rfl) (qa (e_var rfl) q0)) (p_checkTwo (k+6) t ok h))
  have e2 : evS pd.tab (cl (k+8)) (.asg (.nm 2) (.mk 5 0 (.cons (.var 0) (.cons (.var 1) (.cons (.cst (.bl t.al)) .nil))) .nil)) [some t.a.d, some t.b.d, none] h = .ok (.nx, [some t.a.d, some t.b.d, some (.ref h.length)]) g' :=
    s_set (e_mk (fz := false) (zs := [t.a.d, t.b.d, .bl t.al]) (qa (e_var rfl) (qa (e_var rfl) (qa e_cst q0))) q0 (show pd.tab.init 5 = some (29, false) by decide +kernel) rfl i1 back_no)
  have e3 : evE pd.tab (cl (k+8)) (.fld (.var 2) 17) [some t.a.d, some t.b.d, some (.ref h.length)] g' = .ok (dueD due) g' := e_fld (e_var rfl) C.fl rfl rfl
  have e4 : evE pd.tab (cl (k+8)) (.fld (.var 2) 18) [some t.a.d, some t.b.d, some (.ref h.length)] g' = .ok (.ref (h.length+1)) g' := e_fld (e_var rfl) C.fl rfl rfl
  subst ew
  refine ⟨_, w, b_nx e1 (b_nx e2 (b_ret ?_))⟩
  cases due with
  | none =>
    obtain ⟨rfl, _, _⟩ := i2 rfl
    have e5 := e_dlst e4 C.kv
    rw [keys_metD] at e5
    exact e_itet (d := .bl true) (e_cmp e3 e_cst rfl) rfl (m_list t.al e5)
  | some es => exact e_itef (d := .bl false) (e_cmp e3 e_cst rfl) rfl (m_hist t.al e3)
theorem p_within (k : Nat) (t : Two) (ok : t.Ok) (ha : t.al = false) (h : Hs) (due : Option (List Ev)) (mF : Met) (z : t.srch 402 0 t.met0 = some (due, mF)) : cl (k+9) 45 [t.a.d, t.b.d] h = .ok (ansT t.al due mF) h := by
  obtain ⟨σ, w, e⟩ := cBody_ok k t ok h due mF z
  have e9 := call_rt (k := k + 8) (xs := [t.a.d, t.b.d]) (h := h) (d := ansT t.al due mF) (σ := σ) (h1 := h ++ w) F_within rfl (by rw [ha] at e ⊢; exact e)
  rw [e9]
  exact back_nr (ansT_nr _ _ _)
theorem p_alike (k : Nat) (t : Two) (ok : t.Ok) (ha : t.al = true) (h : Hs) (due : Option (List Ev)) (mF : Met) (z : t.srch 402 0 t.met0 = some (due, mF)) : cl (k+9) 47 [t.a.d, t.b.d] h = .ok (ansT t.al due mF) h := by
  obtain ⟨σ, w, e⟩ := cBody_ok k t ok h due mF z
  have e9 := call_rt (k := k + 8) (xs := [t.a.d, t.b.d]) (h := h) (d := ansT t.al due mF) (σ := σ) (h1 := h ++ w) F_alike rfl (by rw [ha] at e ⊢; exact e)
  rw [e9]
  exact back_nr (ansT_nr _ _ _)
theorem p_isWithin (k : Nat) (t : Two) (ok : t.Ok) (ha : t.al = false) (h : Hs) (due : Option (List Ev)) (mF : Met) (z : t.srch 402 0 t.met0 = some (due, mF)) : cl (k+10) 46 [t.a.d, t.b.d] h = .ok (.bl due.isNone) h := by
  refine call_same F_is_within rfl (b_ret (h1 := h) ?_)
  have e := e_isi (T := pd.tab) (cl := cl (k+9)) (σ := [some t.a.d, some t.b.d]) (ts := [.own 6]) (e_fn (qa (e_var (i := 0) rfl) (qa (e_var (i := 1) rfl) q0)) (p_within k t ok ha h due mF z)) (by rw [ha]; cases due <;> rfl)
  refine e.trans ?_
  rw [ha]
  cases due <;> rfl
theorem p_areAlike (k : Nat) (t : Two) (ok : t.Ok) (ha : t.al = true) (h : Hs) (due : Option (List Ev)) (mF : Met) (z : t.srch 402 0 t.met0 = some (due, mF)) : cl (k+10) 48 [t.a.d, t.b.d] h = .ok (.bl due.isNone) h := by
  refine call_same F_are_alike rfl (b_ret (h1 := h) ?_)
  have e := e_isi (T := pd.tab) (cl := cl (k+9)) (σ := [some t.a.d, some t.b.d]) (ts := [.own 8]) (e_fn (qa (e_var (i := 0) rfl) (qa (e_var (i := 1) rfl) q0)) (p_alike k t ok ha h due mF z)) (by rw [ha]; cases due <;> rfl)
  refine e.trans ?_
  rw [ha]
  cases due <;> rfl
end K02

set_option Elab.async false
set_option linter.all false
set_option maxRecDepth 100000
set_option maxHeartbeats 1000000
namespace K02
open PySem PySem.Spec PyProof.Rows L2 He MC MP
def pSt (t : Two) (hi : D) (p : Pr) (b : Bool) (x6 x7 x8 x9 x10 : Option D) : Sg := [some t.a.d, some t.b.d, some hi, some (.bl t.al), some (pD p), some (.bl b), x6, x7, x8, x9, x10]
theorem part_loop (k : Nat) (t : Two) (ok : t.Ok) (hi : D) (h : Hs) : ∀ (es : List Ev) (p : Pr) (b : Bool) (x6 x7 x8 x9 x10 : Option D), (∀ e ∈ es, e.ok t.a) → t.Fit p →
    (t.part b p es = false ∧ ∃ σ', loopF (evG pd.tab (cl (k+5)) g_is_parting_1) (evB pd.tab (cl (k+5)) b_is_parting_1) (es.map Ev.d) (pSt t hi p b x6 x7 x8 x9 x10) h = .ok (.rt (.bl false), σ') h) ∨
    (∃ p' y6 y7 y8 y9 y10, loopF (evG pd.tab (cl (k+5)) g_is_parting_1) (evB pd.tab (cl (k+5)) b_is_parting_1) (es.map Ev.d) (pSt t hi p b x6 x7 x8 x9 x10) h = .ok (.nx, pSt t hi p' (t.part b p es) y6 y7 y8 y9 y10) h)
  | [], p, b, x6, x7, x8, x9, x10, _, _ => .inr ⟨p, x6, x7, x8, x9, x10, f_nil⟩
  | e :: es, p, b, x6, x7, x8, x9, x10, heo, fp => by
    have he := heo e (List.mem_cons_self ..)
    have e1 := p_afterEvent k t.a p.1 e h ok.wa he fp.1
    have e2 := p_afterEvent k t.b p.2 e h ok.wb (ev_ok_b ok he) fp.2
    rw [ansE_aD] at e1 e2
    let σ1 : Sg := pSt t hi p b (some e.d) (some (aD (t.m p e))) (some (vD (nxt t.a p.1 e))) x9 x10
    let σ2 : Sg := pSt t hi p b (some e.d) (some (aD (t.m p e))) (some (vD (nxt t.a p.1 e))) (some (aD (t.n p e))) (some (vD (nxt t.b p.2 e)))
    have s1 : evS pd.tab (cl (k+5)) (.asg (.tup (.cons (.nm 7) (.cons (.nm 8) .nil))) (.fn 23 (.cons (.var 0) (.cons (.idx (.var 4) (.cst (.int 0))) (.cons (.var 6) .nil))))) (pSt t hi p b (some e.d) x7 x8 x9 x10) h = .ok (.nx, σ1) h :=
      s_asg (e_fn (qa (e_var rfl) (qa (e_idx (e_var rfl) e_cst rfl) (qa (e_var rfl) q0))) e1) (by simp only [evG, evGL, Res.bind]; rfl)
    have s2 : evS pd.tab (cl (k+5)) (.asg (.tup (.cons (.nm 9) (.cons (.nm 10) .nil))) (.fn 23 (.cons (.var 1) (.cons (.idx (.var 4) (.cst (.int 1))) (.cons (.var 6) .nil))))) σ1 h = .ok (.nx, σ2) h :=
      s_asg (e_fn (qa (e_var rfl) (qa (e_idx (e_var rfl) e_cst rfl) (qa (e_var rfl) q0))) e2) (by simp only [evG, evGL, Res.bind]; rfl)
    have hg : evG pd.tab (cl (k+5)) g_is_parting_1 e.d (pSt t hi p b x6 x7 x8 x9 x10) h = .ok (pSt t hi p b (some e.d) x7 x8 x9 x10) h := g_nm
    have hgo : evE pd.tab (cl (k+5)) (.not (.fn 28 (.cons (.var 7) (.cons (.var 3) .nil)))) σ2 h = .ok (.bl (!t.go p e)) h := e_not (e_fn (qa (e_var rfl) (qa (e_var rfl) q0)) (p_goes (k+4) t _ h)) rfl
    have hc : evE pd.tab (cl (k+5)) (.or (.var 5) (.not (.fn 28 (.cons (.var 7) (.cons (.var 3) .nil))))) σ2 h = .ok (.bl (b || !t.go p e)) h := by
      cases b with
      | true => exact e_ort (d := .bl true) (e_var rfl) rfl
      | false => exact e_orf (d := .bl false) (e_var rfl) rfl hgo
    have hbd : evE pd.tab (cl (k+5)) (.ite (.var 3) (.fn 27 (.cons (.var 7) (.cons (.var 9) .nil))) (.fn 26 (.cons (.var 7) (.cons (.var 9) .nil)))) σ2 h = .ok (.bl (t.bd p e)) h := by
      have hal : evE pd.tab (cl (k+5)) (.var 3) σ2 h = .ok (.bl t.al) h := e_var rfl
      unfold Two.bd Two.bad
      cases ha : t.al with
      | true =>
        rw [ha] at hal
        rw [if_pos rfl]
        exact e_itet hal rfl (e_fn (qa (e_var rfl) (qa (e_var rfl) q0)) (p_breaksA (k+4) _ _ _))
      | false =>
        rw [ha] at hal
        rw [if_neg (by simp)]
        exact e_itef hal rfl (e_fn (qa (e_var rfl) (qa (e_var rfl) q0)) (p_breaksW (k+4) _ _ _))
    rw [List.map_cons]
    by_cases hb : (b || !t.go p e) = true
    · rw [hb] at hc
      refine .inl ⟨by simp only [Two.part, hb, if_true], _, f_rt hg (b_nx s1 (b_nx s2 (b_rt (s_ift hc rfl (b_ret e_cst)))))⟩
    · have hb' : (b || !t.go p e) = false := by simpa using hb
      rw [hb'] at hc
      have hpart : t.part b p (e :: es) = t.part (t.bd p e) (t.nx p e) es := by simp only [Two.part, hb', Bool.false_eq_true, if_false]
      rw [hpart]
      have hbod : evB pd.tab (cl (k+5)) b_is_parting_1 (pSt t hi p b (some e.d) x7 x8 x9 x10) h = .ok (.nx, pSt t hi (t.nx p e) (t.bd p e) (some e.d) (some (aD (t.m p e))) (some (vD (nxt t.a p.1 e))) (some (aD (t.n p e))) (some (vD (nxt t.b p.2 e)))) h :=
        b_nx s1 (b_nx s2 (b_nx (s_iff hc rfl q_nil) (b_nx (s_set hbd) (b_nx (s_set (e_tup (qa (e_var rfl) (qa (e_var rfl) q0)) (by simp [sizeLine]))) q_nil))))
      rcases part_loop k t ok hi h es (t.nx p e) (t.bd p e) (some e.d) (some (aD (t.m p e))) (some (vD (nxt t.a p.1 e))) (some (aD (t.n p e))) (some (vD (nxt t.b p.2 e))) (fun x hx => heo x (List.mem_cons_of_mem _ hx)) (t.fit_nx ok fp he) with ⟨a1, σ', a2⟩ | ⟨p', y6, y7, y8, y9, y10, a2⟩
      · exact .inl ⟨a1, σ', f_nx hg hbod a2⟩
      · exact .inr ⟨p', y6, y7, y8, y9, y10, f_nx hg hbod a2⟩
theorem p_parting (k : Nat) (t : Two) (ok : t.Ok) (es : List Ev) (heo : ∀ e ∈ es, e.ok t.a) (h : Hs) : cl (k+6) 32 [t.a.d, t.b.d, hD es, .bl t.al] h = .ok (.bl (t.part false t.st es)) h := by
  obtain ⟨r1a, r3a, f1a, f2a, _⟩ := ok.wa
  obtain ⟨r1b, r3b, f1b, f2b, _⟩ := ok.wb
  have e1 : evS pd.tab (cl (k+5)) (.par 4 5 (.tup (.cons (.fn 17 (.cons (.var 0) .nil)) (.cons (.fn 17 (.cons (.var 1) .nil)) .nil))) (.cst (.bl false))) [some t.a.d, some t.b.d, some (hD es), some (.bl t.al), none, none, none, none, none, none, none] h = .ok (.nx, pSt t (hD es) t.st false none none none none none) h :=
    s_par (e_tup (qa (e_fn (qa (e_var rfl) q0) (p_firstS (k+3) t.a _ f1a (by omega) (by omega))) (qa (e_fn (qa (e_var rfl) q0) (p_firstS (k+3) t.b _ f1b (by omega) (by omega))) q0)) (by simp [sizeLine])) e_cst
  have hit : evI pd.tab (cl (k+5)) (.val (.var 2)) (pSt t (hD es) t.st false none none none none none) h = .ok (.its (es.map Ev.d)) h := by
    have a : evE pd.tab (cl (k+5)) (.var 2) (pSt t (hD es) t.st false none none none none none) h = .ok (hD es) h := e_var rfl
    simp only [evI]
    rw [a]
    rfl
  rcases part_loop k t ok (hD es) h es t.st false none none none none none heo (t.fit_st ok) with ⟨a1, σ', a2⟩ | ⟨p', y6, y7, y8, y9, y10, a2⟩
  · rw [a1]
    exact call_same F_is_parting rfl (b_nx e1 (b_rt (s_for hit a2)))
  · exact call_same F_is_parting rfl (b_nx e1 (b_nx (s_for hit a2) (b_ret (e_var rfl))))
end K02

set_option Elab.async false
set_option linter.all false
set_option maxRecDepth 100000
set_option maxHeartbeats 1000000
namespace K02
open PySem PySem.Spec PyProof.Rows L2 He MC MP
theorem lpart_loop (k : Nat) (t : Two) (ok : t.Ok) (hi : D) (h : Hs) : ∀ (es : List Ev) (p : Pr) (b : Bool) (x6 x7 x8 x9 x10 : Option D), (∀ e ∈ es, e.ok t.a) → t.Fit p →
    (t.part b p es = false ∧ ∃ σ', loopF (evG pd.tab (cl (k+3)) g_law_parts_1) (evB pd.tab (cl (k+3)) b_law_parts_1) (es.map Ev.d) (pSt t hi p b x6 x7 x8 x9 x10) h = .ok (.rt (.bl false), σ') h) ∨
    (∃ p' y6 y7 y8 y9 y10, loopF (evG pd.tab (cl (k+3)) g_law_parts_1) (evB pd.tab (cl (k+3)) b_law_parts_1) (es.map Ev.d) (pSt t hi p b x6 x7 x8 x9 x10) h = .ok (.nx, pSt t hi p' (t.part b p es) y6 y7 y8 y9 y10) h)
  | [], p, b, x6, x7, x8, x9, x10, _, _ => .inr ⟨p, x6, x7, x8, x9, x10, f_nil⟩
  | e :: es, p, b, x6, x7, x8, x9, x10, heo, fp => by
    have he := heo e (List.mem_cons_self ..)
    have e1 := l_step k t.a p.1 e h ok.wa he fp.1
    have e2 := l_step k t.b p.2 e h ok.wb (ev_ok_b ok he) fp.2
    rw [ansE_aD] at e1 e2
    let σ1 : Sg := pSt t hi p b (some e.d) (some (aD (t.m p e))) (some (vD (nxt t.a p.1 e))) x9 x10
    let σ2 : Sg := pSt t hi p b (some e.d) (some (aD (t.m p e))) (some (vD (nxt t.a p.1 e))) (some (aD (t.n p e))) (some (vD (nxt t.b p.2 e)))
    have s1 : evS pd.tab (cl (k+3)) (.asg (.tup (.cons (.nm 7) (.cons (.nm 8) .nil))) (.fn 64 (.cons (.var 0) (.cons (.idx (.var 4) (.cst (.int 0))) (.cons (.var 6) .nil))))) (pSt t hi p b (some e.d) x7 x8 x9 x10) h = .ok (.nx, σ1) h :=
      s_asg (e_fn (qa (e_var rfl) (qa (e_idx (e_var rfl) e_cst rfl) (qa (e_var rfl) q0))) e1) (by simp only [evG, evGL, Res.bind]; rfl)
    have s2 : evS pd.tab (cl (k+3)) (.asg (.tup (.cons (.nm 9) (.cons (.nm 10) .nil))) (.fn 64 (.cons (.var 1) (.cons (.idx (.var 4) (.cst (.int 1))) (.cons (.var 6) .nil))))) σ1 h = .ok (.nx, σ2) h :=
      s_asg (e_fn (qa (e_var rfl) (qa (e_idx (e_var rfl) e_cst rfl) (qa (e_var rfl) q0))) e2) (by simp only [evG, evGL, Res.bind]; rfl)
    have hg : evG pd.tab (cl (k+3)) g_law_parts_1 e.d (pSt t hi p b x6 x7 x8 x9 x10) h = .ok (pSt t hi p b (some e.d) x7 x8 x9 x10) h := g_nm
    have hgo : evE pd.tab (cl (k+3)) (.and (.not (.var 3)) (.isb false (.var 7) (.cst (.bl false)))) σ2 h = .ok (.bl (!t.go p e)) h := by
      have h3 : evE pd.tab (cl (k+3)) (.not (.var 3)) σ2 h = .ok (.bl (!t.al)) h := e_not (e_var rfl) rfl
      have h7 : evE pd.tab (cl (k+3)) (.isb false (.var 7) (.cst (.bl false))) σ2 h = .ok (.bl ((t.m p e == some false) != false)) h := e_isb (e_var rfl) e_cst (isb_aD (t.m p e) false false)
      unfold Two.go Two.goes
      cases ha : t.al with
      | true =>
        rw [ha] at h3
        exact e_andf h3 rfl
      | false =>
        rw [ha] at h3
        rw [show (!(false || t.m p e != some false)) = ((t.m p e == some false) != false) by rcases t.m p e with _ | (_ | _) <;> rfl]
        exact e_andt h3 rfl h7
    have hc : evE pd.tab (cl (k+3)) (.or (.var 5) (.and (.not (.var 3)) (.isb false (.var 7) (.cst (.bl false))))) σ2 h = .ok (.bl (b || !t.go p e)) h := by
      cases b with
      | true => exact e_ort (d := .bl true) (e_var rfl) rfl
      | false => exact e_orf (d := .bl false) (e_var rfl) rfl hgo
    have hbd : evE pd.tab (cl (k+3)) (.fn 66 (.cons (.var 7) (.cons (.var 9) (.cons (.var 3) .nil)))) σ2 h = .ok (.bl (t.bd p e)) h := e_fn (qa (e_var rfl) (qa (e_var rfl) (qa (e_var rfl) q0))) (l_bad (k+2) t _ _ h)
    rw [List.map_cons]
    by_cases hb : (b || !t.go p e) = true
    · rw [hb] at hc
      refine .inl ⟨by simp only [Two.part, hb, if_true], _, f_rt hg (b_nx s1 (b_nx s2 (b_rt (s_ift hc rfl (b_ret e_cst)))))⟩
    · have hb' : (b || !t.go p e) = false := by simpa using hb
      rw [hb'] at hc
      have hpart : t.part b p (e :: es) = t.part (t.bd p e) (t.nx p e) es := by simp only [Two.part, hb', Bool.false_eq_true, if_false]
      rw [hpart]
      have hbod : evB pd.tab (cl (k+3)) b_law_parts_1 (pSt t hi p b (some e.d) x7 x8 x9 x10) h = .ok (.nx, pSt t hi (t.nx p e) (t.bd p e) (some e.d) (some (aD (t.m p e))) (some (vD (nxt t.a p.1 e))) (some (aD (t.n p e))) (some (vD (nxt t.b p.2 e)))) h :=
        b_nx s1 (b_nx s2 (b_nx (s_iff hc rfl q_nil) (b_nx (s_par hbd (e_tup (qa (e_var rfl) (qa (e_var rfl) q0)) (by simp [sizeLine]))) q_nil)))
      rcases lpart_loop k t ok hi h es (t.nx p e) (t.bd p e) (some e.d) (some (aD (t.m p e))) (some (vD (nxt t.a p.1 e))) (some (aD (t.n p e))) (some (vD (nxt t.b p.2 e))) (fun x hx => heo x (List.mem_cons_of_mem _ hx)) (t.fit_nx ok fp he) with ⟨a1, σ', a2⟩ | ⟨p', y6, y7, y8, y9, y10, a2⟩
      · exact .inl ⟨a1, σ', f_nx hg hbod a2⟩
      · exact .inr ⟨p', y6, y7, y8, y9, y10, f_nx hg hbod a2⟩
theorem l_parts (k : Nat) (t : Two) (ok : t.Ok) (es : List Ev) (heo : ∀ e ∈ es, e.ok t.a) (h : Hs) : cl (k+4) 69 [t.a.d, t.b.d, hD es, .bl t.al] h = .ok (.bl (t.part false t.st es)) h := by
  obtain ⟨r1a, r3a, f1a, f2a, _⟩ := ok.wa
  obtain ⟨r1b, r3b, f1b, f2b, _⟩ := ok.wb
  have e1 : evS pd.tab (cl (k+3)) (.par 4 5 (.tup (.cons (.fn 58 (.cons (.var 0) .nil)) (.cons (.fn 58 (.cons (.var 1) .nil)) .nil))) (.cst (.bl false))) [some t.a.d, some t.b.d, some (hD es), some (.bl t.al), none, none, none, none, none, none, none] h = .ok (.nx, pSt t (hD es) t.st false none none none none none) h :=
    s_par (e_tup (qa (e_fn (qa (e_var rfl) q0) (l_start (k+1) t.a _ f1a (by omega) (by omega))) (qa (e_fn (qa (e_var rfl) q0) (l_start (k+1) t.b _ f1b (by omega) (by omega))) q0)) (by simp [sizeLine])) e_cst
  have hit : evI pd.tab (cl (k+3)) (.val (.var 2)) (pSt t (hD es) t.st false none none none none none) h = .ok (.its (es.map Ev.d)) h := by
    have a : evE pd.tab (cl (k+3)) (.var 2) (pSt t (hD es) t.st false none none none none none) h = .ok (hD es) h := e_var rfl
    simp only [evI]
    rw [a]
    rfl
  rcases lpart_loop k t ok (hD es) h es t.st false none none none none none heo (t.fit_st ok) with ⟨a1, σ', a2⟩ | ⟨p', y6, y7, y8, y9, y10, a2⟩
  · rw [a1]
    exact call_same F_law_parts rfl (b_nx e1 (b_rt (s_for hit a2)))
  · exact call_same F_law_parts rfl (b_nx e1 (b_nx (s_for hit a2) (b_ret (e_var rfl))))
end K02

set_option Elab.async false
set_option linter.all false
set_option maxRecDepth 100000
set_option maxHeartbeats 1000000
namespace K02
open PySem PySem.Spec PyProof.Rows L2 He MC MP
/-! ### a dict of known pairs -/
def knD (ps : List Pr) : List (D × D) := ps.map fun p => (pD p, .bl true)
def knP (kn : List Pr) (p : Pr) : List Pr := if p ∈ kn then kn else kn ++ [p]
def ded (kn : List Pr) : List Pr → List Pr
  | [] => kn
  | p :: ps => ded (knP kn p) ps
theorem mem_knP (kn : List Pr) (p x : Pr) : x ∈ knP kn p ↔ x ∈ kn ∨ x = p := by
  unfold knP
  split
  · rename_i h
    constructor
    · exact .inl
    · rintro (h1 | rfl) <;> assumption
  · simp
theorem mem_ded (x : Pr) : ∀ (ps kn : List Pr), x ∈ ded kn ps ↔ x ∈ kn ∨ x ∈ ps
  | [], kn => by simp [ded]
  | p :: ps, kn => by
    rw [ded, mem_ded x ps, mem_knP, List.mem_cons, or_assoc]
theorem len_knP (kn : List Pr) (p : Pr) : (knP kn p).length ≤ kn.length + 1 := by
  unfold knP
  split <;> simp
theorem getK_kn {t : Two} {q : Pr} (hq : t.Fit q) : ∀ {kn : List Pr}, (∀ x ∈ kn, t.Fit x) → getK (kPr q) (knD kn) = if q ∈ kn then some (.bl true) else none
  | [], _ => rfl
  | p :: kn, h => by
    have ih := getK_kn hq (kn := kn) fun y hy => h y (List.mem_cons_of_mem _ hy)
    show (if D.key (pD p) = some (kPr q) then some (D.bl true) else getK (kPr q) (knD kn)) = _
    rw [pD_key, ih]
    by_cases e : p = q
    · subst e
      simp
    · have : ¬ (some (kPr p) = some (kPr q)) := fun z => e (kPr_inj (h p (List.mem_cons_self ..)) hq (Option.some.inj z))
      rw [if_neg this]
      have e' : ¬ q = p := fun z => e z.symm
      simp [e']
theorem hasK_kn {t : Two} {q : Pr} (hq : t.Fit q) {kn : List Pr} (h : ∀ x ∈ kn, t.Fit x) : hasK (kPr q) (knD kn) = decide (q ∈ kn) := by
  rw [hasK, getK_kn hq h]
  by_cases e : q ∈ kn <;> simp [e]
theorem repl_kn (k : NestedKey) : ∀ kn : List Pr, replK k (.bl true) (knD kn) = knD kn
  | [] => rfl
  | p :: kn => by
    show (if D.key (pD p) = some k then (pD p, D.bl true) else (pD p, .bl true)) :: replK k (.bl true) (knD kn) = _
    rw [repl_kn k kn, ite_self]
    rfl
theorem putN_kn {t : Two} {q : Pr} (hq : t.Fit q) {kn : List Pr} (h : ∀ x ∈ kn, t.Fit x) : putN (pD q) (kPr q) (.bl true) (knD kn) = knD (knP kn q) := by
  rw [putN, hasK_kn hq h, repl_kn, knP]
  by_cases e : q ∈ kn
  · simp [e]
  · simp [e, knD]
theorem fit_knP {t : Two} {q : Pr} (hq : t.Fit q) {kn : List Pr} (h : ∀ x ∈ kn, t.Fit x) : ∀ x ∈ knP kn q, t.Fit x := fun x hx => by
  rcases (mem_knP kn q x).mp hx with h1 | rfl
  · exact h x h1
  · exact hq
theorem merge_kn {t : Two} : ∀ (ps kn : List Pr), (∀ x ∈ kn, t.Fit x) → (∀ x ∈ ps, t.Fit x) → mergeN (knD kn) (knD ps) = knD (ded kn ps)
  | [], kn, _, _ => rfl
  | p :: ps, kn, h, h2 => by
    have hp := h2 p (List.mem_cons_self ..)
    show (match (pD p).tkey with
      | some k => mergeN (putN (pD p) k (.bl true) (knD kn)) (knD ps)
      | none => knD kn) = _
    rw [pD_tkey]
    simp only
    rw [putN_kn hp h]
    exact merge_kn ps _ (fit_knP hp h) (fun x hx => h2 x (List.mem_cons_of_mem _ hx))
theorem keys_kn (ps : List Pr) : (knD ps).map (·.1) = ps.map pD := by simp [knD]
theorem Two.closed_same (t : Two) {ps qs : List Pr} (h : ∀ x, x ∈ ps ↔ x ∈ qs) : t.closed ps = t.closed qs := by
  unfold Two.closed
  have e1 : decide (t.st ∈ ps) = decide (t.st ∈ qs) := by simp only [h]
  rw [e1]
  congr 1
  rw [Bool.eq_iff_iff, List.all_eq_true, List.all_eq_true]
  simp only [h]
theorem knD_nr (ps : List Pr) : (D.dct (knD ps)).nr = true := by
  show D.nrK (knD ps) = true
  induction ps with
  | nil => rfl
  | cons p ps ih =>
    show (D.nr (pD p) && D.nr (.bl true) && D.nrK (knD ps)) = true
    rw [ih, pDs_nr]
    rfl
/-- the loop of the dict comprehension -/
theorem dc_kn {t : Two} {k : Nat} {σ : Sg} {h : Hs} (h5 : 5 < σ.length) : ∀ (ps kn : List Pr), (∀ x ∈ kn, t.Fit x) → (∀ x ∈ ps, t.Fit x) → kn.length + ps.length ≤ 1000 →
    loopDC (evG pd.tab (cl k) (.nm 5)) (evOT pd.tab (cl k) .none) (evE pd.tab (cl k) (.var 5)) (evE pd.tab (cl k) (.cst (.bl true))) σ h.length (ps.map pD) (h ++ [.dct (knD kn)]) = .ok () (h ++ [.dct (knD (ded kn ps))])
  | [], kn, _, _, _ => rfl
  | p :: ps, kn, f1, f2, hl => by
    simp only [List.length_cons] at hl
    have hp := f2 p (List.mem_cons_self ..)
    have ih := dc_kn (t := t) (k := k) (h := h) h5 ps (knP kn p) (fit_knP hp f1) (fun x hx => f2 x (List.mem_cons_of_mem _ hx)) (by have := len_knP kn p; omega)
    have hv : evE pd.tab (cl k) (.var 5) (σ.set 5 (some (pD p))) (h ++ [.dct (knD kn)]) = .ok (pD p) (h ++ [.dct (knD kn)]) := e_var (by rw [List.getElem?_set_self h5])
    have hs : storeM h.length (pD p) (.bl true) (h ++ [.dct (knD kn)]) = .ok () (h ++ [.dct (knD (knP kn p))]) := by
      have e1 : (h ++ [O.dct (knD kn)])[h.length]? = some (.dct (knD kn)) := by simp
      have e2 : (knD kn).length < sizeLine := by rw [sizeLine_eq]; simp [knD]; omega
      simp only [storeM, e1, pD_tkey, if_pos e2, putN_kn hp f1]
      simp
    rw [List.map_cons]
    simp only [loopDC, MP.g_nm, Res.bind, ot_none, if_true, hv, e_cst, hs, ded]
    exact ih
end K02

set_option Elab.async false
set_option linter.all false
set_option maxRecDepth 100000
set_option maxHeartbeats 1000000
namespace K02
open PySem PySem.Spec PyProof.Rows L2 He MC MP
def kS (t : Two) (pl kv : D) (x5 x6 x7 x8 x9 : Option D) : Sg := [some t.a.d, some t.b.d, some pl, some (.bl t.al), some kv, x5, x6, x7, x8, x9]
def Two.okE (t : Two) (kn : List Pr) (p : Pr) (e : Ev) : Bool := !t.bd p e && (!t.go p e || decide (t.nx p e ∈ kn))
theorem closed_in (k : Nat) (t : Two) (ok : t.Ok) (pl kv : D) (g : Hs) (kn : List Pr) (hk : kv.kvs g = some (knD kn)) (fk : ∀ x ∈ kn, t.Fit x) (p : Pr) (fp : t.Fit p) (x5 : Option D) : ∀ (es : List Ev) (x6 x7 x8 x9 : Option D), (∀ e ∈ es, e.ok t.a) →
    (es.all (t.okE kn p) = false ∧ ∃ σ', loopF (evG pd.tab (cl (k+1)) g_is_closed_2) (evB pd.tab (cl (k+1)) b_is_closed_1) (es.map (rowD t p)) (kS t pl kv x5 x6 x7 x8 x9) g = .ok (.rt (.bl false), σ') g) ∨
    (es.all (t.okE kn p) = true ∧ ∃ y6 y7 y8 y9, loopF (evG pd.tab (cl (k+1)) g_is_closed_2) (evB pd.tab (cl (k+1)) b_is_closed_1) (es.map (rowD t p)) (kS t pl kv x5 x6 x7 x8 x9) g = .ok (.nx, kS t pl kv x5 y6 y7 y8 y9) g)
  | [], x6, x7, x8, x9, _ => .inr ⟨rfl, x6, x7, x8, x9, f_nil⟩
  | e :: es, x6, x7, x8, x9, heo => by
    have he := heo e (List.mem_cons_self ..)
    have fq := t.fit_nx ok fp he
    let σ1 : Sg := kS t pl kv x5 (some e.d) (some (aD (t.m p e))) (some (aD (t.n p e))) (some (pD (t.nx p e)))
    have hg : evG pd.tab (cl (k+1)) g_is_closed_2 (rowD t p e) (kS t pl kv x5 x6 x7 x8 x9) g = .ok σ1 g := by
      simp only [g_is_closed_2, rowD, evG, evGL, Res.bind]
      rfl
    have hal : evE pd.tab (cl (k+1)) (.var 3) σ1 g = .ok (.bl t.al) g := e_var rfl
    have hbd : evE pd.tab (cl (k+1)) (.ite (.var 3) (.fn 27 (.cons (.var 7) (.cons (.var 8) .nil))) (.fn 26 (.cons (.var 7) (.cons (.var 8) .nil)))) σ1 g = .ok (.bl (t.bd p e)) g := by
      unfold Two.bd Two.bad
      cases ha : t.al with
      | true =>
        rw [ha] at hal
        rw [if_pos rfl]
        exact e_itet hal rfl (e_fn (qa (e_var rfl) (qa (e_var rfl) q0)) (p_breaksA k _ _ _))
      | false =>
        rw [ha] at hal
        rw [if_neg (by simp)]
        exact e_itef hal rfl (e_fn (qa (e_var rfl) (qa (e_var rfl) q0)) (p_breaksW k _ _ _))
    have hgo : evE pd.tab (cl (k+1)) (.fn 28 (.cons (.var 7) (.cons (.var 3) .nil))) σ1 g = .ok (.bl (t.go p e)) g := e_fn (qa (e_var rfl) (qa hal q0)) (p_goes k t _ _)
    have hd : evE pd.tab (cl (k+1)) (.din true (.var 9) (.var 4)) σ1 g = .ok (.bl (!decide (t.nx p e ∈ kn))) g := by
      refine e_din (e_var rfl) (e_var rfl) ?_
      simp only [dinD, hk, pD_tkey, hasK_kn fq fk]
      cases decide (t.nx p e ∈ kn) <;> rfl
    have hc : evE pd.tab (cl (k+1)) (.and (.fn 28 (.cons (.var 7) (.cons (.var 3) .nil))) (.din true (.var 9) (.var 4))) σ1 g = .ok (.bl (t.go p e && !decide (t.nx p e ∈ kn))) g := by
      cases h1 : t.go p e with
      | false => rw [h1] at hgo; exact e_andf hgo rfl
      | true => rw [h1] at hgo; exact e_andt hgo rfl hd
    rw [List.map_cons, List.all_cons]
    cases hb : t.bd p e with
    | true =>
      rw [hb] at hbd
      exact .inl ⟨by simp [Two.okE, hb], _, f_rt hg (b_rt (s_ift hbd rfl (b_ret e_cst)))⟩
    | false =>
      rw [hb] at hbd
      cases hx : (t.go p e && !decide (t.nx p e ∈ kn)) with
      | true =>
        rw [hx] at hc
        refine .inl ⟨?_, _, f_rt hg (b_nx (s_iff hbd rfl q_nil) (b_rt (s_ift hc rfl (b_ret e_cst))))⟩
        simp [Two.okE, hb] at hx ⊢
        intro h1
        simp [hx] at h1
      | false =>
        rw [hx] at hc
        have ho : t.okE kn p e = true := by
          simp [Two.okE, hb] at hx ⊢
          cases h1 : t.go p e with
          | false => simp
          | true => right; exact hx h1
        have hbod : evB pd.tab (cl (k+1)) b_is_closed_1 σ1 g = .ok (.nx, σ1) g := b_nx (s_iff hbd rfl q_nil) (b_nx (s_iff hc rfl q_nil) q_nil)
        rw [ho, Bool.true_and]
        rcases closed_in k t ok pl kv g kn hk fk p fp x5 es (some e.d) (some (aD (t.m p e))) (some (aD (t.n p e))) (some (pD (t.nx p e))) (fun x hx => heo x (List.mem_cons_of_mem _ hx)) with ⟨a1, σ', a2⟩ | ⟨a1, y6, y7, y8, y9, a2⟩
        · exact .inl ⟨a1, σ', f_nx hg hbod a2⟩
        · exact .inr ⟨a1, y6, y7, y8, y9, f_nx hg hbod a2⟩
end K02

set_option Elab.async false
set_option linter.all false
set_option maxRecDepth 100000
set_option maxHeartbeats 1000000
namespace K02
open PySem PySem.Spec PyProof.Rows L2 He MC MP
theorem closed_out (k : Nat) (t : Two) (ok : t.Ok) (pl kv : D) (g : Hs) (kn : List Pr) (hk : kv.kvs g = some (knD kn)) (fk : ∀ x ∈ kn, t.Fit x) : ∀ (qs : List Pr) (x5 x6 x7 x8 x9 : Option D), (∀ x ∈ qs, t.Fit x) →
    (qs.all (fun p => (evs t.a).all (t.okE kn p)) = false ∧ ∃ σ', loopF (evG pd.tab (cl (k+6)) g_is_closed_1) (evB pd.tab (cl (k+6)) b_is_closed_2) (qs.map pD) (kS t pl kv x5 x6 x7 x8 x9) g = .ok (.rt (.bl false), σ') g) ∨
    (qs.all (fun p => (evs t.a).all (t.okE kn p)) = true ∧ ∃ y5 y6 y7 y8 y9, loopF (evG pd.tab (cl (k+6)) g_is_closed_1) (evB pd.tab (cl (k+6)) b_is_closed_2) (qs.map pD) (kS t pl kv x5 x6 x7 x8 x9) g = .ok (.nx, kS t pl kv y5 y6 y7 y8 y9) g)
  | [], x5, x6, x7, x8, x9, _ => .inr ⟨rfl, x5, x6, x7, x8, x9, f_nil⟩
  | p :: qs, x5, x6, x7, x8, x9, fq => by
    have fp := fq p (List.mem_cons_self ..)
    have hg : evG pd.tab (cl (k+6)) g_is_closed_1 (pD p) (kS t pl kv x5 x6 x7 x8 x9) g = .ok (kS t pl kv (some (pD p)) x6 x7 x8 x9) g := g_nm
    have hit : evI pd.tab (cl (k+6)) (.val (.fn 25 (.cons (.var 0) (.cons (.var 1) (.cons (.var 5) .nil))))) (kS t pl kv (some (pD p)) x6 x7 x8 x9) g = .ok (.its ((evs t.a).map (rowD t p))) g := by
      have a4 : evE pd.tab (cl (k+6)) (.fn 25 (.cons (.var 0) (.cons (.var 1) (.cons (.var 5) .nil)))) (kS t pl kv (some (pD p)) x6 x7 x8 x9) g = .ok (.lst ((evs t.a).map (rowD t p))) g := e_fn (qa (e_var rfl) (qa (e_var rfl) (qa (e_var rfl) q0))) (p_steps k t ok p fp g)
      simp only [evI]
      rw [a4]
      rfl
    rw [List.map_cons, List.all_cons]
    rcases closed_in (k+5) t ok pl kv g kn hk fk p fp (some (pD p)) (evs t.a) x6 x7 x8 x9 (fun e he => evs_ok he) with ⟨a1, σ', a2⟩ | ⟨a1, y6, y7, y8, y9, a2⟩
    · exact .inl ⟨by rw [a1]; rfl, σ', f_rt hg (b_rt (s_for hit a2))⟩
    · rw [a1, Bool.true_and]
      rcases closed_out k t ok pl kv g kn hk fk qs (some (pD p)) y6 y7 y8 y9 (fun x hx => fq x (List.mem_cons_of_mem _ hx)) with ⟨b1, σ', b2⟩ | ⟨b1, w5, w6, w7, w8, w9, b2⟩
      · exact .inl ⟨b1, σ', f_nx hg (b_nx (s_for hit a2) q_nil) b2⟩
      · exact .inr ⟨b1, w5, w6, w7, w8, w9, f_nx hg (b_nx (s_for hit a2) q_nil) b2⟩
theorem closed_eq (t : Two) (kn : List Pr) : t.closed kn = (decide (t.st ∈ kn) && kn.all fun p => (evs t.a).all (t.okE kn p)) := rfl
theorem back_dct {h : Hs} {ps : List Pr} : back true h (.ref h.length) (h ++ [.dct (knD ps)]) = .ok (.dct (knD ps)) h := by
  unfold back
  have : ¬ (h ++ [O.dct (knD ps)]).length = h.length := by simp
  rw [if_neg this]
  have e1 : ∀ qs : List Pr, ((knD qs).mapM (m := Option) (β := D × D) fun (p : D × D) => (frzD [O.dct (knD ps)] h.length 5 p.2).map fun b => (p.1, b)) = some (knD qs) := fun qs => by
    induction qs with
    | nil => rfl
    | cons q qs ih =>
      show (List.mapM (m := Option) (β := D × D) (fun (p : D × D) => (frzD [O.dct (knD ps)] h.length 5 p.2).map fun b => (p.1, b)) ((pD q, D.bl true) :: knD qs)) = _
      rw [List.mapM_cons, ih]
      rfl
  have e : frzD [O.dct (knD ps)] h.length 6 (.ref h.length) = some (.dct (knD ps)) := by
    unfold frzD
    simp only [D.nr]
    simp [e1]
  simp [Hs.eqb_refl, e]
end K02

set_option Elab.async false
set_option linter.all false
set_option maxRecDepth 100000
set_option maxHeartbeats 1000000
namespace K02
open PySem PySem.Spec PyProof.Rows L2 He MC MP
theorem e_dcm {T : Tab} {cf : Nat → List D → Hs → Res D} {σ : Sg} {h h1 h2 : Hs} {fz : Bool} {own : List Nat} {a v : E} {g : G} {it : I} {c : OE} {xs : List D} {r : Res D} (e1 : evI T cf it σ h = .ok (.its xs) h1) (e2 : loopDC (evG T cf g) (evOT T cf c) (evE T cf a) (evE T cf v) (wipeM own σ) h1.length xs (h1 ++ [.dct []]) = .ok () h2) (e3 : back fz h1 (.ref h1.length) h2 = r) : evE T cf (.dcm fz own a v g it c) σ h = r := by
  rw [evE]
  simp only [e1, Res.bind, e2, e3]
theorem p_closed (k : Nat) (t : Two) (ok : t.Ok) (ps : List Pr) (fps : ∀ x ∈ ps, t.Fit x) (hl : ps.length ≤ 1000) (h : Hs) : cl (k+7) 31 [t.a.d, t.b.d, .lst (ps.map pD), .bl t.al] h = .ok (.bl (t.closed ps)) h := by
  obtain ⟨r1a, r3a, f1a, f2a, _⟩ := ok.wa
  obtain ⟨r1b, r3b, f1b, f2b, _⟩ := ok.wb
  let σ0 : Sg := [some t.a.d, some t.b.d, some (.lst (ps.map pD)), some (.bl t.al), none, none, none, none, none, none]
  let kn := ded [] ps
  have fk : ∀ x ∈ kn, t.Fit x := fun x hx => by
    rcases (mem_ded x ps []).mp hx with h1 | h1
    · cases h1
    · exact fps x h1
  have hs : t.closed ps = t.closed kn := t.closed_same fun x => by rw [mem_ded]; simp
  have e0 : evE pd.tab (cl (k+6)) c_is_closed_1 σ0 h = .ok (.dct (knD kn)) h := by
    have a : evE pd.tab (cl (k+6)) (.var 2) σ0 h = .ok (.lst (ps.map pD)) h := e_var rfl
    have b : evI pd.tab (cl (k+6)) (.val (.var 2)) σ0 h = .ok (.its (ps.map pD)) h := by
      simp only [evI]
      rw [a]
      rfl
    have c := dc_kn (t := t) (k := k+6) (σ := wipeM [5] σ0) (h := h) (by simp [wipeM, σ0]) ps [] (fun x hx => by cases hx) fps (by simpa using hl)
    exact e_dcm b c back_dct
  have e1 : evS pd.tab (cl (k+6)) (.asg (.nm 4) c_is_closed_1) σ0 h = .ok (.nx, kS t (.lst (ps.map pD)) (.dct (knD kn)) none none none none none) h := s_set e0
  have hk : (D.dct (knD kn)).kvs h = some (knD kn) := rfl
  have e2 : evE pd.tab (cl (k+6)) (.din true (.tup (.cons (.fn 17 (.cons (.var 0) .nil)) (.cons (.fn 17 (.cons (.var 1) .nil)) .nil))) (.var 4)) (kS t (.lst (ps.map pD)) (.dct (knD kn)) none none none none none) h = .ok (.bl (!decide (t.st ∈ kn))) h := by
    refine e_din (x := pD t.st) (e_tup (qa (e_fn (qa (e_var rfl) q0) (p_firstS (k+4) t.a _ f1a (by omega) (by omega))) (qa (e_fn (qa (e_var rfl) q0) (p_firstS (k+4) t.b _ f1b (by omega) (by omega))) q0)) (by simp [sizeLine])) (e_var rfl) ?_
    simp only [dinD, hk, pD_tkey, hasK_kn (t.fit_st ok) fk]
    cases decide (t.st ∈ kn) <;> rfl
  rw [hs, closed_eq]
  cases hd : decide (t.st ∈ kn) with
  | false =>
    rw [hd] at e2
    exact call_same F_is_closed rfl (b_nx e1 (b_rt (s_ift e2 rfl (b_ret e_cst))))
  | true =>
    rw [hd] at e2
    have hit : evI pd.tab (cl (k+6)) (.dkeys (.var 4)) (kS t (.lst (ps.map pD)) (.dct (knD kn)) none none none none none) h = .ok (.its (kn.map pD)) h := by
      have a : evE pd.tab (cl (k+6)) (.var 4) (kS t (.lst (ps.map pD)) (.dct (knD kn)) none none none none none) h = .ok (.dct (knD kn)) h := e_var rfl
      simp only [evI, a, Res.bind, keys_kn]
    rcases closed_out k t ok (.lst (ps.map pD)) (.dct (knD kn)) h kn hk fk kn none none none none none fk with ⟨a1, σ', a2⟩ | ⟨a1, y5, y6, y7, y8, y9, a2⟩
    · rw [a1]
      exact call_same F_is_closed rfl (b_nx e1 (b_nx (s_iff e2 rfl q_nil) (b_rt (s_for hit a2))))
    · rw [a1]
      exact call_same F_is_closed rfl (b_nx e1 (b_nx (s_iff e2 rfl q_nil) (b_nx (s_for hit a2) (b_ret e_cst))))
end K02

set_option Elab.async false
set_option linter.all false
set_option maxRecDepth 100000
set_option maxHeartbeats 1000000
namespace K02
open PySem PySem.Spec PyProof.Rows L2 He MC MP
theorem lclosed_in (k : Nat) (t : Two) (ok : t.Ok) (pl kv : D) (g : Hs) (kn : List Pr) (hk : kv.kvs g = some (knD kn)) (fk : ∀ x ∈ kn, t.Fit x) (p : Pr) (fp : t.Fit p) (x5 : Option D) : ∀ (es : List Ev) (x6 x7 x8 x9 : Option D), (∀ e ∈ es, e.ok t.a) →
    (es.all (t.okE kn p) = false ∧ ∃ σ', loopF (evG pd.tab (cl (k+1)) g_law_closed_2) (evB pd.tab (cl (k+1)) b_law_closed_1) (es.map (rowD t p)) (kS t pl kv x5 x6 x7 x8 x9) g = .ok (.rt (.bl false), σ') g) ∨
    (es.all (t.okE kn p) = true ∧ ∃ y6 y7 y8 y9, loopF (evG pd.tab (cl (k+1)) g_law_closed_2) (evB pd.tab (cl (k+1)) b_law_closed_1) (es.map (rowD t p)) (kS t pl kv x5 x6 x7 x8 x9) g = .ok (.nx, kS t pl kv x5 y6 y7 y8 y9) g)
  | [], x6, x7, x8, x9, _ => .inr ⟨rfl, x6, x7, x8, x9, f_nil⟩
  | e :: es, x6, x7, x8, x9, heo => by
    have he := heo e (List.mem_cons_self ..)
    have fq := t.fit_nx ok fp he
    let σ1 : Sg := kS t pl kv x5 (some e.d) (some (aD (t.m p e))) (some (aD (t.n p e))) (some (pD (t.nx p e)))
    have hg : evG pd.tab (cl (k+1)) g_law_closed_2 (rowD t p e) (kS t pl kv x5 x6 x7 x8 x9) g = .ok σ1 g := by
      simp only [g_law_closed_2, rowD, evG, evGL, Res.bind]
      rfl
    have hal : evE pd.tab (cl (k+1)) (.var 3) σ1 g = .ok (.bl t.al) g := e_var rfl
    have hbd : evE pd.tab (cl (k+1)) (.fn 66 (.cons (.var 7) (.cons (.var 8) (.cons (.var 3) .nil)))) σ1 g = .ok (.bl (t.bd p e)) g := e_fn (qa (e_var rfl) (qa (e_var rfl) (qa (e_var rfl) q0))) (l_bad k t _ _ g)
    have hgo : evE pd.tab (cl (k+1)) (.or (.var 3) (.isb true (.var 7) (.cst (.bl false)))) σ1 g = .ok (.bl (t.go p e)) g := by
      unfold Two.go Two.goes
      cases ha : t.al with
      | true =>
        rw [ha] at hal
        exact e_ort hal rfl
      | false =>
        rw [ha] at hal
        refine e_orf hal rfl ?_
        rw [show (false || t.m p e != some false) = ((t.m p e == some false) != true) by rcases t.m p e with _ | (_ | _) <;> rfl]
        exact e_isb (e_var rfl) e_cst (isb_aD (t.m p e) false true)
    have hd : evE pd.tab (cl (k+1)) (.din true (.var 9) (.var 4)) σ1 g = .ok (.bl (!decide (t.nx p e ∈ kn))) g := by
      refine e_din (e_var rfl) (e_var rfl) ?_
      simp only [dinD, hk, pD_tkey, hasK_kn fq fk]
      cases decide (t.nx p e ∈ kn) <;> rfl
    have hc : evE pd.tab (cl (k+1)) (.and (.or (.var 3) (.isb true (.var 7) (.cst (.bl false)))) (.din true (.var 9) (.var 4))) σ1 g = .ok (.bl (t.go p e && !decide (t.nx p e ∈ kn))) g := by
      cases h1 : t.go p e with
      | false => rw [h1] at hgo; exact e_andf hgo rfl
      | true => rw [h1] at hgo; exact e_andt hgo rfl hd
    rw [List.map_cons, List.all_cons]
    cases hb : t.bd p e with
    | true =>
      rw [hb] at hbd
      exact .inl ⟨by simp [Two.okE, hb], _, f_rt hg (b_rt (s_ift hbd rfl (b_ret e_cst)))⟩
    | false =>
      rw [hb] at hbd
      cases hx : (t.go p e && !decide (t.nx p e ∈ kn)) with
      | true =>
        rw [hx] at hc
        refine .inl ⟨?_, _, f_rt hg (b_nx (s_iff hbd rfl q_nil) (b_rt (s_ift hc rfl (b_ret e_cst))))⟩
        simp [Two.okE, hb] at hx ⊢
        intro h1
        simp [hx] at h1
      | false =>
        rw [hx] at hc
        have ho : t.okE kn p e = true := by
          simp [Two.okE, hb] at hx ⊢
          cases h1 : t.go p e with
          | false => simp
          | true => right; exact hx h1
        have hbod : evB pd.tab (cl (k+1)) b_law_closed_1 σ1 g = .ok (.nx, σ1) g := b_nx (s_iff hbd rfl q_nil) (b_nx (s_iff hc rfl q_nil) q_nil)
        rw [ho, Bool.true_and]
        rcases lclosed_in k t ok pl kv g kn hk fk p fp x5 es (some e.d) (some (aD (t.m p e))) (some (aD (t.n p e))) (some (pD (t.nx p e))) (fun x hx => heo x (List.mem_cons_of_mem _ hx)) with ⟨a1, σ', a2⟩ | ⟨a1, y6, y7, y8, y9, a2⟩
        · exact .inl ⟨a1, σ', f_nx hg hbod a2⟩
        · exact .inr ⟨a1, y6, y7, y8, y9, f_nx hg hbod a2⟩
end K02

set_option Elab.async false
set_option linter.all false
set_option maxRecDepth 100000
set_option maxHeartbeats 1000000
namespace K02
open PySem PySem.Spec PyProof.Rows L2 He MC MP
theorem lclosed_out (k : Nat) (t : Two) (ok : t.Ok) (pl kv : D) (g : Hs) (kn : List Pr) (hk : kv.kvs g = some (knD kn)) (fk : ∀ x ∈ kn, t.Fit x) : ∀ (qs : List Pr) (x5 x6 x7 x8 x9 : Option D), (∀ x ∈ qs, t.Fit x) →
    (qs.all (fun p => (evs t.a).all (t.okE kn p)) = false ∧ ∃ σ', loopF (evG pd.tab (cl (k+4)) g_law_closed_1) (evB pd.tab (cl (k+4)) b_law_closed_2) (qs.map pD) (kS t pl kv x5 x6 x7 x8 x9) g = .ok (.rt (.bl false), σ') g) ∨
    (qs.all (fun p => (evs t.a).all (t.okE kn p)) = true ∧ ∃ y5 y6 y7 y8 y9, loopF (evG pd.tab (cl (k+4)) g_law_closed_1) (evB pd.tab (cl (k+4)) b_law_closed_2) (qs.map pD) (kS t pl kv x5 x6 x7 x8 x9) g = .ok (.nx, kS t pl kv y5 y6 y7 y8 y9) g)
  | [], x5, x6, x7, x8, x9, _ => .inr ⟨rfl, x5, x6, x7, x8, x9, f_nil⟩
  | p :: qs, x5, x6, x7, x8, x9, fq => by
    have fp := fq p (List.mem_cons_self ..)
    have hg : evG pd.tab (cl (k+4)) g_law_closed_1 (pD p) (kS t pl kv x5 x6 x7 x8 x9) g = .ok (kS t pl kv (some (pD p)) x6 x7 x8 x9) g := g_nm
    have hit : evI pd.tab (cl (k+4)) (.val (.fn 65 (.cons (.var 0) (.cons (.var 1) (.cons (.var 5) .nil))))) (kS t pl kv (some (pD p)) x6 x7 x8 x9) g = .ok (.its ((evs t.a).map (rowD t p))) g := by
      have a4 : evE pd.tab (cl (k+4)) (.fn 65 (.cons (.var 0) (.cons (.var 1) (.cons (.var 5) .nil)))) (kS t pl kv (some (pD p)) x6 x7 x8 x9) g = .ok (.lst ((evs t.a).map (rowD t p))) g := e_fn (qa (e_var rfl) (qa (e_var rfl) (qa (e_var rfl) q0))) (l_both k t ok p fp g)
      simp only [evI]
      rw [a4]
      rfl
    rw [List.map_cons, List.all_cons]
    rcases lclosed_in (k+3) t ok pl kv g kn hk fk p fp (some (pD p)) (evs t.a) x6 x7 x8 x9 (fun e he => evs_ok he) with ⟨a1, σ', a2⟩ | ⟨a1, y6, y7, y8, y9, a2⟩
    · exact .inl ⟨by rw [a1]; rfl, σ', f_rt hg (b_rt (s_for hit a2))⟩
    · rw [a1, Bool.true_and]
      rcases lclosed_out k t ok pl kv g kn hk fk qs (some (pD p)) y6 y7 y8 y9 (fun x hx => fq x (List.mem_cons_of_mem _ hx)) with ⟨b1, σ', b2⟩ | ⟨b1, w5, w6, w7, w8, w9, b2⟩
      · exact .inl ⟨b1, σ', f_nx hg (b_nx (s_for hit a2) q_nil) b2⟩
      · exact .inr ⟨b1, w5, w6, w7, w8, w9, f_nx hg (b_nx (s_for hit a2) q_nil) b2⟩
theorem l_closed (k : Nat) (t : Two) (ok : t.Ok) (ps : List Pr) (fps : ∀ x ∈ ps, t.Fit x) (hl : ps.length ≤ 1000) (h : Hs) : cl (k+5) 68 [t.a.d, t.b.d, .lst (ps.map pD), .bl t.al] h = .ok (.bl (t.closed ps)) h := by
  obtain ⟨r1a, r3a, f1a, f2a, _⟩ := ok.wa
  obtain ⟨r1b, r3b, f1b, f2b, _⟩ := ok.wb
  let σ0 : Sg := [some t.a.d, some t.b.d, some (.lst (ps.map pD)), some (.bl t.al), none, none, none, none, none, none]
  let kn := ded [] ps
  have fk : ∀ x ∈ kn, t.Fit x := fun x hx => by
    rcases (mem_ded x ps []).mp hx with h1 | h1
    · cases h1
    · exact fps x h1
  have hs : t.closed ps = t.closed kn := t.closed_same fun x => by rw [mem_ded]; simp
  have e0 : evE pd.tab (cl (k+4)) c_law_closed_1 σ0 h = .ok (.lst (ps.map fun p => .tup [pD p, .bl true])) h := by
    have a : evE pd.tab (cl (k+4)) (.var 2) σ0 h = .ok (.lst (ps.map pD)) h := e_var rfl
    have b : evI pd.tab (cl (k+4)) (.val (.var 2)) σ0 h = .ok (.its (ps.map pD)) h := by
      simp only [evI]
      rw [a]
      rfl
    exact lc_map (en := pD) (f := fun p => .tup [pD p, .bl true]) b (by rw [sizeLine_eq]; omega) (fun p _ g => ⟨_, MP.g_nm, ot_none, e_tup (qa (e_var rfl) (qa e_cst q0)) (by simp [sizeLine])⟩) (fun p _ => by simp [D.nr, D.nrL, pDs_nr])
  have ep : ∀ qs : List Pr, pairsD (qs.map fun p => .tup [pD p, .bl true]) = some (knD qs) := fun qs => by
    induction qs with
    | nil => rfl
    | cons q qs ih => simp [pairsD, pD_tkey, ih, knD]
  let g : Hs := h ++ [.dct (knD kn)]
  have em : mergeN [] (knD ps) = knD kn := merge_kn (t := t) ps [] (fun x hx => by cases hx) fps
  have e1 : evS pd.tab (cl (k+4)) (.asg (.nm 4) (.dof c_law_closed_1)) σ0 h = .ok (.nx, kS t (.lst (ps.map pD)) (.ref h.length) none none none none none) g := by
    have z := e_dof e0 rfl (ep ps) (by rw [sizeLine_eq]; simp [knD]; omega)
    rw [em] at z
    exact s_set z
  have hk : (D.ref h.length).kvs g = some (knD kn) := by simp [D.kvs, g]
  have e2 : evE pd.tab (cl (k+4)) (.din true (.tup (.cons (.fn 58 (.cons (.var 0) .nil)) (.cons (.fn 58 (.cons (.var 1) .nil)) .nil))) (.var 4)) (kS t (.lst (ps.map pD)) (.ref h.length) none none none none none) g = .ok (.bl (!decide (t.st ∈ kn))) g := by
    refine e_din (x := pD t.st) (e_tup (qa (e_fn (qa (e_var rfl) q0) (l_start (k+2) t.a _ f1a (by omega) (by omega))) (qa (e_fn (qa (e_var rfl) q0) (l_start (k+2) t.b _ f1b (by omega) (by omega))) q0)) (by simp [sizeLine])) (e_var rfl) ?_
    simp only [dinD, hk, pD_tkey, hasK_kn (t.fit_st ok) fk]
    cases decide (t.st ∈ kn) <;> rfl
  rw [hs, closed_eq]
  cases hd : decide (t.st ∈ kn) with
  | false =>
    rw [hd] at e2
    have z := call_rt (k := k+4) (xs := [t.a.d, t.b.d, .lst (ps.map pD), .bl t.al]) (h := h) F_law_closed rfl (b_nx e1 (b_rt (s_ift e2 rfl (b_ret e_cst))))
    rw [z]
    exact back_nr rfl
  | true =>
    rw [hd] at e2
    have hit : evI pd.tab (cl (k+4)) (.dkeys (.var 4)) (kS t (.lst (ps.map pD)) (.ref h.length) none none none none none) g = .ok (.its (kn.map pD)) (h ++ [.lkd (knD kn)]) := by
      have a : evE pd.tab (cl (k+4)) (.var 4) (kS t (.lst (ps.map pD)) (.ref h.length) none none none none none) g = .ok (.ref h.length) g := e_var rfl
      have b : g[h.length]? = some (.dct (knD kn)) := by simp [g]
      simp only [evI, a, Res.bind, b, keys_kn]
      simp [g]
    have hk2 : (D.ref h.length).kvs (h ++ [.lkd (knD kn)]) = some (knD kn) := by simp [D.kvs]
    rcases lclosed_out k t ok (.lst (ps.map pD)) (.ref h.length) (h ++ [.lkd (knD kn)]) kn hk2 fk kn none none none none none fk with ⟨a1, σ', a2⟩ | ⟨a1, y5, y6, y7, y8, y9, a2⟩
    · rw [a1]
      have z := call_rt (k := k+4) (xs := [t.a.d, t.b.d, .lst (ps.map pD), .bl t.al]) (h := h) F_law_closed rfl (b_nx e1 (b_nx (s_iff e2 rfl q_nil) (b_rt (s_for hit a2))))
      rw [z]
      exact back_nr rfl
    · rw [a1]
      have z := call_rt (k := k+4) (xs := [t.a.d, t.b.d, .lst (ps.map pD), .bl t.al]) (h := h) F_law_closed rfl (b_nx e1 (b_nx (s_iff e2 rfl q_nil) (b_nx (s_for hit a2) (b_ret e_cst))))
      rw [z]
      exact back_nr rfl
end K02

set_option Elab.async false
set_option linter.all false
set_option maxRecDepth 100000
set_option maxHeartbeats 1000000
namespace K02
open PySem PySem.Spec PyProof.Rows L2 He MC MP
theorem p_showsL (k : Nat) (t : Two) (ok : t.Ok) (ps : List Pr) (fps : ∀ x ∈ ps, t.Fit x) (hl : ps.length ≤ 1000) (h : Hs) : cl (k+8) (if t.al then 41 else 35) [listD t.al ps, t.a.d, t.b.d] h = .ok (.bl (t.closed ps)) h := by
  have c := p_closed k t ok ps fps hl h
  cases ha : t.al with
  | true =>
    rw [ha] at c
    exact call_same (k := k+7) (xs := [listD true ps, t.a.d, t.b.d]) F_Alike_shows rfl (b_nx (s_exp (e_fn (qa (e_var rfl) (qa (e_var rfl) q0)) (p_checkTwo (k+5) t ok h))) (b_ret (e_fn (qa (e_var rfl) (qa (e_var rfl) (qa (e_fld (e_var rfl) rfl rfl rfl) (qa e_cst q0)))) c)))
  | false =>
    rw [ha] at c
    exact call_same (k := k+7) (xs := [listD false ps, t.a.d, t.b.d]) F_Within_shows rfl (b_nx (s_exp (e_fn (qa (e_var rfl) (qa (e_var rfl) q0)) (p_checkTwo (k+5) t ok h))) (b_ret (e_fn (qa (e_var rfl) (qa (e_var rfl) (qa (e_fld (e_var rfl) rfl rfl rfl) (qa e_cst q0)))) c)))
theorem p_showsH (k : Nat) (t : Two) (ok : t.Ok) (es : List Ev) (heo : ∀ e ∈ es, e.ok t.a) (h : Hs) : cl (k+7) (if t.al then 44 else 38) [histD t.al es, t.a.d, t.b.d] h = .ok (.bl (t.part false t.st es)) h := by
  have c := p_parting k t ok es heo h
  cases ha : t.al with
  | true =>
    rw [ha] at c
    exact call_same (k := k+6) (xs := [histD true es, t.a.d, t.b.d]) F_Apart_shows rfl (b_nx (s_exp (e_fn (qa (e_var rfl) (qa (e_var rfl) q0)) (p_checkTwo (k+4) t ok h))) (b_ret (e_fn (qa (e_var rfl) (qa (e_var rfl) (qa (e_fld (e_var rfl) rfl rfl rfl) (qa e_cst q0)))) c)))
  | false =>
    rw [ha] at c
    exact call_same (k := k+6) (xs := [histD false es, t.a.d, t.b.d]) F_Escapes_shows rfl (b_nx (s_exp (e_fn (qa (e_var rfl) (qa (e_var rfl) q0)) (p_checkTwo (k+4) t ok h))) (b_ret (e_fn (qa (e_var rfl) (qa (e_var rfl) (qa (e_fld (e_var rfl) rfl rfl rfl) (qa e_cst q0)))) c)))
theorem l_list (k : Nat) (al : Bool) (ps : List Pr) (h : Hs) : cl (k+2) 72 [.lst (ps.map pD), .bl al] h = .ok (listD al ps) h := by
  refine call_same (k := k+1) F_law_list rfl (b_ret (h1 := h) ?_)
  cases al with
  | true => exact e_itet (d := .bl true) (e_var rfl) rfl (m_list (k := k) true (e_var rfl))
  | false => exact e_itef (d := .bl false) (e_var rfl) rfl (m_list (k := k) false (e_var rfl))
theorem l_part (k : Nat) (al : Bool) (es : List Ev) (h : Hs) : cl (k+2) 73 [hD es, .bl al] h = .ok (histD al es) h := by
  refine call_same (k := k+1) F_law_part rfl (b_ret (h1 := h) ?_)
  cases al with
  | true => exact e_itet (d := .bl true) (e_var rfl) rfl (m_hist (k := k) true (e_var rfl))
  | false => exact e_itef (d := .bl false) (e_var rfl) rfl (m_hist (k := k) false (e_var rfl))
end K02

set_option Elab.async false
set_option linter.all false
set_option maxRecDepth 100000
set_option maxHeartbeats 1000000
namespace K02
open PySem PySem.Spec PyProof.Rows L2 He MC MP
theorem cut_hD (es : List Ev) (lo hi : Option Int) : ∃ es' : List Ev, (∀ e ∈ es', e ∈ es) ∧ es'.length ≤ es.length ∧ MC.cutD (es.map Ev.d) lo hi = es'.map Ev.d := by
  unfold MC.cutD
  rw [← List.map_drop, ← List.map_take]
  refine ⟨_, fun e he => List.mem_of_mem_drop (List.mem_of_mem_take he), ?_, rfl⟩
  simp
  omega
theorem add_hD (a b : List Ev) (g : Hs) (hl : a.length + b.length ≤ 5000) : opBin g .Add (.tup (a.map Ev.d)) (.tup (b.map Ev.d)) = some (hD (a ++ b)) := by
  have z : (a.map Ev.d).length + (b.map Ev.d).length ≤ sizeLine := by rw [sizeLine_eq]; simp; omega
  simp only [hD, opBin, opAdd, if_pos z]
  simp
theorem d_cut (k : Nat) (c : Ch) (f1 : 1 ≤ c.folk) (ns : List Int) (by_ n j : Nat) (es : List Ev) (h0 : 0 < es.length) (hl : es.length ≤ 1000) (heo : ∀ e ∈ es, e.ok c) (h : Hs) (hn : h[n]? = some (dr ns by_ j)) : ∃ es' : List Ev, (∀ e ∈ es', e.ok c) ∧ cl (k+4) 71 [.ref n, hD es] h = .ok (hD es') (h.set n (dr ns by_ (j+2))) := by
  have hln := (List.getElem?_eq_some_iff.mp hn).1
  have hs : ∀ i, (h.set n (dr ns by_ i))[n]? = some (dr ns by_ i) := fun i => List.getElem?_set_self hln
  obtain ⟨r, hr, e1, _⟩ := d_next k ns by_ n j es.length h0 h hn
  obtain ⟨q, hq, e2, _⟩ := d_next k ns by_ n (j+1) 4 (by decide) (h.set n (dr ns by_ (j+1))) (hs _)
  rw [List.set_set] at e2
  let g : Hs := h.set n (dr ns by_ (j+2))
  let σ1 : Sg := [some (.ref n), some (hD es), some (.int r), some (.int q)]
  have t1 : evS pd.tab (cl (k+3)) (.par 2 3 (.fn 52 (.cons (.var 0) (.cons (.bi .len (.cons (.var 1) .nil)) .nil))) (.fn 52 (.cons (.var 0) (.cons (.cst (.int 4)) .nil)))) [some (.ref n), some (hD es), none, none] h = .ok (.nx, σ1) g :=
    s_par (e_fn (qa (e_var rfl) (qa (e_bi (d := .int es.length) (qa (e_var rfl) q0) (by simp [biD, D.seq, hD])) q0)) e1) (e_fn (qa (e_var rfl) (qa e_cst q0)) e2)
  have hv1 : evE pd.tab (cl (k+3)) (.var 1) σ1 g = .ok (.tup (es.map Ev.d)) g := e_var rfl
  have hv2 : evE pd.tab (cl (k+3)) (.var 2) σ1 g = .ok (.int r) g := e_var rfl
  have heq : ∀ i : Nat, evE pd.tab (cl (k+3)) (.cmp .Eq (.var 3) (.cst (.int i))) σ1 g = .ok (.bl (decide (q = i))) g := fun i => by
    refine e_cmp (x := .int q) (y := .int i) (e_var rfl) e_cst ?_
    simp [opCmp, eqD_int]
    omega
  have hout : ∀ es' : List Ev, (∀ e ∈ es', e.ok c) → evB pd.tab (cl (k+3)) f_law_cut.body [some (.ref n), some (hD es), none, none] h = .ok (.rt (hD es'), σ1) g → ∃ es' : List Ev, (∀ e ∈ es', e.ok c) ∧ cl (k+4) 71 [.ref n, hD es] h = .ok (hD es') g := fun es' he' eb => by
    refine ⟨es', he', ?_⟩
    rw [call_rt (k := k+3) (xs := [.ref n, hD es]) F_law_cut rfl eb]
    exact back_len (by simp [g])
  have c1 := heq 0
  have c2 := heq 1
  have c3 := heq 2
  obtain ⟨p1, p2, p3, p4⟩ := cut_hD es none (some r)
  have sl1 : evE pd.tab (cl (k+3)) (.slc (.var 1) .none (.some (.var 2))) σ1 g = .ok (.tup (p1.map Ev.d)) g := e_slc01 hv1 hv2 (by simp only [slcD, p4])
  have hneg : evE pd.tab (cl (k+3)) (.neg (.cst (.int 1))) σ1 g = .ok (.int (-1)) g := by
    simp only [evE, Res.bind]
  by_cases q0' : q = 0
  · rw [decide_eq_true q0'] at c1
    obtain ⟨es', a1, a2, a3⟩ := cut_hD es none (some (-1))
    exact hout es' (fun e he => heo e (a1 e he)) (b_nx t1 (b_rt (s_ift c1 rfl (b_ret (e_slc01 (u := -1) hv1 hneg (by simp only [slcD, a3]; rfl))))))
  · rw [decide_eq_false q0'] at c1
    by_cases q1 : q = 1
    · rw [decide_eq_true q1] at c2
      obtain ⟨s1, s2, s3, s4⟩ := cut_hD es (some r) none
      have sl2 : evE pd.tab (cl (k+3)) (.slc (.var 1) (.some (.var 2)) .none) σ1 g = .ok (.tup (s1.map Ev.d)) g := e_slc10 hv1 hv2 (by simp only [slcD, s4])
      refine hout (p1 ++ [Ev.tick] ++ s1) (fun e he => ?_) (b_nx t1 (b_nx (s_iff c1 rfl q_nil) (b_rt (s_ift c2 rfl (b_ret (e_bin (e_bin sl1 (e_tup (xs := [Ev.tick].map Ev.d) (qa (e_tup (qa e_cst q0) (by simp [sizeLine])) q0) (by simp [sizeLine])) (add_hD p1 [.tick] g (by simp; omega))) sl2 (add_hD (p1 ++ [Ev.tick]) s1 g (by simp; omega))))))))
      simp at he
      rcases he with he | rfl | he
      · exact heo e (p2 e he)
      · trivial
      · exact heo e (s2 e he)
    · rw [decide_eq_false q1] at c2
      by_cases q2 : q = 2
      · rw [decide_eq_true q2] at c3
        obtain ⟨s1, s2, s3, s4⟩ := cut_hD es (some ((r : Int) + 1)) none
        have sl2 : evE pd.tab (cl (k+3)) (.slc (.var 1) (.some (.bin .Add (.var 2) (.cst (.int 1)))) .none) σ1 g = .ok (.tup (s1.map Ev.d)) g := e_slc10 hv1 (e_bin hv2 e_cst (add_ok _ _ _)) (by simp only [slcD, s4])
        refine hout (p1 ++ s1) (fun e he => ?_) (b_nx t1 (b_nx (s_iff c1 rfl q_nil) (b_nx (s_iff c2 rfl q_nil) (b_ret (e_itet c3 rfl (e_bin sl1 sl2 (add_hD p1 s1 g (by omega))))))))
        rcases List.mem_append.mp he with he | he
        · exact heo e (p2 e he)
        · exact heo e (s2 e he)
      · rw [decide_eq_false q2] at c3
        refine hout (es ++ [.ask 0]) (fun e he => ?_) (b_nx t1 (b_nx (s_iff c1 rfl q_nil) (b_nx (s_iff c2 rfl q_nil) (b_ret (e_itef c3 rfl (e_bin hv1 (e_tup (xs := [Ev.ask 0].map Ev.d) (qa (e_tup (qa e_cst (qa e_cst q0)) (by simp [sizeLine])) q0) (by simp [sizeLine])) (add_hD es [.ask 0] g (by simp; omega))))))))
        rcases List.mem_append.mp he with he | he
        · exact heo e he
        · rw [List.mem_singleton.mp he]
          exact f1
end K02

set_option Elab.async false
set_option linter.all false
set_option maxRecDepth 100000
set_option maxHeartbeats 1000000
namespace K02
open PySem PySem.Spec PyProof.Rows L2 He MC MP
theorem s_par3 {T : Tab} {cf : Nat → List D → Hs → Res D} {σ : Sg} {h h1 h2 h3 : Hs} {i j l : Nat} {a b c : E} {d d' d'' : D} (e : evE T cf a σ h = .ok d h1) (e2 : evE T cf b σ h1 = .ok d' h2) (e3 : evE T cf c σ h2 = .ok d'' h3) : evS T cf (.par3 i j l a b c) σ h = .ok (.nx, ((σ.set i (some d)).set j (some d')).set l (some d'')) h3 := by
  simp only [evS, e, e2, e3, Res.bind]
theorem e_rev {T : Tab} {cf : Nat → List D → Hs → Res D} {σ : Sg} {h h1 : Hs} {a : E} {x d : D} (e : evE T cf a σ h = .ok x h1) (e2 : revD h1 x = some d) : evE T cf (.rev a) σ h = .ok d h1 := by
  simp only [evE, e, e2, Res.bind, Res.of]
theorem ixN_nat {n i : Nat} (h : i < n) : L2.ixN n (i : Int) = some i := by
  unfold L2.ixN
  rw [if_pos (by omega), if_pos (by omega)]
  simp
def lH (h : Hs) (n : Nat) (ns : List Int) (by_ j : Nat) (ls : List Lk) : Hs := h.set n (dr ns by_ j) ++ [.lst (ls.map Lk.d)]
theorem lH_n {h : Hs} {n : Nat} (hl : n < h.length) (ns : List Int) (by_ j : Nat) (ls : List Lk) : (lH h n ns by_ j ls)[n]? = some (dr ns by_ j) := by
  unfold lH
  rw [List.getElem?_append_left (by simpa using hl)]
  exact List.getElem?_set_self hl
theorem lH_dr {h : Hs} {n : Nat} (hl : n < h.length) (ns : List Int) (by_ j j' : Nat) (ls : List Lk) : (lH h n ns by_ j ls).set n (dr ns by_ j') = lH h n ns by_ j' ls := by
  unfold lH
  rw [List.set_append_left _ _ (by simpa using hl), List.set_set]
theorem lH_l {h : Hs} {n : Nat} (ns : List Int) (by_ j : Nat) (ls : List Lk) : (lH h n ns by_ j ls)[h.length]? = some (.lst (ls.map Lk.d)) := by
  simp [lH]
theorem lH_set {h : Hs} {n : Nat} (ns : List Int) (by_ j : Nat) (ls ls' : List Lk) (xs : List D) (e : xs = ls'.map Lk.d) : (lH h n ns by_ j ls).set h.length (.lst xs) = lH h n ns by_ j ls' := by
  subst e
  simp [lH, List.set_append]
def likeI : S := (.ifs (.cmp .Eq (.var 2) (.cst (.int 0))) (.cons (.asg (.nm 3) (.rev (.var 3))) .nil) (.cons (.ifs (.and (.cmp .Eq (.var 2) (.cst (.int 1))) (.cmp .Lt (.bi .len (.cons (.var 3) .nil)) (.cst (.int 3)))) (.cons (.exp (.bm .append (.var 3) (.cons (.fn 54 (.cons (.var 0) (.cons (.cst (.int 3)) .nil))) .nil))) .nil) (.cons (.ifs (.cmp .Eq (.var 2) (.cst (.int 2))) (.cons (.asg (.sub (.var 3) (.var 5)) (.fn 54 (.cons (.var 0) (.cons (.cst (.int 3)) .nil)))) .nil) (.cons (.ifs (.cmp .Eq (.var 2) (.cst (.int 3))) (.cons (.asg (.sub (.var 3) (.var 5)) (.tup (.cons (.ite (.cmp .Eq (.idx (.idx (.var 3) (.var 5)) (.cst (.int 0))) (.cst (.str (Str.ofString "all")))) (.cst (.str (Str.ofString "each"))) (.cst (.str (Str.ofString "all")))) (.cons (.idx (.idx (.var 3) (.var 5)) (.cst (.int 1))) .nil)))) .nil) (.cons (.asg (.nm 4) (.not (.var 4))) .nil)) .nil)) .nil)) .nil))
theorem d_like (k : Nat) (c : Ch) (w : Wf c) (ns : List Int) (by_ n j : Nat) (h : Hs) (hn : h[n]? = some (dr ns by_ j)) : ∃ (c' : Ch) (h' : Hs), Wf c' ∧ c'.folk = c.folk ∧ cl (k+6) 70 [.ref n, c.d] h = .ok c'.d h' ∧ Drw ns by_ n h h' := by
  have hl := (List.getElem?_eq_some_iff.mp hn).1
  have hs : ∀ i, (h.set n (dr ns by_ i))[n]? = some (dr ns by_ i) := fun i => List.getElem?_set_self hl
  obtain ⟨r, hr, e1, _⟩ := d_next (k+2) ns by_ n j 5 (by decide) h hn
  obtain ⟨p, hp, e2, _⟩ := d_next (k+2) ns by_ n (j+1) c.rows.length w.r1 (lH h n ns by_ (j+1) c.rows) (lH_n hl ..)
  rw [lH_dr hl] at e2
  let σ0 : Sg := [some (.ref n), some c.d, none, none, none, none]
  let σ1 : Sg := [some (.ref n), some c.d, some (.int r), some (.ref h.length), some (.bl c.costly), none]
  let S2 : D → Bool → Sg := fun rv fee => [some (.ref n), some c.d, some (.int r), some rv, some (.bl fee), some (.int p)]
  have nl : evE pd.tab (cl (k+5)) (.nls (.prp 21 (.var 1))) σ0 (h.set n (dr ns by_ (j+1))) = .ok (.ref h.length) (lH h n ns by_ (j+1) c.rows) := by
    have := e_nls (T := pd.tab) (cl := cl (k+5)) (σ := σ0) (e_prp (m := 21) (e_var (i := 1) rfl) (Ch.rows_fld c _) m_links (c_links (k+4) c (h.set n (dr ns by_ (j+1))))) (xs := c.rows.map Lk.d) rfl
    rw [List.length_set] at this
    exact this
  have t1 : evS pd.tab (cl (k+5)) (.par3 2 3 4 (.fn 52 (.cons (.var 0) (.cons (.cst (.int 5)) .nil))) (.nls (.prp 21 (.var 1))) (.prp 14 (.var 1))) σ0 h = .ok (.nx, σ1) (lH h n ns by_ (j+1) c.rows) :=
    s_par3 (e_fn (qa (e_var rfl) (qa e_cst q0)) e1) nl (e_prp (e_var rfl) (Ch.rows_fld c _) m_charges (c_charges (k+4) c _))
  have t2 : evS pd.tab (cl (k+5)) (.asg (.nm 5) (.fn 52 (.cons (.var 0) (.cons (.bi .len (.cons (.var 3) .nil)) .nil)))) σ1 (lH h n ns by_ (j+1) c.rows) = .ok (.nx, S2 (.ref h.length) c.costly) (lH h n ns by_ (j+2) c.rows) :=
    s_set (e_fn (qa (e_var rfl) (qa (e_bi (d := .int c.rows.length) (qa (e_var rfl) q0) (by simp only [biD, D.seq, lH_l, Option.map_some, List.length_map])) q0)) e2)
  have fin : ∀ (rv : D) (fee : Bool) (ls ls' : List Lk) (j' : Nat), j < j' → rv.seq (lH h n ns by_ j' ls) = some (ls'.map Lk.d) → 1 ≤ ls'.length → ls'.length ≤ 3 → (∀ l ∈ ls', wfP l.p) → evS pd.tab (cl (k+5)) likeI (S2 (.ref h.length) c.costly) (lH h n ns by_ (j+2) c.rows) = .ok (.nx, S2 rv fee) (lH h n ns by_ j' ls) → ∃ (c' : Ch) (h' : Hs), Wf c' ∧ c'.folk = c.folk ∧ cl (k+6) 70 [.ref n, c.d] h = .ok c'.d h' ∧ Drw ns by_ n h h' := by
    intro rv fee ls ls' j' hj hq l1 l3 lw e
    let c' : Ch := ⟨ls', c.folk, fee⟩
    have w' : Wf c' := ⟨l1, l3, w.f1, w.f2, lw⟩
    let g := lH h n ns by_ j' ls
    have dw : Drw ns by_ n h g := Drw.of hn hj
    refine ⟨c', g, w', rfl, ?_, dw⟩
    have hcm := c_mk (k+1) c' g w'
    have em : evE pd.tab (cl (k+5)) (.mk 4 2 (.cons (.bi .tuple (.cons (.var 3) .nil)) .nil) (.cons (.prp 13 (.var 1)) (.cons (.var 4) .nil))) (S2 rv fee) g = .ok c'.d g := by
      refine e_mk (zs := [c'.rd, .int c'.folk, .bl c'.costly]) (qa (e_bi (d := c'.rd) (qa (e_var rfl) q0) ?_) q0) (qa (e_prp (e_var rfl) (Ch.rows_fld c _) m_callers (c_callers (k+4) c _)) (qa (e_var rfl) q0)) (show pd.tab.init 4 = some (5, true) by decide +kernel) (by rfl) hcm.1 hcm.2
      simp only [biD, show rv.seq g = some (ls'.map Lk.d) from hq, Option.map_some]
      rfl
    have e6 := call_rt (k := k + 5) (xs := [.ref n, c.d]) F_law_like rfl (b_nx t1 (b_nx t2 (b_nx e (b_ret em))))
    rw [e6]
    exact dw.ne
  have heq : ∀ i : Nat, evE pd.tab (cl (k+5)) (.cmp .Eq (.var 2) (.cst (.int i))) (S2 (.ref h.length) c.costly) (lH h n ns by_ (j+2) c.rows) = .ok (.bl (decide (r = i))) (lH h n ns by_ (j+2) c.rows) := fun i => by
    refine e_cmp (x := .int r) (y := .int i) (e_var rfl) e_cst ?_
    simp [opCmp, eqD_int]
    omega
  have hv3 : evE pd.tab (cl (k+5)) (.var 3) (S2 (.ref h.length) c.costly) (lH h n ns by_ (j+2) c.rows) = .ok (.ref h.length) (lH h n ns by_ (j+2) c.rows) := e_var rfl
  have hlt : evE pd.tab (cl (k+5)) (.cmp .Lt (.bi .len (.cons (.var 3) .nil)) (.cst (.int 3))) (S2 (.ref h.length) c.costly) (lH h n ns by_ (j+2) c.rows) = .ok (.bl (decide (c.rows.length < 3))) (lH h n ns by_ (j+2) c.rows) := by
    refine e_cmp (x := .int c.rows.length) (e_bi (qa hv3 q0) (by simp only [biD, D.seq, lH_l, Option.map_some, List.length_map])) e_cst ?_
    simp [opCmp]
    omega
  obtain ⟨l, lw, el⟩ := d_link k ns by_ n (j+2) 3 (by decide) (by decide) (lH h n ns by_ (j+2) c.rows) (lH_n hl ..)
  rw [lH_dr hl] at el
  have elk : evE pd.tab (cl (k+5)) (.fn 54 (.cons (.var 0) (.cons (.cst (.int 3)) .nil))) (S2 (.ref h.length) c.costly) (lH h n ns by_ (j+2) c.rows) = .ok l.d (lH h n ns by_ (j+6) c.rows) := e_fn (qa (e_var rfl) (qa e_cst q0)) el
  have c0 := heq 0
  have c1 := heq 1
  have c2 := heq 2
  have c3 := heq 3
  by_cases r0 : r = 0
  · rw [decide_eq_true r0] at c0
    refine fin (.lst (c.rows.reverse.map Lk.d)) c.costly c.rows c.rows.reverse (j+2) (by omega) rfl (by simpa using w.r1) (by simpa using w.r3) (fun l hl => w.pt l (by simpa using hl)) (s_ift c0 rfl (b_nx (s_set (e_rev hv3 ?_)) q_nil))
    simp [revD, D.lseq, lH_l]
  · rw [decide_eq_false r0] at c0
    by_cases r1 : r = 1 ∧ c.rows.length < 3
    · rw [decide_eq_true r1.1] at c1
      rw [decide_eq_true r1.2] at hlt
      refine fin (.ref h.length) c.costly (c.rows ++ [l]) (c.rows ++ [l]) (j+6) (by omega) (by simp only [D.seq, lH_l]) (by simp) (by simp; omega) (fun x hx => ?_) (s_iff c0 rfl (b_nx (s_ift (e_andt c1 rfl hlt) rfl (b_nx (s_exp (e_app hv3 (xs := c.rows.map Lk.d) (by simp only [D.lseq, lH_l]) elk (lH_l ..) (by rw [sizeLine_eq]; simp; omega) (lH_set ns by_ (j+6) c.rows (c.rows ++ [l]) _ (by simp)))) q_nil)) q_nil))
      rcases List.mem_append.mp hx with hx | hx
      · exact w.pt x hx
      · rw [List.mem_singleton.mp hx]; exact lw
    · have cn : evE pd.tab (cl (k+5)) (.and (.cmp .Eq (.var 2) (.cst (.int 1))) (.cmp .Lt (.bi .len (.cons (.var 3) .nil)) (.cst (.int 3)))) (S2 (.ref h.length) c.costly) (lH h n ns by_ (j+2) c.rows) = .ok (.bl false) (lH h n ns by_ (j+2) c.rows) := by
        by_cases r1' : r = 1
        · rw [decide_eq_true r1'] at c1
          rw [decide_eq_false (fun z => r1 ⟨r1', z⟩)] at hlt
          exact e_andt c1 rfl hlt
        · rw [decide_eq_false r1'] at c1
          exact e_andf c1 rfl
      by_cases r2 : r = 2
      · rw [decide_eq_true r2] at c2
        refine fin (.ref h.length) c.costly (c.rows.set p l) (c.rows.set p l) (j+6) (by omega) (by simp only [D.seq, lH_l]) (by simpa using w.r1) (by simpa using w.r3) (fun x hx => ?_) (s_iff c0 rfl (b_nx (s_iff cn rfl (b_nx (s_ift c2 rfl (b_nx (s_asg elk (g_sub (e_var rfl) (e_var rfl) (lH_l ..) (ixN_nat (by simpa using hp)) (lH_set ns by_ (j+6) c.rows (c.rows.set p l) _ (by rw [List.map_set])))) q_nil)) q_nil)) q_nil))
        rcases List.mem_or_eq_of_mem_set hx with hx | rfl
        · exact w.pt x hx
        · exact lw
      · rw [decide_eq_false r2] at c2
        by_cases r3 : r = 3
        · rw [decide_eq_true r3] at c3
          let q : Lk := c.rows[p]
          have hrow : evE pd.tab (cl (k+5)) (.idx (.var 3) (.var 5)) (S2 (.ref h.length) c.costly) (lH h n ns by_ (j+2) c.rows) = .ok (.tup [.str q.sc, q.p.d]) (lH h n ns by_ (j+2) c.rows) := by
            refine e_idx (y := .int p) hv3 (e_var rfl) ?_
            simp only [idxD, lH_l, atD_nat]
            simp [hp, q, Lk.d]
          have hsc : evE pd.tab (cl (k+5)) (.cmp .Eq (.idx (.idx (.var 3) (.var 5)) (.cst (.int 0))) (.cst (.str (Str.ofString "all")))) (S2 (.ref h.length) c.costly) (lH h n ns by_ (j+2) c.rows) = .ok (.bl q.all) (lH h n ns by_ (j+2) c.rows) := by
            refine e_cmp (x := .str q.sc) (e_idx hrow e_cst rfl) e_cst ?_
            unfold Lk.sc
            cases q.all <;> simp [opCmp, eqD_str]
          have hit : evE pd.tab (cl (k+5)) (.ite (.cmp .Eq (.idx (.idx (.var 3) (.var 5)) (.cst (.int 0))) (.cst (.str (Str.ofString "all")))) (.cst (.str (Str.ofString "each"))) (.cst (.str (Str.ofString "all")))) (S2 (.ref h.length) c.costly) (lH h n ns by_ (j+2) c.rows) = .ok (.str (Lk.mk (!q.all) q.p).sc) (lH h n ns by_ (j+2) c.rows) := by
            cases hq : q.all with
            | true =>
              rw [hq] at hsc
              exact e_itet hsc rfl e_cst
            | false =>
              rw [hq] at hsc
              exact e_itef hsc rfl e_cst
          have htp : evE pd.tab (cl (k+5)) (.tup (.cons (.ite (.cmp .Eq (.idx (.idx (.var 3) (.var 5)) (.cst (.int 0))) (.cst (.str (Str.ofString "all")))) (.cst (.str (Str.ofString "each"))) (.cst (.str (Str.ofString "all")))) (.cons (.idx (.idx (.var 3) (.var 5)) (.cst (.int 1))) .nil))) (S2 (.ref h.length) c.costly) (lH h n ns by_ (j+2) c.rows) = .ok (Lk.mk (!q.all) q.p).d (lH h n ns by_ (j+2) c.rows) :=
            e_tup (xs := [.str (Lk.mk (!q.all) q.p).sc, q.p.d]) (qa hit (qa (e_idx hrow e_cst rfl) q0)) (by simp [sizeLine])
          refine fin (.ref h.length) c.costly (c.rows.set p ⟨!q.all, q.p⟩) (c.rows.set p ⟨!q.all, q.p⟩) (j+2) (by omega) (by simp only [D.seq, lH_l]) (by simpa using w.r1) (by simpa using w.r3) (fun x hx => ?_) (s_iff c0 rfl (b_nx (s_iff cn rfl (b_nx (s_iff c2 rfl (b_nx (s_ift c3 rfl (b_nx (s_asg htp (g_sub (e_var rfl) (e_var rfl) (lH_l ..) (ixN_nat (by simpa using hp)) (lH_set ns by_ (j+2) c.rows (c.rows.set p ⟨!q.all, q.p⟩) _ (by rw [List.map_set])))) q_nil)) q_nil)) q_nil)) q_nil))
          rcases List.mem_or_eq_of_mem_set hx with hx | rfl
          · exact w.pt x hx
          · exact w.pt q (List.getElem_mem hp)
        · rw [decide_eq_false r3] at c3
          exact fin (.ref h.length) (!c.costly) c.rows c.rows (j+2) (by omega) (by simp only [D.seq, lH_l]) w.r1 w.r3 w.pt (s_iff c0 rfl (b_nx (s_iff cn rfl (b_nx (s_iff c2 rfl (b_nx (s_iff c3 rfl (b_nx (s_set (e_not (e_var rfl) rfl)) q_nil)) q_nil)) q_nil)) q_nil))
end K02

set_option Elab.async false
set_option linter.all false
set_option maxRecDepth 100000
set_option maxHeartbeats 1000000
namespace K02
open PySem PySem.Spec PyProof.Rows L2 He MC MP
def Two.Good (t : Two) (met : Met) : Prop := ∀ x ∈ met, t.Fit x.1 ∧ (∀ e ∈ x.2, e.ok t.a) ∧ x.2.length < met.length
theorem Two.scan_good (t : Two) (ok : t.Ok) (p : Pr) (hp : List Ev) (fp : t.Fit p) (eh : ∀ e ∈ hp, e.ok t.a) : ∀ (es : List Ev) (met : Met), (∀ e ∈ es, e.ok t.a) → t.Good met → hp.length < met.length →
    (∀ hist met', t.scan p hp es met = .inl (hist, met') → t.Good met' ∧ (∀ e ∈ hist, e.ok t.a) ∧ hist.length ≤ met'.length ∧ met'.length ≤ met.length + es.length) ∧
    (∀ met', t.scan p hp es met = .inr met' → t.Good met' ∧ met'.length ≤ met.length + es.length)
  | [], met, _, G, hl => by
    refine ⟨fun hist met' z => by simp [Two.scan] at z, fun met' z => ?_⟩
    simp only [Two.scan, Sum.inr.injEq] at z
    subst z
    exact ⟨G, by simp⟩
  | e :: es, met, he, G, hl => by
    have e0 : e.ok t.a := he e (List.mem_cons_self ..)
    have he' : ∀ x ∈ es, x.ok t.a := fun x hx => he x (List.mem_cons_of_mem _ hx)
    have ehe : ∀ x ∈ hp ++ [e], x.ok t.a := fun x hx => by
      rcases List.mem_append.mp hx with hx | hx
      · exact eh x hx
      · rw [List.mem_singleton.mp hx]; exact e0
    simp only [Two.scan]
    split
    · refine ⟨fun hist met' z => ?_, fun met' z => by simp at z⟩
      simp only [Sum.inl.injEq, Prod.mk.injEq] at z
      obtain ⟨rfl, rfl⟩ := z
      exact ⟨G, ehe, by simp; omega, by simp⟩
    · split
      · have G' : t.Good (met ++ [(t.nx p e, hp ++ [e])]) := fun x hx => by
          rcases List.mem_append.mp hx with hx | hx
          · obtain ⟨a, b, c⟩ := G x hx
            exact ⟨a, b, by simp; omega⟩
          · rw [List.mem_singleton.mp hx]
            exact ⟨t.fit_nx ok fp e0, ehe, by simp; omega⟩
        obtain ⟨r1, r2⟩ := Two.scan_good t ok p hp fp eh es _ he' G' (by simp; omega)
        refine ⟨fun hist met' z => ?_, fun met' z => ?_⟩
        · obtain ⟨a, b, c, d⟩ := r1 hist met' z
          simp at d
          exact ⟨a, b, c, by simp; omega⟩
        · obtain ⟨a, d⟩ := r2 met' z
          simp at d
          exact ⟨a, by simp; omega⟩
      · obtain ⟨r1, r2⟩ := Two.scan_good t ok p hp fp eh es met he' G hl
        refine ⟨fun hist met' z => ?_, fun met' z => ?_⟩
        · obtain ⟨a, b, c, d⟩ := r1 hist met' z
          exact ⟨a, b, c, by simp; omega⟩
        · obtain ⟨a, d⟩ := r2 met' z
          exact ⟨a, by simp; omega⟩
theorem Two.srch_good (t : Two) (ok : t.Ok) : ∀ (k i : Nat) (met : Met), t.Good met → met.length ≤ 400 → ∀ due met', t.srch k i met = some (due, met') → (∀ x ∈ met', t.Fit x.1) ∧ met'.length ≤ 500 ∧ ∀ hist, due = some hist → (∀ e ∈ hist, e.ok t.a) ∧ hist.length ≤ 500
  | 0, i, met, G, hl, due, met', z => by cases z
  | k + 1, i, met, G, hl, due, met', z => by
    have f2 := ok.wa.f2
    simp only [Two.srch] at z
    split at z
    · simp only [Option.some.injEq, Prod.mk.injEq] at z
      obtain ⟨rfl, rfl⟩ := z
      exact ⟨fun x hx => (G x hx).1, by omega, fun hist z => by cases z⟩
    · rename_i p h hm
      have hmem := List.mem_of_getElem? hm
      obtain ⟨g1, g2, g3⟩ := G _ hmem
      obtain ⟨s1, s2⟩ := t.scan_good ok p h g1 g2 (evs t.a) met (fun e he => evs_ok he) G g3
      rw [evs_len] at s1 s2
      split at z
      · rename_i hist met2 hs
        simp only [Option.some.injEq, Prod.mk.injEq] at z
        obtain ⟨rfl, rfl⟩ := z
        obtain ⟨a, b, c, d⟩ := s1 _ _ hs
        refine ⟨fun x hx => (a x hx).1, by omega, fun hh z => ?_⟩
        cases z
        exact ⟨b, by omega⟩
      · rename_i met2 hs
        obtain ⟨a, d⟩ := s2 _ hs
        split at z
        · cases z
        · exact Two.srch_good t ok k (i+1) met2 a (by omega) due met' z
theorem Two.good0 (t : Two) (ok : t.Ok) : t.Good t.met0 := fun x hx => by
  simp [Two.met0] at hx
  subst hx
  exact ⟨t.fit_st ok, (fun _ z => nomatch z), by simp [Two.met0]⟩
theorem Two.closed_nil (t : Two) : t.closed [] = false := by simp [Two.closed]
theorem Two.closed_bd (t : Two) {ps : List Pr} (h : t.closed ps = true) {e : Ev} (he : e ∈ evs t.a) : t.st ∈ ps ∧ t.bd t.st e = false := by
  unfold Two.closed at h
  rw [Bool.and_eq_true, decide_eq_true_eq, List.all_eq_true] at h
  refine ⟨h.1, ?_⟩
  have := List.all_eq_true.mp (h.2 _ h.1) e he
  rw [Bool.and_eq_true] at this
  simpa using this.1
theorem Two.part_one (t : Two) (ok : t.Ok) {ps : List Pr} (h : t.closed ps = true) : t.part false t.st [.ask 0] = false := by
  have hm : Ev.ask 0 ∈ evs t.a := by
    have := ok.wa.f1
    simp [evs]
    omega
  have := (t.closed_bd h hm).2
  simp [Two.part, this]
theorem eqD_dt {n m : Nat} {d e : D} (hd : Dt n d) (he : Dt m e) (hn : n ≤ 64) (hm : m ≤ 64) : ∃ b, ∀ h, eqD h d e = some b := by
  obtain ⟨x, e1, e2, e3⟩ := hd.py
  obtain ⟨y, f1, f2, f3⟩ := he.py
  refine ⟨PyData.eqv x y, fun h => ?_⟩
  unfold eqD
  rw [hd.noref, he.noref, e1, f1]
  simp [SeqAt.shaped, e2, f2]
  omega
def neB (p q : Pr) : Bool := !((eqD [] (pD p) (pD q)).getD true)
theorem ne_pD (p q : Pr) (h : Hs) : opCmp h .NotEq (pD p) (pD q) = some (.bl (neB p q)) := by
  obtain ⟨b, hb⟩ := eqD_dt (pD_dt p) (pD_dt q) (by decide) (by decide)
  simp [opCmp, neB, hb]
theorem lc_filter {α : Type} {en : α → D} {f : α → Bool} {tg : D → Sg → Hs → Res Sg} {ts : Sg → Hs → Res Bool} {el : Sg → Hs → Res D} {σ : Sg} {g : Hs} : ∀ {as : List α} {acc : List D}, acc.length + as.length ≤ sizeLine →
    (∀ a ∈ as, ∀ h, ∃ σ', tg (en a) σ h = .ok σ' h ∧ ts σ' h = .ok (f a) h ∧ el σ' h = .ok (en a) h) →
    loopLC tg ts el σ g.length (as.map en) (g ++ [.lst acc]) = .ok () (g ++ [.lst (acc ++ (as.filter f).map en)])
  | [], acc, _, _ => by simp [loopLC]
  | x :: xs, acc, hl, hx => by
    obtain ⟨σ', e1, e3, e4⟩ := hx x (List.mem_cons_self ..) (g ++ [.lst acc])
    have hx' := fun z hz => hx z (List.mem_cons_of_mem _ hz)
    simp only [List.length_cons] at hl
    cases hf : f x with
    | true =>
      rw [hf] at e3
      simp only [List.map_cons, loopLC, e1, e3, e4, Res.bind, if_true]
      rw [push_ok (by omega)]
      simp only
      rw [lc_filter (acc := acc ++ [en x]) (by simp; omega) hx', List.filter_cons, hf]
      simp
    | false =>
      rw [hf] at e3
      simp only [List.map_cons, loopLC, e1, e3, Res.bind, Bool.false_eq_true, if_false]
      rw [lc_filter (acc := acc) (by omega) hx', List.filter_cons, hf]
      simp
end K02

set_option Elab.async false
set_option linter.all false
set_option maxRecDepth 100000
set_option maxHeartbeats 1000000
namespace K02
open PySem PySem.Spec PyProof.Rows L2 He MC MP
theorem ok_own6 (g : Hs) (ps : List Pr) : (tyOk pd.tab.cok g (listD false ps) && [Ty.own 6].all (tyIn pd.tab.cok)) = true := by rfl
theorem ok_own8 (g : Hs) (ps : List Pr) : (tyOk pd.tab.cok g (listD true ps) && [Ty.own 8].all (tyIn pd.tab.cok)) = true := by rfl
theorem ok_own7 (g : Hs) (es : List Ev) : (tyOk pd.tab.cok g (histD false es) && [Ty.own 7].all (tyIn pd.tab.cok)) = true := by rfl
theorem ok_own9 (g : Hs) (es : List Ev) : (tyOk pd.tab.cok g (histD true es) && [Ty.own 9].all (tyIn pd.tab.cok)) = true := by rfl
/-- shows of a list -/
theorem e_shL {k : Nat} {t : Two} (ok : t.Ok) {ps : List Pr} (fps : ∀ x ∈ ps, t.Fit x) (hl : ps.length ≤ 1000) {σ : Sg} {h g : Hs} {a x y : E} (e : evE pd.tab (cl (k+8)) a σ h = .ok (listD t.al ps) g) (e1 : evE pd.tab (cl (k+8)) x σ g = .ok t.a.d g) (e2 : evE pd.tab (cl (k+8)) y σ g = .ok t.b.d g) : evE pd.tab (cl (k+8)) (.mth 29 a (.cons x (.cons y .nil))) σ h = .ok (.bl (t.closed ps)) g := by
  have s := p_showsL k t ok ps fps hl g
  cases ha : t.al with
  | true =>
    rw [ha] at e s
    exact e_mth (c := 8) (fs := [(25, .lst (ps.map pD))]) (fs' := [(25, .lst (ps.map pD))]) e rfl rfl (show pd.tab.meth 8 29 = some 41 by decide +kernel) (qa e1 (qa e2 q0)) rfl s
  | false =>
    rw [ha] at e s
    exact e_mth (c := 6) (fs := [(25, .lst (ps.map pD))]) (fs' := [(25, .lst (ps.map pD))]) e rfl rfl (show pd.tab.meth 6 29 = some 35 by decide +kernel) (qa e1 (qa e2 q0)) rfl s
/-- shows of a history -/
theorem e_shH {k : Nat} {t : Two} (ok : t.Ok) {es : List Ev} (heo : ∀ e ∈ es, e.ok t.a) {σ : Sg} {h g : Hs} {a x y : E} (e : evE pd.tab (cl (k+7)) a σ h = .ok (histD t.al es) g) (e1 : evE pd.tab (cl (k+7)) x σ g = .ok t.a.d g) (e2 : evE pd.tab (cl (k+7)) y σ g = .ok t.b.d g) : evE pd.tab (cl (k+7)) (.mth 29 a (.cons x (.cons y .nil))) σ h = .ok (.bl (t.part false t.st es)) g := by
  have s := p_showsH k t ok es heo g
  cases ha : t.al with
  | true =>
    rw [ha] at e s
    exact e_mth (c := 9) (fs := [(19, hD es)]) (fs' := [(19, hD es)]) e rfl rfl (show pd.tab.meth 9 29 = some 44 by decide +kernel) (qa e1 (qa e2 q0)) rfl s
  | false =>
    rw [ha] at e s
    exact e_mth (c := 7) (fs := [(19, hD es)]) (fs' := [(19, hD es)]) e rfl rfl (show pd.tab.meth 7 29 = some 38 by decide +kernel) (qa e1 (qa e2 q0)) rfl s
theorem e_prs {cf : Nat → List D → Hs → Res D} {σ : Sg} {h g : Hs} {a : E} {al : Bool} {ps : List Pr} (e : evE pd.tab cf a σ h = .ok (listD al ps) g) : evE pd.tab cf (.fld a 25) σ h = .ok (.lst (ps.map pD)) g := by
  cases al with
  | true => exact e_fld (c := 8) (fs := [(25, .lst (ps.map pD))]) e rfl (by decide +kernel) rfl
  | false => exact e_fld (c := 6) (fs := [(25, .lst (ps.map pD))]) e rfl (by decide +kernel) rfl
theorem e_hst {cf : Nat → List D → Hs → Res D} {σ : Sg} {h g : Hs} {a : E} {al : Bool} {es : List Ev} (e : evE pd.tab cf a σ h = .ok (histD al es) g) : evE pd.tab cf (.fld a 19) σ h = .ok (hD es) g := by
  cases al with
  | true => exact e_fld (c := 9) (fs := [(19, hD es)]) e rfl (by decide +kernel) rfl
  | false => exact e_fld (c := 7) (fs := [(19, hD es)]) e rfl (by decide +kernel) rfl
theorem l_pairs (k : Nat) (t : Two) (ok : t.Ok) (ps : List Pr) (fps : ∀ x ∈ ps, t.Fit x) (hl : ps.length ≤ 1000) (hc : t.closed ps = true) (ns : List Int) (by_ n j : Nat) (h : Hs) (hn : h[n]? = some (dr ns by_ j)) : cl (k+9) 74 [.ref n, t.a.d, t.b.d, listD t.al ps, .bl t.al] h = .ok (.bl true) (h.set n (dr ns by_ (j+1))) := by
  have hp0 : 0 < (ps.map pD).length := by
    have := (t.closed_bd hc (e := .tick) (by simp [evs])).1
    rw [List.length_map]
    exact List.length_pos_of_mem this
  obtain ⟨gone, hg, e4⟩ := d_pick (k+4) ns by_ n j (ps.map pD) hp0 h hn
  obtain ⟨q, hq, rfl⟩ := List.mem_map.mp hg
  let g := h.set n (dr ns by_ (j+1))
  let S : Option D → Option D → Option D → Option D → Option D → Sg := fun x5 x6 x7 x8 x9 => [some (.ref n), some t.a.d, some t.b.d, some (listD t.al ps), some (.bl t.al), x5, x6, x7, x8, x9]
  have t1 : evS pd.tab (cl (k+8)) (.asg (.nm 5) (.ite (.var 4) (.isi (.var 3) [(.own 8)]) (.isi (.var 3) [(.own 6)]))) (S none none none none none) h = .ok (.nx, S (some (.bl true)) none none none none) h := by
    refine s_set ?_
    have v4 : evE pd.tab (cl (k+8)) (.var 4) (S none none none none none) h = .ok (.bl t.al) h := e_var rfl
    have v3 : evE pd.tab (cl (k+8)) (.var 3) (S none none none none none) h = .ok (listD t.al ps) h := e_var rfl
    cases ha : t.al with
    | true =>
      rw [ha] at v4 v3
      exact e_itet v4 rfl (e_isi (ts := [.own 8]) v3 (ok_own8 h ps))
    | false =>
      rw [ha] at v4 v3
      exact e_itef v4 rfl (e_isi (ts := [.own 6]) v3 (ok_own6 h ps))
  have lc1 := l_closed (k+3) t ok ps fps hl h
  rw [hc] at lc1
  have t2 : evS pd.tab (cl (k+8)) (.ifs (.or (.not (.var 5)) (.not (.fn 68 (.cons (.var 1) (.cons (.var 2) (.cons (.fld (.var 3) 25) (.cons (.var 4) .nil))))))) (.cons (.ret (.cst (.bl false))) .nil) .nil) (S (some (.bl true)) none none none none) h = .ok (.nx, S (some (.bl true)) none none none none) h :=
    s_iff (e_orf (e_not (e_var rfl) rfl) rfl (e_not (e_fn (qa (e_var rfl) (qa (e_var rfl) (qa (e_prs (e_var rfl)) (qa (e_var rfl) q0)))) lc1) rfl)) rfl q_nil
  have sh1 : evE pd.tab (cl (k+8)) (.mth 29 (.var 3) (.cons (.var 1) (.cons (.var 2) .nil))) (S (some (.bl true)) none none none none) h = .ok (.bl true) h := by
    rw [← hc]
    exact e_shL ok fps hl (e_var rfl) (e_var rfl) (e_var rfl)
  have sh2 : evE pd.tab (cl (k+8)) (.mth 29 (.fn 72 (.cons (.lst true .nil) (.cons (.var 4) .nil))) (.cons (.var 1) (.cons (.var 2) .nil))) (S (some (.bl true)) none none none none) h = .ok (.bl false) h := by
    rw [← t.closed_nil]
    exact e_shL ok (ps := []) (fun _ z => nomatch z) (by simp) (e_fn (qa (e_lstT q0 (by simp [sizeLine])) (qa (e_var rfl) q0)) (l_list (k+6) t.al [] h)) (e_var rfl) (e_var rfl)
  have t3 : evS pd.tab (cl (k+8)) (.ifs (.or (.isb true (.mth 29 (.var 3) (.cons (.var 1) (.cons (.var 2) .nil))) (.cst (.bl true))) (.mth 29 (.fn 72 (.cons (.lst true .nil) (.cons (.var 4) .nil))) (.cons (.var 1) (.cons (.var 2) .nil)))) (.cons (.ret (.cst (.bl false))) .nil) .nil) (S (some (.bl true)) none none none none) h = .ok (.nx, S (some (.bl true)) none none none none) h :=
    s_iff (e_orf (e_isb (d := .bl false) sh1 e_cst rfl) rfl sh2) rfl q_nil
  have t4 : evS pd.tab (cl (k+8)) (.asg (.nm 6) (.fn 53 (.cons (.var 0) (.cons (.fld (.var 3) 25) .nil)))) (S (some (.bl true)) none none none none) h = .ok (.nx, S (some (.bl true)) (some (pD q)) none none none) g :=
    s_set (e_fn (qa (e_var rfl) (qa (e_prs (e_var rfl)) q0)) e4)
  let less := ps.filter fun p => neB p q
  have fl : ∀ x ∈ less, t.Fit x := fun x hx => fps x (List.mem_filter.mp hx).1
  have ll : less.length ≤ 1000 := Nat.le_trans (List.length_filter_le ..) hl
  have e5 : evE pd.tab (cl (k+8)) c_law_pairs_right_1 (S (some (.bl true)) (some (pD q)) none none none) g = .ok (.lst (less.map pD)) g := by
    unfold c_law_pairs_right_1
    have ei : evI pd.tab (cl (k+8)) (.val (.fld (.var 3) 25)) (S (some (.bl true)) (some (pD q)) none none none) g = .ok (.its (ps.map pD)) g := by
      have := e_prs (cf := cl (k+8)) (σ := S (some (.bl true)) (some (pD q)) none none none) (h := g) (a := .var 3) (e_var rfl)
      simp only [evI, this, Res.bind, D.seq]
    rw [evE, ei]
    simp only [Res.bind]
    have hw : wipeM [8] (S (some (.bl true)) (some (pD q)) none none none) = S (some (.bl true)) (some (pD q)) none none none := rfl
    rw [hw, lc_filter (f := fun p => neB p q) (acc := []) (by rw [sizeLine_eq]; simp; omega) (fun p hp u => ⟨S (some (.bl true)) (some (pD q)) none (some (pD p)) none, g_nm, ?_, e_var rfl⟩)]
    · simp only [List.nil_append]
      refine back_list fun y hy => ?_
      obtain ⟨z, _, rfl⟩ := List.mem_map.mp hy
      exact pDs_nr z
    · have := e_cmp (T := pd.tab) (cl := cl (k+8)) (σ := S (some (.bl true)) (some (pD q)) none (some (pD p)) none) (h := u) (a := .var 8) (b := .var 6) (op := .NotEq) (e_var rfl) (e_var rfl) (ne_pD p q u)
      simp only [evOT, this, Res.bind, tst, tru, Res.of]
  have t5 : evS pd.tab (cl (k+8)) (.asg (.nm 7) c_law_pairs_right_1) (S (some (.bl true)) (some (pD q)) none none none) g = .ok (.nx, S (some (.bl true)) (some (pD q)) (some (.lst (less.map pD))) none none) g := s_set e5
  have t6 : evS pd.tab (cl (k+8)) (.asg (.nm 9) (.fn 68 (.cons (.var 1) (.cons (.var 2) (.cons (.var 7) (.cons (.var 4) .nil)))))) (S (some (.bl true)) (some (pD q)) (some (.lst (less.map pD))) none none) g = .ok (.nx, S (some (.bl true)) (some (pD q)) (some (.lst (less.map pD))) none (some (.bl (t.closed less)))) g :=
    s_set (e_fn (qa (e_var rfl) (qa (e_var rfl) (qa (e_var rfl) (qa (e_var rfl) q0)))) (l_closed (k+3) t ok less fl ll g))
  have sh3 : evE pd.tab (cl (k+8)) (.mth 29 (.fn 72 (.cons (.var 7) (.cons (.var 4) .nil))) (.cons (.var 1) (.cons (.var 2) .nil))) (S (some (.bl true)) (some (pD q)) (some (.lst (less.map pD))) none (some (.bl (t.closed less)))) g = .ok (.bl (t.closed less)) g :=
    e_shL ok fl ll (e_fn (qa (e_var rfl) (qa (e_var rfl) q0)) (l_list (k+6) t.al less g)) (e_var rfl) (e_var rfl)
  have e9 := call_rt (k := k + 8) (xs := [.ref n, t.a.d, t.b.d, listD t.al ps, .bl t.al]) F_law_pairs_right rfl (b_nx t1 (b_nx t2 (b_nx t3 (b_nx t4 (b_nx t5 (b_nx t6 (b_ret (e_cmp sh3 (e_var rfl) (eq_self (.bl 0 _) (by decide) g)))))))))
  rw [e9]
  exact back_len (by simp [g])
end K02

set_option Elab.async false
set_option linter.all false
set_option maxRecDepth 100000
set_option maxHeartbeats 1000000
namespace K02
open PySem PySem.Spec PyProof.Rows L2 He MC MP
def oS (t : Two) (n : Nat) (x4 x5 x6 x7 x8 : Option D) : Sg := [some (.ref n), some t.a.d, some t.b.d, some (.bl t.al), x4, x5, x6, x7, x8]
theorem e_found {k : Nat} {t : Two} (ok : t.Ok) {n : Nat} {x4 x5 x6 x7 x8 : Option D} {h : Hs} {due : Option (List Ev)} {mF : Met} (z : t.srch 402 0 t.met0 = some (due, mF)) : evE pd.tab (cl (k+9)) (.ite (.var 3) (.fn 47 (.cons (.var 1) (.cons (.var 2) .nil))) (.fn 45 (.cons (.var 1) (.cons (.var 2) .nil)))) (oS t n x4 x5 x6 x7 x8) h = .ok (ansT t.al due mF) h := by
  have v3 : evE pd.tab (cl (k+9)) (.var 3) (oS t n x4 x5 x6 x7 x8) h = .ok (.bl t.al) h := e_var rfl
  cases ha : t.al with
  | true =>
    have e := p_alike k t ok ha h due mF z
    rw [ha] at v3 e
    exact e_itet v3 rfl (e_fn (qa (e_var rfl) (qa (e_var rfl) q0)) e)
  | false =>
    have e := p_within k t ok ha h due mF z
    rw [ha] at v3 e
    exact e_itef v3 rfl (e_fn (qa (e_var rfl) (qa (e_var rfl) q0)) e)
theorem e_isfnd {k : Nat} {t : Two} (ok : t.Ok) {n : Nat} {x4 x5 x6 x7 x8 : Option D} {h : Hs} {due : Option (List Ev)} {mF : Met} (z : t.srch 402 0 t.met0 = some (due, mF)) : evE pd.tab (cl (k+10)) (.ite (.var 3) (.fn 48 (.cons (.var 1) (.cons (.var 2) .nil))) (.fn 46 (.cons (.var 1) (.cons (.var 2) .nil)))) (oS t n x4 x5 x6 x7 x8) h = .ok (.bl due.isNone) h := by
  have v3 : evE pd.tab (cl (k+10)) (.var 3) (oS t n x4 x5 x6 x7 x8) h = .ok (.bl t.al) h := e_var rfl
  cases ha : t.al with
  | true =>
    have e := p_areAlike k t ok ha h due mF z
    rw [ha] at v3
    exact e_itet v3 rfl (e_fn (qa (e_var rfl) (qa (e_var rfl) q0)) e)
  | false =>
    have e := p_isWithin k t ok ha h due mF z
    rw [ha] at v3
    exact e_itef v3 rfl (e_fn (qa (e_var rfl) (qa (e_var rfl) q0)) e)
theorem l_one (k : Nat) (t : Two) (ok : t.Ok) (ns : List Int) (by_ n j : Nat) (h : Hs) (hn : h[n]? = some (dr ns by_ j)) : ∃ (h' : Hs) (j' : Nat), cl (k+11) 75 [.ref n, t.a.d, t.b.d, .bl t.al] h = .ok (.bl true) h' ∧ h'[n]? = some (dr ns by_ j') := by
  have hln := (List.getElem?_eq_some_iff.mp hn).1
  have hs : ∀ i, (h.set n (dr ns by_ i))[n]? = some (dr ns by_ i) := fun i => List.getElem?_set_self hln
  have es := l_search (k+5) t ok h
  cases z : t.srch 402 0 t.met0 with
  | none =>
    have er : t.res = .tup [.non, .non] := by unfold Two.res; rw [z]
    rw [er] at es
    refine ⟨h, j, ?_, hn⟩
    exact call_same (k := k+10) (xs := [.ref n, t.a.d, t.b.d, .bl t.al]) F_law_one_right rfl (b_nx (s_asg (σ1 := oS t n (some .non) (some .non) none none none) (e_fn (qa (e_var rfl) (qa (e_var rfl) (qa (e_var rfl) (qa e_cst q0)))) es) (by simp only [evG, evGL, Res.bind]; rfl)) (b_rt (s_ift (d := .bl true) (e_cmp (e_var rfl) e_cst rfl) rfl (b_ret e_cst))))
  | some r =>
    obtain ⟨due, mF⟩ := r
    have er : t.res = .tup [dueD due, .lst ((keysM mF).map pD)] := by unfold Two.res; rw [z]
    rw [er] at es
    obtain ⟨gf, gl, gh⟩ := t.srch_good ok 402 0 t.met0 (t.good0 ok) (by simp [Two.met0]) due mF z
    have fps : ∀ x ∈ keysM mF, t.Fit x := fun x hx => by
      obtain ⟨y, hy, rfl⟩ := List.mem_map.mp hx
      exact gf y hy
    have hkl : (keysM mF).length ≤ 1000 := by simp [keysM]; omega
    let prs : D := .lst ((keysM mF).map pD)
    have t1 : evS pd.tab (cl (k+10)) (.asg (.tup (.cons (.nm 4) (.cons (.nm 5) .nil))) (.fn 67 (.cons (.var 1) (.cons (.var 2) (.cons (.var 3) (.cons (.cst (.int 400)) .nil)))))) (oS t n none none none none none) h = .ok (.nx, oS t n (some (dueD due)) (some prs) none none none) h :=
      s_asg (e_fn (qa (e_var rfl) (qa (e_var rfl) (qa (e_var rfl) (qa e_cst q0)))) es) (by simp only [evG, evGL, Res.bind]; rfl)
    have t2 : evS pd.tab (cl (k+10)) (.ifs (.cmp .Is (.var 5) (.cst .non)) (.cons (.ret (.cst (.bl true))) .nil) .nil) (oS t n (some (dueD due)) (some prs) none none none) h = .ok (.nx, oS t n (some (dueD due)) (some prs) none none none) h :=
      s_iff (d := .bl false) (e_cmp (e_var rfl) e_cst rfl) rfl q_nil
    have t3 : evS pd.tab (cl (k+10)) (.asg (.nm 6) (.ite (.var 3) (.fn 47 (.cons (.var 1) (.cons (.var 2) .nil))) (.fn 45 (.cons (.var 1) (.cons (.var 2) .nil))))) (oS t n (some (dueD due)) (some prs) none none none) h = .ok (.nx, oS t n (some (dueD due)) (some prs) (some (ansT t.al due mF)) none none) h :=
      s_set (e_found (k := k+1) ok z)
    have isn : evE pd.tab (cl (k+10)) (.cmp .Is (.var 4) (.cst .non)) (oS t n (some (dueD due)) (some prs) (some (ansT t.al due mF)) none none) h = .ok (.bl due.isNone) h :=
      e_cmp (x := dueD due) (y := .non) (e_var rfl) e_cst (by cases due <;> rfl)
    have t4 : evS pd.tab (cl (k+10)) (.ifs (.cmp .NotEq (.ite (.var 3) (.fn 48 (.cons (.var 1) (.cons (.var 2) .nil))) (.fn 46 (.cons (.var 1) (.cons (.var 2) .nil)))) (.cmp .Is (.var 4) (.cst .non))) (.cons (.ret (.cst (.bl false))) .nil) .nil) (oS t n (some (dueD due)) (some prs) (some (ansT t.al due mF)) none none) h = .ok (.nx, oS t n (some (dueD due)) (some prs) (some (ansT t.al due mF)) none none) h :=
      s_iff (d := .bl false) (e_cmp (e_isfnd (k := k) ok z) isn (ne_self (.bl 0 _) (by decide) h)) rfl q_nil
    cases due with
    | none =>
      obtain ⟨hc, _⟩ := t.srch_none z
      have shp : evE pd.tab (cl (k+10)) (.mth 29 (.fn 73 (.cons (.tup (.cons (.tup (.cons (.cst (.str (Str.ofString "ask"))) (.cons (.cst (.int 0)) .nil))) .nil)) (.cons (.var 3) .nil))) (.cons (.var 1) (.cons (.var 2) .nil))) (oS t n (some (dueD none)) (some prs) (some (ansT t.al none mF)) none none) h = .ok (.bl false) h := by
        rw [← t.part_one ok hc]
        exact e_shH (k := k+3) ok (es := [.ask 0]) (fun e he => by rw [List.mem_singleton.mp he]; exact ok.wa.f1) (e_fn (qa (e_tup (xs := [Ev.ask 0].map Ev.d) (qa (e_tup (qa e_cst (qa e_cst q0)) (by simp [sizeLine])) q0) (by simp [sizeLine])) (qa (e_var rfl) q0)) (l_part (k+8) t.al [.ask 0] h)) (e_var rfl) (e_var rfl)
      have lp := l_pairs (k+1) t ok (keysM mF) fps hkl hc ns by_ n j h hn
      refine ⟨_, j+1, ?_, hs (j+1)⟩
      have e9 := call_rt (k := k + 10) (xs := [.ref n, t.a.d, t.b.d, .bl t.al]) F_law_one_right rfl (b_nx t1 (b_nx t2 (b_nx t3 (b_nx t4 (b_rt (s_ift isn rfl (b_nx (s_iff shp rfl q_nil) (b_ret (e_fn (qa (e_var rfl) (qa (e_var rfl) (qa (e_var rfl) (qa (e_var rfl) (qa (e_var rfl) q0))))) lp)))))))))
      rw [e9]
      exact back_len (by simp)
    | some hist =>
      obtain ⟨hpt, hcl, _, hh, he, hhe⟩ := t.srch_some z
      obtain ⟨heo, hhl⟩ := gh hist rfl
      have h0 : 0 < hist.length := by rw [hhe]; simp
      obtain ⟨late, lo, ec⟩ := d_cut (k+6) t.a ok.wa.f1 ns by_ n j hist h0 (by omega) heo h hn
      let g := h.set n (dr ns by_ (j+2))
      let σ4 : Sg := oS t n (some (hD hist)) (some prs) (some (histD t.al hist)) none none
      let σ5 : Sg := oS t n (some (hD hist)) (some prs) (some (histD t.al hist)) (some (.bl true)) none
      have t5 : evS pd.tab (cl (k+10)) (.asg (.nm 7) (.ite (.var 3) (.isi (.var 6) [(.own 9)]) (.isi (.var 6) [(.own 7)]))) σ4 h = .ok (.nx, σ5) h := by
        refine s_set ?_
        have v3 : evE pd.tab (cl (k+10)) (.var 3) σ4 h = .ok (.bl t.al) h := e_var rfl
        have v6 : evE pd.tab (cl (k+10)) (.var 6) σ4 h = .ok (histD t.al hist) h := e_var rfl
        cases ha : t.al with
        | true =>
          rw [ha] at v3 v6
          exact e_itet v3 rfl (e_isi (ts := [.own 9]) v6 (ok_own9 h hist))
        | false =>
          rw [ha] at v3 v6
          exact e_itef v3 rfl (e_isi (ts := [.own 7]) v6 (ok_own7 h hist))
      have t6 : evS pd.tab (cl (k+10)) (.ifs (.or (.not (.var 7)) (.cmp .NotEq (.fld (.var 6) 19) (.var 4))) (.cons (.ret (.cst (.bl false))) .nil) .nil) σ5 h = .ok (.nx, σ5) h :=
        s_iff (e_orf (e_not (e_var rfl) rfl) rfl (e_cmp (x := hD hist) (y := hD hist) (e_hst (e_var rfl)) (e_var rfl) (ne_self (evT_dt hist) (by decide) h))) rfl q_nil
      have sh1 : evE pd.tab (cl (k+10)) (.mth 29 (.var 6) (.cons (.var 1) (.cons (.var 2) .nil))) σ5 h = .ok (.bl true) h := by
        rw [← hpt]
        exact e_shH (k := k+3) ok heo (e_var rfl) (e_var rfl) (e_var rfl)
      have t7 : evS pd.tab (cl (k+10)) (.ifs (.isb true (.mth 29 (.var 6) (.cons (.var 1) (.cons (.var 2) .nil))) (.cst (.bl true))) (.cons (.ret (.cst (.bl false))) .nil) .nil) σ5 h = .ok (.nx, σ5) h :=
        s_iff (e_isb (d := .bl false) sh1 e_cst rfl) rfl q_nil
      have sh2 : evE pd.tab (cl (k+10)) (.mth 29 (.fn 72 (.cons (.var 5) (.cons (.var 3) .nil))) (.cons (.var 1) (.cons (.var 2) .nil))) σ5 h = .ok (.bl false) h := by
        rw [← hcl]
        exact e_shL (k := k+2) ok fps hkl (e_fn (qa (e_var rfl) (qa (e_var rfl) q0)) (l_list (k+8) t.al (keysM mF) h)) (e_var rfl) (e_var rfl)
      have t8 : evS pd.tab (cl (k+10)) (.ifs (.mth 29 (.fn 72 (.cons (.var 5) (.cons (.var 3) .nil))) (.cons (.var 1) (.cons (.var 2) .nil))) (.cons (.ret (.cst (.bl false))) .nil) .nil) σ5 h = .ok (.nx, σ5) h := s_iff sh2 rfl q_nil
      let σ6 : Sg := oS t n (some (hD hist)) (some prs) (some (histD t.al hist)) (some (.bl true)) (some (hD late))
      let σ7 : Sg := oS t n (some (hD hist)) (some prs) (some (histD t.al hist)) (some (.bl (t.part false t.st late))) (some (hD late))
      have t9 : evS pd.tab (cl (k+10)) (.asg (.nm 8) (.fn 71 (.cons (.var 0) (.cons (.var 4) .nil)))) σ5 h = .ok (.nx, σ6) g := s_set (e_fn (qa (e_var rfl) (qa (e_var rfl) q0)) ec)
      have t10 : evS pd.tab (cl (k+10)) (.asg (.nm 7) (.fn 69 (.cons (.var 1) (.cons (.var 2) (.cons (.var 8) (.cons (.var 3) .nil)))))) σ6 g = .ok (.nx, σ7) g := s_set (e_fn (qa (e_var rfl) (qa (e_var rfl) (qa (e_var rfl) (qa (e_var rfl) q0)))) (l_parts (k+6) t ok late lo g))
      have sh3 : evE pd.tab (cl (k+10)) (.mth 29 (.fn 73 (.cons (.var 8) (.cons (.var 3) .nil))) (.cons (.var 1) (.cons (.var 2) .nil))) σ7 g = .ok (.bl (t.part false t.st late)) g :=
        e_shH (k := k+3) ok lo (e_fn (qa (e_var rfl) (qa (e_var rfl) q0)) (l_part (k+8) t.al late g)) (e_var rfl) (e_var rfl)
      refine ⟨g, j+2, ?_, hs (j+2)⟩
      have e9 := call_rt (k := k + 10) (xs := [.ref n, t.a.d, t.b.d, .bl t.al]) F_law_one_right rfl (b_nx t1 (b_nx t2 (b_nx t3 (b_nx t4 (b_nx (s_iff isn rfl q_nil) (b_nx t5 (b_nx t6 (b_nx t7 (b_nx t8 (b_nx t9 (b_nx t10 (b_ret (e_cmp sh3 (e_var rfl) (eq_self (.bl 0 _) (by decide) g))))))))))))))
      rw [e9]
      exact back_len (by simp [g])
end K02

set_option Elab.async false
set_option linter.all false
set_option maxRecDepth 100000
set_option maxHeartbeats 1000000
namespace K02
open PySem PySem.Spec PyProof.Rows L2 He MC MP
def wS (ns : List Int) (x1 : Option D) (n : Nat) (x3 : Option D) (a : Ch) (x5 x6 : Option D) : Sg := [some (.lst (ns.map D.int)), x1, some (.ref n), x3, some a.d, x5, x6]
theorem both_loop (k : Nat) (ns : List Int) (by_ n : Nat) (a b : Ch) (wa : Wf a) (wb : Wf b) (hf : a.folk = b.folk) (x1 x3 : Option D) : ∀ (als : List Bool) (h : Hs) (j : Nat) (x6 : Option D), h[n]? = some (dr ns by_ j) →
    ∃ (h' : Hs) (j' : Nat) (y6 : Option D), loopF (evG pd.tab (cl (k+11)) g_law_3) (evB pd.tab (cl (k+11)) b_law_1) (als.map D.bl) (wS ns x1 n x3 a (some b.d) x6) h = .ok (.nx, wS ns x1 n x3 a (some b.d) y6) h' ∧ h'[n]? = some (dr ns by_ j')
  | [], h, j, x6, hn => ⟨h, j, x6, f_nil, hn⟩
  | al :: als, h, j, x6, hn => by
    obtain ⟨h1, j1, e1, n1⟩ := l_one k ⟨a, b, al⟩ ⟨wa, wb, hf⟩ ns by_ n j h hn
    obtain ⟨h2, j2, y6, e2, n2⟩ := both_loop k ns by_ n a b wa wb hf x1 x3 als h1 j1 (some (.bl al)) n1
    refine ⟨h2, j2, y6, ?_, n2⟩
    rw [List.map_cons]
    exact f_nx (σ1 := wS ns x1 n x3 a (some b.d) (some (.bl al))) g_nm (b_nx (s_iff (e_not (e_fn (qa (e_var rfl) (qa (e_var rfl) (qa (e_var rfl) (qa (e_var rfl) q0)))) e1) rfl) rfl q_nil) q_nil) e2
theorem other_loop (k : Nat) (ns : List Int) (by_ n : Nat) (a : Ch) (wa : Wf a) (x1 x3 : Option D) : ∀ (os : List Ch) (h : Hs) (j : Nat) (x5 x6 : Option D), (∀ b ∈ os, Wf b ∧ a.folk = b.folk) → h[n]? = some (dr ns by_ j) →
    ∃ (h' : Hs) (y5 y6 : Option D), loopF (evG pd.tab (cl (k+11)) g_law_2) (evB pd.tab (cl (k+11)) b_law_2) (os.map Ch.d) (wS ns x1 n x3 a x5 x6) h = .ok (.nx, wS ns x1 n x3 a y5 y6) h'
  | [], h, j, x5, x6, _, hn => ⟨h, x5, x6, f_nil⟩
  | b :: os, h, j, x5, x6, ho, hn => by
    obtain ⟨wb, hf⟩ := ho b (List.mem_cons_self ..)
    obtain ⟨h1, j1, z6, e1, n1⟩ := both_loop k ns by_ n a b wa wb hf x1 x3 [false, true] h j x6 hn
    obtain ⟨h2, y5, y6, e2⟩ := other_loop k ns by_ n a wa x1 x3 os h1 j1 (some b.d) z6 (fun c hc => ho c (List.mem_cons_of_mem _ hc)) n1
    refine ⟨h2, y5, y6, ?_⟩
    rw [List.map_cons]
    have ei : evI pd.tab (cl (k+11)) (.val (.tup (.cons (.cst (.bl false)) (.cons (.cst (.bl true)) .nil)))) (wS ns x1 n x3 a (some b.d) x6) h = .ok (.its ([false, true].map D.bl)) h := by
      have := e_tup (T := pd.tab) (cl := cl (k+11)) (σ := wS ns x1 n x3 a (some b.d) x6) (h := h) (qa (e_cst (d := .bl false)) (qa (e_cst (d := .bl true)) q0)) (by simp [sizeLine])
      simp only [evI, this, Res.bind, D.seq]
      rfl
    exact f_nx (σ1 := wS ns x1 n x3 a (some b.d) x6) g_nm (b_nx (s_for ei e1) q_nil) e2
theorem law_loop (k : Nat) (ns : List Int) : ∀ (bys : List Nat) (h : Hs) (x1 x2 x3 x4 x5 x6 : Option D),
    ∃ (h' : Hs) (y1 y2 y3 y4 y5 y6 : Option D), loopF (evG pd.tab (cl (k+11)) g_law_1) (evB pd.tab (cl (k+11)) b_law_3) (bys.map fun (i : Nat) => D.int (i : Int)) [some (.lst (ns.map D.int)), x1, x2, x3, x4, x5, x6] h = .ok (.nx, [some (.lst (ns.map D.int)), y1, y2, y3, y4, y5, y6]) h'
  | [], h, x1, x2, x3, x4, x5, x6 => ⟨h, x1, x2, x3, x4, x5, x6, f_nil⟩
  | by_ :: bys, h, x1, x2, x3, x4, x5, x6 => by
    let h1 := h ++ [dr ns by_ 0]
    have n1 : h1[h.length]? = some (dr ns by_ 0) := by simp [h1]
    have s1 : evS pd.tab (cl (k+11)) (.asg (.nm 2) (.lst false (.cons (.var 0) (.cons (.var 1) (.cons (.cst (.int 0)) .nil))))) [some (.lst (ns.map D.int)), some (.int by_), x2, x3, x4, x5, x6] h = .ok (.nx, [some (.lst (ns.map D.int)), some (.int by_), some (.ref h.length), x3, x4, x5, x6]) h1 :=
      s_set (e_lstF (qa (e_var rfl) (qa (e_var rfl) (qa e_cst q0))) (by simp [sizeLine]))
    obtain ⟨r, hr, e2, dw2⟩ := d_next (k+8) ns by_ h.length 0 2 (by decide) h1 n1
    obtain ⟨j, j1, _, n2, _⟩ := dw2.at_
    have s2 : evS pd.tab (cl (k+11)) (.asg (.nm 3) (.bin .Add (.cst (.int 1)) (.fn 52 (.cons (.var 2) (.cons (.cst (.int 2)) .nil))))) [some (.lst (ns.map D.int)), some (.int by_), some (.ref h.length), x3, x4, x5, x6] h1 = .ok (.nx, [some (.lst (ns.map D.int)), some (.int by_), some (.ref h.length), some (.int (1 + r)), x4, x5, x6]) (h1.set h.length (dr ns by_ (0+1))) :=
      s_set (e_bin e_cst (e_fn (qa (e_var rfl) (qa e_cst q0)) e2) (add_ok _ _ _))
    obtain ⟨a, h3, wa, fa, e3, dw3⟩ := d_chain (k+5) ns by_ h.length j1 3 (1 + r) (by decide) (by decide) (by omega) (by omega) _ n2
    obtain ⟨_, j2, _, n3, _⟩ := dw3.at_
    have s3 : evS pd.tab (cl (k+11)) (.asg (.nm 4) (.fn 55 (.cons (.var 2) (.cons (.cst (.int 3)) (.cons (.var 3) .nil))))) [some (.lst (ns.map D.int)), some (.int by_), some (.ref h.length), some (.int (1 + r)), x4, x5, x6] (h1.set h.length (dr ns by_ (0+1))) = .ok (.nx, wS ns (some (.int by_)) h.length (some (.int (1 + r))) a x5 x6) h3 :=
      s_set (e_fn (qa (e_var rfl) (qa e_cst (qa (e_var rfl) q0))) e3)
    obtain ⟨b, h4, wb, fb, e4, dw4⟩ := d_like (k+5) a wa ns by_ h.length j2 h3 n3
    obtain ⟨_, j3, _, n4, _⟩ := dw4.at_
    obtain ⟨c, h5, wc, fc, e5, dw5⟩ := d_chain (k+5) ns by_ h.length j3 3 (1 + r) (by decide) (by decide) (by omega) (by omega) _ n4
    obtain ⟨_, j4, _, n5, _⟩ := dw5.at_
    have ei : evI pd.tab (cl (k+11)) (.val (.tup (.cons (.var 4) (.cons (.fn 70 (.cons (.var 2) (.cons (.var 4) .nil))) (.cons (.fn 55 (.cons (.var 2) (.cons (.cst (.int 3)) (.cons (.var 3) .nil)))) .nil))))) (wS ns (some (.int by_)) h.length (some (.int (1 + r))) a x5 x6) h3 = .ok (.its ([a, b, c].map Ch.d)) h5 := by
      have : evE pd.tab (cl (k+11)) (.tup (.cons (.var 4) (.cons (.fn 70 (.cons (.var 2) (.cons (.var 4) .nil))) (.cons (.fn 55 (.cons (.var 2) (.cons (.cst (.int 3)) (.cons (.var 3) .nil)))) .nil)))) (wS ns (some (.int by_)) h.length (some (.int (1 + r))) a x5 x6) h3 = .ok (.tup ([a, b, c].map Ch.d)) h5 :=
        e_tup (qa (e_var rfl) (qa (e_fn (qa (e_var rfl) (qa (e_var rfl) q0)) e4) (qa (e_fn (qa (e_var rfl) (qa e_cst (qa (e_var rfl) q0))) e5) q0))) (by simp [sizeLine])
      simp only [evI, this, Res.bind]
    obtain ⟨h6, y5, y6, e6⟩ := other_loop k ns by_ h.length a wa (some (.int by_)) (some (.int (1 + r))) [a, b, c] h5 j4 x5 x6 (fun o ho => by
      simp only [List.mem_cons, List.not_mem_nil, or_false] at ho
      rcases ho with rfl | rfl | rfl
      · exact ⟨wa, rfl⟩
      · exact ⟨wb, fb.symm⟩
      · exact ⟨wc, fa.trans fc.symm⟩) n5
    obtain ⟨h', z1, z2, z3, z4, z5, z6, ih⟩ := law_loop k ns bys h6 (some (.int by_)) (some (.ref h.length)) (some (.int (1 + r))) (some a.d) y5 y6
    refine ⟨h', z1, z2, z3, z4, z5, z6, ?_⟩
    rw [List.map_cons]
    exact f_nx (σ1 := [some (.lst (ns.map D.int)), some (.int by_), x2, x3, x4, x5, x6]) g_nm (b_nx s1 (b_nx s2 (b_nx s3 (b_nx (s_for ei e6) q_nil)))) ih
theorem law_true (ns : List Int) (h : ns.length ≤ 63) : ∃ h', callM pd.tab pd.F 14 76 [.lst (ns.map D.int)] [] = .ok (.bl true) h' := by
  let J : Int := if (if (ns.length : Int) < 16 then (ns.length : Int) else 16) > 1 then (if (ns.length : Int) < 16 then (ns.length : Int) else 16) else 1
  have hJ : 1 ≤ J ∧ J ≤ 16 := by
    simp only [J]
    constructor <;> (repeat' split) <;> omega
  have e0 : evE pd.tab (cl 13) (.bi .max2 (.cons (.cst (.int 1)) (.cons (.bi .min2 (.cons (.cst (.int 16)) (.cons (.bi .len (.cons (.var 0) .nil)) .nil))) .nil))) [some (.lst (ns.map D.int)), none, none, none, none, none, none] [] = .ok (.int J) [] :=
    e_bi (qa e_cst (qa (e_bi (qa e_cst (qa (e_bi (d := .int ns.length) (qa (e_var rfl) q0) (by simp [biD, D.seq])) q0)) rfl) q0)) rfl
  obtain ⟨J, hj⟩ : ∃ n : Nat, J = (n : Int) := Int.eq_ofNat_of_zero_le (by omega)
  rw [hj] at e0 hJ
  have hr : ∃ bys : List Nat, evI pd.tab (cl 13) (.rng3 (.cst (.int 0)) (.bi .max2 (.cons (.cst (.int 1)) (.cons (.bi .min2 (.cons (.cst (.int 16)) (.cons (.bi .len (.cons (.var 0) .nil)) .nil))) .nil))) (.cst (.int 4))) [some (.lst (ns.map D.int)), none, none, none, none, none, none] [] = .ok (.its (bys.map fun (i : Nat) => D.int (i : Int))) [] := by
    have key : ∀ J : Fin 25, 1 ≤ J.val → (decide ((4 : Int) ≠ 0) && decide ((4 : Int).natAbs < 1073741824) && Builtin.Range.small 0 (J.val : Int) 4 && decide (0 ≤ Builtin.Range.rangeSize 0 (J.val : Int) 4)) = true := by decide +kernel
    have hk := key ⟨J, by omega⟩ (by show 1 ≤ J; omega)
    simp only at hk
    refine ⟨(List.range (Builtin.Range.rangeSize 0 (J : Int) 4).toNat).map (· * 4), ?_⟩
    simp only [evI]
    rw [e_cst, Res.bind, e0, Res.bind, e_cst, Res.bind]
    simp only []
    rw [if_pos hk]
    simp [rngD]
  obtain ⟨bys, e1⟩ := hr
  obtain ⟨h', y1, y2, y3, y4, y5, y6, e2⟩ := law_loop 2 ns bys [] none none none none none none
  have e3 := call_rt (k := 13) (xs := [.lst (ns.map D.int)]) (h := []) F_law rfl (b_nx (s_for e1 e2) (b_ret e_cst))
  obtain ⟨h'', e4⟩ := back_any (fz := f_law.fz) (h := []) (h' := h') (d := .bl true) rfl
  rw [e4] at e3
  exact ⟨h'', e3⟩
end K02

set_option Elab.async false
set_option linter.all false
set_option maxRecDepth 100000
set_option maxHeartbeats 0
namespace K02
open PySem PySem.W PySem.Calls PyProof.Rows
abbrev R : OpenRow := OpenLaw.row PySem.Challenge.rw_limitwithin_k02_whole_comparing
abbrev qv : Program := view R.prog [77]
def names : List PySem.Str := (([PySem.Str.ofString "LimitError", PySem.Str.ofString "BadChain", PySem.Str.ofString "BadCallers", PySem.Str.ofString "TooLarge", PySem.Str.ofString "MAX_LIMIT", PySem.Str.ofString "MAX_SPAN", PySem.Str.ofString "MAX_LINKS", PySem.Str.ofString "MAX_CALLERS", PySem.Str.ofString "SCOPES", PySem.Str.ofString "TICK", PySem.Str.ofString "is_integer", PySem.Str.ofString "is_word", PySem.Str.ofString "is_part", PySem.Str.ofString "is_link", PySem.Str.ofString "Chain", PySem.Str.ofString "check_chain", PySem.Str.ofString "events_of", PySem.Str.ofString "first_of", PySem.Str.ofString "ticked", PySem.Str.ofString "does_let", PySem.Str.ofString "counted", PySem.Str.ofString "first_state", PySem.Str.ofString "after_tick", PySem.Str.ofString "lets_at", PySem.Str.ofString "counted_at", PySem.Str.ofString "answer_at", PySem.Str.ofString "after_ask", PySem.Str.ofString "after_event", PySem.Str.ofString "MAX_PAIRS", PySem.Str.ofString "check_two"] : List PySem.Str) ++ ([PySem.Str.ofString "steps_from", PySem.Str.ofString "breaks_within", PySem.Str.ofString "breaks_alike", PySem.Str.ofString "goes_on", PySem.Str.ofString "Comparison", PySem.Str.ofString "is_closed", PySem.Str.ofString "is_parting", PySem.Str.ofString "Within", PySem.Str.ofString "Escapes", PySem.Str.ofString "Alike", PySem.Str.ofString "Apart", PySem.Str.ofString "within", PySem.Str.ofString "is_within", PySem.Str.ofString "alike", PySem.Str.ofString "are_alike", PySem.Str.ofString "_law_cell_at", PySem.Str.ofString "_law_draw", PySem.Str.ofString "_law_number", PySem.Str.ofString "_law_next", PySem.Str.ofString "_law_pick", PySem.Str.ofString "_law_link", PySem.Str.ofString "_law_chain", PySem.Str.ofString "_law_events", PySem.Str.ofString "_law_new", PySem.Str.ofString "_law_start", PySem.Str.ofString "_law_older", PySem.Str.ofString "_law_room", PySem.Str.ofString "_law_more", PySem.Str.ofString "_law_tick", PySem.Str.ofString "_law_ask"] : List PySem.Str) ++ ([PySem.Str.ofString "_law_step", PySem.Str.ofString "_law_both", PySem.Str.ofString "_law_bad", PySem.Str.ofString "_law_search", PySem.Str.ofString "_law_closed", PySem.Str.ofString "_law_parts", PySem.Str.ofString "_law_like", PySem.Str.ofString "_law_cut", PySem.Str.ofString "_law_list", PySem.Str.ofString "_law_part", PySem.Str.ofString "_law_pairs_right", PySem.Str.ofString "_law_one_right"] : List PySem.Str) : List PySem.Str)
abbrev hk : PySem.W.Hook := MC.hookM pd 700
def ob (s : PySem.W.SharedT) : He.AlD := MC.obsMG pd 700 (HandSHeadRun.getT s)
theorem ob_eq (s : PySem.W.SharedT) : ob s = hk.obs s.abs := MC.obsMG_eq pd (HandSHeadRun.getT_eq s)
theorem run (w : World) : HandSHeadRun.RunEq R qv hk ob 9000 names w := by
  intro os
  kernel_rfl
end K02

set_option Elab.async false
set_option linter.all false
set_option maxRecDepth 100000
set_option maxHeartbeats 0
namespace K02
open PySem PySem.Spec PyProof.Rows L2 He MC
theorem kb_plain {K : PySem.W.Frag} {fd : FuncData} {ps : List Str} (h : Binds K fd ps []) : KBn K fd ps ps.length [] (fun us _ => us) (fun vs _ => vs) :=
  ⟨fun s us ws hk hl _ => by
    have := h s us hk (by rw [List.append_nil]; exact hl)
    rw [List.append_nil] at this
    exact this, fun r _ => r⟩
theorem mk_facts {K : PySem.W.Frag} {P : Program} {w : World} (c0 : obsM pd K = valM pd) : ∀ c sh np ks x, pd.mkk c sh = some (np, ks) → pd.cn.lookup c = some x → ∃ f fz r, pd.inits.lookup c = some (f, fz) ∧ pd.frs.lookup f = some r ∧ r.at_ = .mth x "__init__" ∧ ∃ g gV, KBn K (pd.fd K f) (pd.ps f) (np + 1) ks g gV ∧
      ∀ (β : List Addr) (H : Hp) (d : D) (v : V) (xs ys ws : List D) (vs zs : List V), RelD K pd.nm (pd.cb K P w) β H d v → RelL K pd.nm (pd.cb K P w) β H xs vs → RelL K pd.nm (pd.cb K P w) β H ys zs → pd.shape sh xs ys = some ws → xs.length = np ∧ ys.length = ks.length ∧ RelL K pd.nm (pd.cb K P w) β H (d :: ws) (gV (v :: vs) zs) := by
  intro c sh np ks x e1 e2
  unfold PD.mkk pd at e1
  simp only at e1
  split at e1
  · cases e1
    have ex : x = Str.ofString "Comparison" := by
      have : pd.cn.lookup 5 = some (Str.ofString "Comparison") := by decide +kernel
      rw [this] at e2
      cases e2
      rfl
    subst ex
    have F := fr_fun c0 (f := 29) (r := r29) (by rfl)
    have b := plain_binds (ps := r29.ps) F (by decide +kernel) (by decide +kernel) (by decide) (by decide +kernel)
    refine ⟨29, false, r29, rfl, rfl, rfl, _, _, kb_plain b, ?_⟩
    intro β H d v xs ys ws vs zs rd rx ry hsh
    match xs, ys, hsh, rx, ry with
    | [x0, x1, x2], [], hsh, rx, ry =>
      cases hsh
      exact ⟨rfl, rfl, .cons rd rx⟩
  · cases e1
    have ex : x = Str.ofString "Within" := by
      have : pd.cn.lookup 6 = some (Str.ofString "Within") := by decide +kernel
      rw [this] at e2
      cases e2
      rfl
    subst ex
    have F := fr_fun c0 (f := 33) (r := r33) (by rfl)
    have b := plain_binds (ps := r33.ps) F (by decide +kernel) (by decide +kernel) (by decide) (by decide +kernel)
    refine ⟨33, true, r33, rfl, rfl, rfl, _, _, kb_plain b, ?_⟩
    intro β H d v xs ys ws vs zs rd rx ry hsh
    match xs, ys, hsh, rx, ry with
    | [x0], [], hsh, rx, ry =>
      cases hsh
      exact ⟨rfl, rfl, .cons rd rx⟩
  · cases e1
    have ex : x = Str.ofString "Escapes" := by
      have : pd.cn.lookup 7 = some (Str.ofString "Escapes") := by decide +kernel
      rw [this] at e2
      cases e2
      rfl
    subst ex
    have F := fr_fun c0 (f := 36) (r := r36) (by rfl)
    have b := plain_binds (ps := r36.ps) F (by decide +kernel) (by decide +kernel) (by decide) (by decide +kernel)
    refine ⟨36, true, r36, rfl, rfl, rfl, _, _, kb_plain b, ?_⟩
    intro β H d v xs ys ws vs zs rd rx ry hsh
    match xs, ys, hsh, rx, ry with
    | [x0], [], hsh, rx, ry =>
      cases hsh
      exact ⟨rfl, rfl, .cons rd rx⟩
  · cases e1
    have ex : x = Str.ofString "Alike" := by
      have : pd.cn.lookup 8 = some (Str.ofString "Alike") := by decide +kernel
      rw [this] at e2
      cases e2
      rfl
    subst ex
    have F := fr_fun c0 (f := 39) (r := r39) (by rfl)
    have b := plain_binds (ps := r39.ps) F (by decide +kernel) (by decide +kernel) (by decide) (by decide +kernel)
    refine ⟨39, true, r39, rfl, rfl, rfl, _, _, kb_plain b, ?_⟩
    intro β H d v xs ys ws vs zs rd rx ry hsh
    match xs, ys, hsh, rx, ry with
    | [x0], [], hsh, rx, ry =>
      cases hsh
      exact ⟨rfl, rfl, .cons rd rx⟩
  · cases e1
    have ex : x = Str.ofString "Apart" := by
      have : pd.cn.lookup 9 = some (Str.ofString "Apart") := by decide +kernel
      rw [this] at e2
      cases e2
      rfl
    subst ex
    have F := fr_fun c0 (f := 42) (r := r42) (by rfl)
    have b := plain_binds (ps := r42.ps) F (by decide +kernel) (by decide +kernel) (by decide) (by decide +kernel)
    refine ⟨42, true, r42, rfl, rfl, rfl, _, _, kb_plain b, ?_⟩
    intro β H d v xs ys ws vs zs rd rx ry hsh
    match xs, ys, hsh, rx, ry with
    | [x0], [], hsh, rx, ry =>
      cases hsh
      exact ⟨rfl, rfl, .cons rd rx⟩
  · cases e1
    have ex : x = Str.ofString "Chain" := by
      have : pd.cn.lookup 4 = some (Str.ofString "Chain") := by decide +kernel
      rw [this] at e2
      cases e2
      rfl
    subst ex
    have F := fr_fun c0 (f := 5) (r := r5) (by rfl)
    obtain ⟨mv, b⟩ := FunD.kbinds0 (ps := r5.ps) F 2 [Str.ofString "callers", Str.ofString "charges"] [] (fun us _ ws => us ++ ws) (by intro z; cases z) (by intro q hq; cases hq) (fun r1 _ r3 => r1.append r3) (by
      intro D doc pm an cdv ct us mv ws h1 h2 h3
      match us, ws, h1, h3 with
      | [_, _], [_, _], _, _ => rfl)
    refine ⟨5, true, r5, rfl, rfl, rfl, _, _, b, ?_⟩
    intro β H d v xs ys ws vs zs rd rx ry hsh
    match xs, ys, hsh, rx, ry with
    | [x0], [y0, y1], hsh, .cons a .nil, ry =>
      cases hsh
      exact ⟨rfl, rfl, .cons rd (.cons a ry)⟩
  · cases e1
theorem ints_rel {K : PySem.W.Frag} {nm : Nat → Str} {ca : CaT} {β : List Addr} {H : Hp} : ∀ ns : List Int, RelL K nm ca β H (ns.map D.int) (ns.map V.int)
  | [] => .nil
  | i :: ns => .cons (.int i) (ints_rel ns)
theorem facts {P : Program} {w : World} {K : PySem.W.Frag} {h : Heap} {mg : Str → Option Value} {f : Addr} (X : K.In h) (G : h.Ns mainGlobals mg) (hfa : mg ("law" : Str) = some (.ref f)) (c : obsM pd K = valM pd) :
    ∃ fd : FuncData, (∀ (s : Shared) (v : Value), BindsTo s fd ⟨[v], []⟩ [("_law_script", v)]) ∧ ∀ base : Heap, K.In base → base.Ns mainGlobals mg → FnOk P w K mg base CX0 28 f fd ["_law_script"] (spM K pd.nm (pd.cb K P w) (callM pd.tab pd.F 14 76)) := by
  have S : ∀ base, Stat P w K mg base pd.cs pd.tab pd.F (pd.cb K P w) (pd.fa K) (pd.fd K) pd.ps := fun base => pd.toStat stat X G c (mk_facts c)
  have e := hfa.symm.trans ((S h).fn 76 "law" (by rfl)).2.1
  cases e
  have F := fr_fun c (f := 76) (r := r76) (by rfl)
  have b := FunD.bindsA (ps := ["_law_script"]) F fun _ _ _ _ _ _ us hl => match us, hl with | [_], _ => rfl
  exact ⟨pd.fd K 76, fun s v => b s [v] rfl, fun base _ _ => (S base).all 14 76 _ rfl⟩
end K02
open PySem PySem.W PySem.Calls PyProof.Rows
theorem PySem.Challenge.cw_limitwithin_k02_whole_comparing_holds : PySem.Challenge.rw_limitwithin_k02_whole_comparing.Holds := by
  w_on; o_law
  refine HandSHeadRun.head_any (r := OpenLaw.row PySem.Challenge.rw_limitwithin_k02_whole_comparing) (q := view (OpenLaw.row PySem.Challenge.rw_limitwithin_k02_whole_comparing).prog [77]) (H := K02.hk) (ob := K02.ob) (M := 9000) (loose := K02.names) (d := HandSHeadRun.topDef (OpenLaw.row PySem.Challenge.rw_limitwithin_k02_whole_comparing).prog 77) (kwd := []) K02.ob_eq
    (by kernel_rfl) (fun s => by kernel_rfl) K02.run (by kernel_rfl) (by kernel_rfl) (by kernel_rfl) (by rfl) (by first | assumption | decide +kernel) (by decide +kernel) ⟨rfl, rfl, rfl, rfl, rfl, by decide +kernel⟩ ?hw ?hc
  case hw => w_witness2
  case hc =>
    refine L2.walk_ofE (l := PySem.Challenge.rw_limitwithin_k02_whole_comparing) (n := 63) (k := 28) (x := "_law_script") (CX := L2.CX0) rfl (by decide) (by kernel_rfl) ⟨rfl, by decide, by decide⟩ ?F (fun _ _ _ _ z => z)
    intro w mg fa h Y G hmg0
    obtain ⟨K, KX, c⟩ := Y
    have hmg : mg ("law" : PySem.Str) = some (.ref fa) := by
      have e : (HandSHeadRun.topDef (OpenLaw.row PySem.Challenge.rw_limitwithin_k02_whole_comparing).prog 77).name = ("law" : PySem.Str) := by kernel_rfl
      rw [← e]
      exact hmg0
    obtain ⟨fd, hb, hF⟩ := K02.facts (P := (PySem.Challenge.rw_limitwithin_k02_whole_comparing).prog) (w := w) KX G hmg c
    refine ⟨K, fd, MC.spM K K02.pd.nm (K02.pd.cb K _ w) (MC.callM K02.pd.tab K02.pd.F 14 76), KX, hb, fun H a ns hl _ hS => ?_, hF⟩
    obtain ⟨h', e⟩ := K02.law_true ns hl
    refine ⟨[.lst (ns.map MC.D.int)], [], [], .cons (.lst ?_ (K02.ints_rel ns)) .nil, ⟨rfl, List.nodup_nil, fun i o a z => by simp at z⟩, ?_⟩
    · rcases hS with z | z
      · exact .inl ⟨z, by simp⟩
      · exact .inr z
    · rw [e]
      intro v H' β' _ _ rd
      cases rd
      rfl

