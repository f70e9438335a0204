import PyProof.Rows.All
import Wide.All
import OpenK.AllK
import Wide.FinOn
import HandS.ForMost
import HandS.ForExc
import HandS.Flow
import HandS.Wide
import HandS.IsInst
import HandS.Dict
import HandS.More
import HandS.Deep
import HandS.SortKw
import HandS.Zip
import HandS.TupAny
import HandS.Style
import HandS.TupLen
import HandS.Conv
import HandS.WordsExc
import HandS.Text
import HandS.Strs
import HandS.Replace
import HandS.WordsDict
import HandS.TupMul
import KE.KDictPairs
import KE.SortData
import HandS.Set
import HandS.SetTxt0
import PyProof.StrWalks
import PyProof.Rows.SetFrom
import PyProof.Rows.SortShellAny
import HandS.TupSets
import HandS.SortInts
import PyProof.Draws
import HandS.Defaults
import KE.KStateDown
import HandS.Ends
import HandS.Codes
import HandS.Head0
import HandS.Head1
import HandS.Head2
import HandS.HeadEnd
import HandS.HeadHook1
import HandS.HeadHook2
import HandS.Words
import HandS.HeadHook4
import PyProof.ReprBulk
import PySem.Challenge.RW_openties_k02_whole_closures
/-! Dn1 -/
set_option linter.all false
set_option autoImplicit false
/-! Dn1: data, the core language, its evaluator. Plain Lean. -/
namespace Dn
/-- a text: its code points -/
abbrev Sg := List Nat

inductive D where
  | non | bl (b : Bool) | int (i : Int) | str (s : Sg)
  | tup (ds : List D) | lst (ds : List D)
  | dic (t : Bool) (kvs : List (D × D))
  | ref (n : Nat)
  | scr (ns : List Int)
  deriving Inhabited

/-- an object of the store -/
inductive Cell where
  | lst (ds : List D)
  | ins (c : Nat) (fs : List (Nat × D))
  deriving Inhabited
abbrev Mu := List Cell

/-- an exception: its class, its argument -/
structure Xn where
  cls : Nat
  arg : Option D

inductive Out (α : Type) where
  | ok (a : α) (m : Mu) | ex (x : Xn) (m : Mu) | st

abbrev M (α : Type) := Mu → Out α
def Out.bnd {α β : Type} (o : Out α) (f : α → Mu → Out β) : Out β :=
  match o with
  | .ok a m => f a m
  | .ex x m => .ex x m
  | .st => .st
def M.ret {α : Type} (a : α) : M α := fun m => .ok a m
def M.bnd {α β : Type} (x : M α) (f : α → M β) : M β := fun m => (x m).bnd f
def M.stuck {α : Type} : M α := fun _ => .st
def M.opt {α : Type} : Option α → M α
  | some a => M.ret a
  | none => M.stuck
/-- nothing may be raised within -/
def M.noex {α : Type} (x : M α) : M α := fun m => match x m with | .ok a m => .ok a m | _ => .st
def M.guard (c : Bool) : M Unit := if c then M.ret () else M.stuck
instance : Monad M where
  pure := M.ret
  bind := M.bnd

/-- a result: v a value, f a new container that nobody else holds, p a container that is looked at -/
inductive Tag where
  | v | f | p
  deriving DecidableEq
structure R where
  t : Tag
  d : D

inductive Sl where
  | un | val (d : D) | own (d : D) | bor (d : D) | grp (kvs : List (D × List D))
  deriving Inhabited
abbrev Env := List Sl

inductive Bop where
  | add | sub | mul | mod | fdiv | pow
  deriving DecidableEq
inductive Cop where
  | eq | ne | lt | le | gt | ge | isin | notin | is | isnot
  deriving DecidableEq
inductive Ty where
  | int | bool | str | tup | lst | dic | intstr | cls (k : Nat)
  deriving DecidableEq
inductive B1 where
  | len | tuple | sorted | int | repr | sum | all | any | dict | abs | lenset | sortset
  deriving DecidableEq
inductive Tg where
  | nm (i : Nat) | tp (is : List Nat)
  deriving DecidableEq

mutual
inductive CE where
  | var (i : Nat)
  | con (d : D)
  | glob (k : Nat)
  | tup (es : CEs)
  | lst (es : CEs)
  | emp (t : Bool)
  | newl (es : CEs)
  | bin (op : Bop) (a b : CE)
  | neg (a : CE)
  | cmp (op : Cop) (a b : CE)
  | chain (o1 o2 : Cop) (a b c : CE)
  | not (a : CE)
  | and (a b : CE)
  | or (a b : CE)
  | ife (c a b : CE)
  | idx (a i : CE)
  | slice (a : CE) (lo hi : CEo)
  | rev (a : CE)
  | fld (a : CE) (f : Nat)
  | call (f : Nat) (es : CEs)
  | b1 (f : B1) (a : CE)
  | lsti (it : CI)
  | min2 (a b : CE)
  | isi (t : Ty) (a : CE)
  | join (a b : CE)
  | mindex (a b : CE)
  | lindex (a b : CE)
  | mcount (a b : CE)
  | mreplace (a b c : CE)
  | mstarts (a b : CE)
  | mget (a b c : CE)
  | comp (own : List Nat) (tg : Tg) (it : CI) (cond : CEo) (elt : CE)
  | sortk (it : CI) (body : CE)
  | never
inductive CEs where
  | nil | cons (e : CE) (es : CEs)
inductive CEo where
  | none | some (e : CE)
inductive CI where
  | val (e : CE) | rng (e : CE) | rng2 (a b : CE) | enum (e : CE) | zip (a b : CE)
end

mutual
inductive CS where
  | set (i : Nat) (own : Bool) (e : CE)
  | unp (is : List Nat) (e : CE)
  | par (is : List Nat) (owns : List Bool) (es : CEs)
  | oset (i : Nat) (k e : CE)
  | sset (a k e : CE)
  | aug (i : Nat) (op : Bop) (e : CE)
  | app (i : Nat) (e : CE)
  | ext (i : Nat) (e : CE)
  | oins (i : Nat) (k e : CE)
  | sdapp (i : Nat) (k e : CE)
  | expr (e : CE)
  | doc
  | pass
  | frz (i : Nat)
  | isS (z : Nat)
  | ite (c : CE) (a b : CSs)
  | for_ (tg : Tg) (it : CI) (body : CSs)
  | while_ (c : CE) (body : CSs)
  | ret (e : CE)
  | retN
  | retF (i : Nat)
  | raise (c : Nat) (e : CEo)
  | brk
  | cont
  | never
inductive CSs where
  | nil | cons (s : CS) (ss : CSs)
end

/-! ### plain functions of data -/
def D.tyB : D → Ty → Option Bool
  | .int _, .int => some true | .bl _, .int => some true | .ref _, .int => none | .scr _, .int => none | _, .int => some false
  | .bl _, .bool => some true | .ref _, .bool => none | .scr _, .bool => none | _, .bool => some false
  | .str _, .str => some true | .ref _, .str => none | .scr _, .str => none | _, .str => some false
  | .tup _, .tup => some true | .ref _, .tup => none | .scr _, .tup => none | _, .tup => some false
  | .lst _, .lst => some true | .ref _, .lst => none | .scr _, .lst => none | _, .lst => some false
  | .dic _ _, .dic => some true | .ref _, .dic => none | .scr _, .dic => none | _, .dic => some false
  | .int _, .intstr => some true | .bl _, .intstr => some true | .str _, .intstr => some true | .ref _, .intstr => none | .scr _, .intstr => none | _, .intstr => some false
  | _, .cls _ => none
def D.truth : D → Option Bool
  | .non => some false
  | .bl b => some b
  | .int i => some (i != 0)
  | .str s => some (s != [])
  | .tup ds => some (!ds.isEmpty)
  | .lst ds => some (!ds.isEmpty)
  | .dic false kvs => some (!kvs.isEmpty)
  | _ => none
/-- what a for walks -/
def D.items : D → Option (List D)
  | .str s => some (s.map fun c => .str [c])
  | .tup ds => some ds
  | .lst ds => some ds
  | _ => none
def D.len : D → Option Nat
  | .str s => some s.length
  | .tup ds => some ds.length
  | .lst ds => some ds.length
  | .dic _ kvs => some kvs.length
  | _ => none
def b2i (b : Bool) : Int := if b then 1 else 0
mutual
/-- == -/
def eqD : D → D → Bool
  | .non, .non => true
  | .bl a, .bl b => a == b
  | .bl a, .int j => b2i a == j
  | .int i, .bl b => i == b2i b
  | .int i, .int j => i == j
  | .str x, .str y => x == y
  | .lst xs, .lst ys => eqDs xs ys
  | .tup xs, .tup ys => eqDs xs ys
  | _, _ => false
def eqDs : List D → List D → Bool
  | [], [] => true
  | x :: xs, y :: ys => eqD x y && eqDs xs ys
  | _, _ => false
end
mutual
/-- data that == is told of: no dict, no object of the store -/
def D.pure : D → Bool
  | .tup ds => pureAll ds
  | .lst ds => pureAll ds
  | .dic _ _ => false
  | .ref _ => false
  | .scr _ => false
  | _ => true
def pureAll : List D → Bool
  | [] => true
  | d :: ds => d.pure && pureAll ds
end
mutual
def D.depth : D → Nat
  | .tup ds => depthAll ds + 1
  | .lst ds => depthAll ds + 1
  | _ => 0
def depthAll : List D → Nat
  | [] => 0
  | d :: ds => Nat.max d.depth (depthAll ds)
end
def D.eqOk (d : D) : Bool := d.pure && d.depth ≤ 60

mutual
/-- <: none where it is not told -/
def ltD : D → D → Option Bool
  | .int i, .int j => some (decide (i < j))
  | .bl a, .bl b => some (!a && b)
  | .str x, .str y => some (decide (x < y))
  | .tup xs, .tup ys => ltDs xs ys
  | .lst xs, .lst ys => ltDs xs ys
  | _, _ => none
def ltDs : List D → List D → Option Bool
  | [], [] => some false
  | [], _ :: _ => some true
  | _ :: _, [] => some false
  | x :: xs, y :: ys => if eqD x y then ltDs xs ys else ltD x y
end
/-- the stable order -/
def insD (lt : D → D → Bool) (x : D) : List D → List D
  | [] => [x]
  | y :: r => if lt y x then y :: insD lt x r else x :: y :: r
def sortBy (key : D → D) : List D → List D
  | [] => []
  | x :: r => insD (fun a b => (ltD (key a) (key b)).getD false) x (sortBy key r)
/-- all are told apart -/
def allLt (ks : List D) : Bool := ks.all fun a => ks.all fun b => (ltD a b).isSome && a.eqOk && b.eqOk
def sortD (ds : List D) : Option (List D) := if allLt ds then some (sortBy id ds) else none
def insP (x : D × D) : List (D × D) → List (D × D)
  | [] => [x]
  | y :: r => if (ltD y.1 x.1).getD false then y :: insP x r else x :: y :: r
def sortP : List (D × D) → List (D × D)
  | [] => []
  | x :: r => insP x (sortP r)
/-- in, for a list or a tuple -/
def memD (x : D) (ds : List D) : Bool := ds.any fun y => eqD x y
def dedupD : List D → List D
  | [] => []
  | x :: r => x :: (dedupD r).filter fun y => !eqD x y
def lookD (k : D) : List (D × D) → Option D
  | [] => none
  | (a, v) :: r => if eqD a k then some v else lookD k r
def putD (k v : D) : List (D × D) → List (D × D)
  | [] => [(k, v)]
  | (a, w) :: r => if eqD a k then (a, v) :: r else (a, w) :: putD k v r

/-- an index: where it is -/
def atN (n : Nat) (i : Int) : Option Nat :=
  if 0 ≤ i then (if i < n then some i.toNat else none) else if -(n : Int) ≤ i then some (i + n).toNat else none
/-- a slice's bound -/
def sliN (n dflt : Nat) : Option Int → Nat
  | none => dflt
  | some i => if i < 0 then (i + n).toNat else min i.toNat n
def sliL {α : Type} (xs : List α) (lo hi : Option Int) : List α :=
  (xs.drop (sliN xs.length 0 lo)).take (sliN xs.length xs.length hi - sliN xs.length 0 lo)

def big : Nat := 16777216
def rep {α : Type} (n : Nat) (xs : List α) : List α := (List.replicate n xs).flatten
def addD : D → D → Option D
  | .int i, .int j => some (.int (i + j))
  | .str x, .str y => if x.length + y.length ≤ big then some (.str (x ++ y)) else none
  | .tup x, .tup y => if x.length + y.length ≤ big then some (.tup (x ++ y)) else none
  | .lst x, .lst y => if x.length + y.length ≤ big then some (.lst (x ++ y)) else none
  | _, _ => none
def subD : D → D → Option D
  | .int i, .int j => some (.int (i - j))
  | _, _ => none
def repOk (n : Nat) (j : Int) : Bool := decide (n ≤ 1000 ∧ -1000 ≤ j ∧ j ≤ 1000)
def mulD : D → D → Option D
  | .int i, .int j => if i.natAbs.log2 + j.natAbs.log2 < 1000000 then some (.int (i * j)) else none
  | .lst x, .int j => if repOk x.length j then some (.lst (rep j.toNat x)) else none
  | .str x, .int j => if decide (-1000 ≤ j) && decide (j ≤ 1) then some (.str (rep j.toNat x)) else none
  | .tup x, .int j => if repOk x.length j && (x.isEmpty || decide (1 ≤ j)) then some (.tup (rep j.toNat x)) else none
  | _, _ => none
def modD : D → D → Option D
  | .int i, .int j => if 0 < j then some (.int (i % j)) else none
  | _, _ => none
def fdivD : D → D → Option D
  | .int i, .int j => if 0 < j ∧ j.natAbs.log2 < 9000 then some (.int (i / j)) else none
  | _, _ => none
def powD : D → D → Option D
  | .int i, .int j => if 0 ≤ j ∧ j ≤ 1000000 ∧ i.natAbs < 2 ^ 64 then some (.int (i ^ j.toNat)) else none
  | _, _ => none
def binD : Bop → D → D → Option D
  | .add => addD
  | .sub => subD
  | .mul => mulD
  | .mod => modD
  | .fdiv => fdivD
  | .pow => powD
/-- a key of a plain dict -/
def kOk : D → Bool
  | .str _ => true
  | .int _ => true
  | _ => false
def inD (a b : D) : Option Bool :=
  match b with
  | .dic false kvs => if kOk a then some (lookD a kvs).isSome else none
  | .str y => (match a with | .str [c] => some (y.contains c) | _ => none)
  | .lst ds => if a.eqOk && ds.all D.eqOk then some (memD a ds) else none
  | .tup ds => if a.eqOk && ds.all D.eqOk then some (memD a ds) else none
  | _ => none
def isD (a b : D) : Option Bool :=
  match b, a with
  | .non, .non => some true
  | .non, _ => some false
  | .bl c, .bl d => some (d == c)
  | _, _ => none
def ltI (p : Int → Int → Bool) (a b : D) : Option Bool :=
  match a, b with
  | .int i, .int j => some (p i j)
  | _, _ => none
/-- any tuple beside the empty one (its items may be no pure data) -/
def eq0 (a b : D) : Option Bool :=
  match a, b with
  | .tup xs, .tup [] => some xs.isEmpty
  | _, _ => none
def cmpD (op : Cop) (a b : D) : Option Bool :=
  match op with
  | .eq => if a.eqOk && b.eqOk then some (eqD a b) else eq0 a b
  | .ne => if a.eqOk && b.eqOk then some (!eqD a b) else none
  | .lt => ltI (fun i j => decide (i < j)) a b
  | .le => ltI (fun i j => decide (i ≤ j)) a b
  | .gt => ltI (fun i j => decide (j < i)) a b
  | .ge => ltI (fun i j => decide (j ≤ i)) a b
  | .isin => inD a b
  | .notin => (inD a b).map (!·)
  | .is => isD a b
  | .isnot => (isD a b).map (!·)
def idxD (a i : D) : Option D :=
  match a, i with
  | .lst ds, .int k => (atN ds.length k).bind (ds[·]?)
  | .tup ds, .int k => (atN ds.length k).bind (ds[·]?)
  | .str s, .int k => (atN s.length k).bind fun j => (s[j]?).map fun c => .str [c]
  | .dic false kvs, k => if kOk k then lookD k kvs else none
  | _, _ => none
/-- an item, of an object of the store too -/
def ixS (m : Mu) (x y : D) : Option D :=
  match x with
  | .ref n => (match m[n]? with | some (.lst ds) => idxD (.lst ds) y | _ => none)
  | x => idxD x y
def sliceD (a : D) (lo hi : Option Int) : Option D :=
  match a with
  | .lst ds => some (.lst (sliL ds lo hi))
  | .tup ds => some (.tup (sliL ds lo hi))
  | .str s => some (.str (sliL s lo hi))
  | .scr ns => some (.lst ((sliL ns lo hi).map D.int))
  | _ => none
def revD : D → Option D
  | .lst ds => some (.lst ds.reverse)
  | .tup ds => some (.tup ds.reverse)
  | .str s => some (.str s.reverse)
  | _ => none
def strs? : List D → Option (List Sg)
  | [] => some []
  | .str s :: r => (strs? r).map (s :: ·)
  | _ => none
def ints? : List D → Option (List Int)
  | [] => some []
  | .int s :: r => (ints? r).map (s :: ·)
  | _ => none
def bools? : List D → Option (List Bool)
  | [] => some []
  | .bl s :: r => (bools? r).map (s :: ·)
  | _ => none
def joinS (sep : Sg) : List Sg → Sg
  | [] => []
  | [x] => x
  | x :: y :: r => x ++ sep ++ joinS sep (y :: r)
/-- s.replace(one sign, a text) -/
def replS (s : Sg) (c : Nat) (y : Sg) : Sg := s.flatMap fun x => if x == c then y else [x]
/-- keys of a dict -/
def dicOf (ps : List D) : Option (List (D × D)) :=
  ps.foldl (fun acc p => match acc, p with | some kvs, .tup [k, v] => if kOk k then some (putD k v kvs) else none | _, _ => none) (some [])
/-- texts in their order -/
def leS (x y : Sg) : Bool := !decide (y < x)
def insS (x : Sg) : List Sg → List Sg
  | [] => [x]
  | y :: r => if leS x y then x :: y :: r else y :: insS x r
def sortS : List Sg → List Sg
  | [] => []
  | x :: r => insS x (sortS r)
/-- each text once -/
def dedupS : List Sg → List Sg
  | [] => []
  | x :: r => if x ∈ r then dedupS r else x :: dedupS r
/-- the texts that a walk over it meets -/
def D.strsI : D → Option (List Sg)
  | .str s => some (s.map fun c => [c])
  | .tup ds => strs? ds
  | .lst ds => strs? ds
  | _ => none
/-- ints in their order -/
def insI (x : Int) : List Int → List Int
  | [] => [x]
  | y :: r => if x ≤ y then x :: y :: r else y :: insI x r
def sortI : List Int → List Int
  | [] => []
  | x :: r => insI x (sortI r)
mutual
/-- the two can be told apart by <, at every place -/
def alikeD : D → D → Bool
  | .bl _, .bl _ | .int _, .int _ | .str _, .str _ | .non, .non => true
  | .tup xs, .tup ys | .lst xs, .lst ys => alikeDs xs ys
  | _, _ => false
def alikeDs : List D → List D → Bool
  | x :: xs, y :: ys => alikeDs xs ys && alikeD x y
  | [], _ => true
  | _, _ => false
end
def leD (a b : D) : Bool := !((ltD b a).getD false)
def okSort (ds : List D) : Bool := (ds.all fun a => a.eqOk && ds.all fun b => alikeD a b) &&
  ((ds.all fun a => match a with | .tup (_ :: _) => true | _ => false) || ds.all fun a => match a with | .tup _ => false | .non => false | _ => true)
def sortT (ds : List D) : Option (List D) := if okSort ds then some (ds.mergeSort leD) else none
/-- sorted(..) -/
def sortedD : D → Option (List D)
  | .lst ds => (match strs? ds with
    | some ss => if ss.length < 64 then some ((sortS ss).map .str) else none
    | none => (match ints? ds with
      | some ns => some ((sortI ns).map .int)
      | none => sortT ds))
  | .tup ds => sortT ds
  | _ => none

/-- tuples of texts -/
def tups? : List D → Option (List (List Sg))
  | [] => some []
  | .tup xs :: r => (strs? xs).bind fun k => (tups? r).map (k :: ·)
  | _ => none
def dedupK : List (List Sg) → List (List Sg)
  | [] => []
  | x :: r => if x ∈ r then dedupK r else x :: dedupK r
/-- len(set(..)) -/
def lensetD (a : D) : Option R :=
  match a.strsI with
  | some ss => if ss.length < 4000 then some ⟨.v, .int (dedupS ss).length⟩ else none
  | none => (match a with
    | .tup ds => (tups? ds).bind fun ks => if ks.length < 60 then some ⟨.v, .int (dedupK ks).length⟩ else none
    | _ => none)
def b1D (rp : D → Option Sg) (f : B1) (a : D) : Option R :=
  match f with
  | .len => a.len.map fun n => ⟨.v, .int (n : Nat)⟩
  | .tuple => (match a with | .tup ds => some ⟨.v, .tup ds⟩ | .lst ds => some ⟨.v, .tup ds⟩ | .str s => some ⟨.v, .tup (s.map fun c => .str [c])⟩ | _ => none)
  | .sorted => (sortedD a).map fun r => ⟨.f, .lst r⟩
  | .int => (match a with | .int i => some ⟨.v, .int i⟩ | .bl b => some ⟨.v, .int (b2i b)⟩ | _ => none)
  | .repr => (rp a).bind fun s => if s.length ≤ big then some ⟨.v, .str s⟩ else none
  | .sum => (match a with | .lst ds => (ints? ds).map fun ns => ⟨.v, .int ns.sum⟩ | _ => none)
  | .all => (match a with | .lst ds => (bools? ds).map fun bs => ⟨.v, .bl (bs.all id)⟩ | _ => none)
  | .any => (match a with | .lst ds => (bools? ds).map fun bs => ⟨.v, .bl (bs.any id)⟩ | _ => none)
  | .dict => (match a with
    | .tup ds => (dicOf ds).map fun kvs => ⟨.f, .dic false kvs⟩
    | _ => none)
  | .abs => (match a with | .int i => some ⟨.v, .int (if i < 0 then -i else i)⟩ | _ => none)
  | .lenset => lensetD a
  | .sortset => a.strsI.bind fun ss => if ss.length < 4000 then some ⟨.f, .lst ((sortS (dedupS ss)).map .str)⟩ else none

/-! ### the evaluator -/
def R.keep (r : R) : Option D :=
  match r.t, r.d with
  | .p, .lst _ => none
  | .p, .dic _ _ => none
  | _, d => some d
def keepAll : List R → Option (List D)
  | [] => some []
  | r :: rs => r.keep.bind fun d => (keepAll rs).map (d :: ·)
def CEs.len : CEs → Nat
  | .nil => 0
  | .cons _ es => es.len + 1
@[reducible] def R.v (d : D) : R := ⟨.v, d⟩
@[reducible] def R.f (d : D) : R := ⟨.f, d⟩
/-- no longer new -/
def R.lo (r : R) : R := match r.keep with | some d => ⟨.v, d⟩ | none => ⟨.p, r.d⟩
def R.isCont (r : R) : Bool := match r.d with | .lst _ => true | .dic _ _ => true | _ => false
/-- where a result is asked for an int bound -/
def D.int? : D → Option Int
  | .int i => some i
  | _ => none
def D.str? : D → Option Sg
  | .str s => some s
  | _ => none
def D.lst? : D → Option (List D)
  | .lst s => some s
  | _ => none
def D.chr? : D → Option Nat
  | .str [c] => some c
  | _ => none
def D.dicF? : D → Option (List (D × D))
  | .dic false s => some s
  | _ => none
def D.dic? : D → Option (List (D × D))
  | .dic _ s => some s
  | _ => none
theorem D.str_eq {d : D} {s : Sg} (h : d.str? = some s) : d = .str s := by cases d <;> first | (cases h; rfl) | cases h
theorem D.lst_eq {d : D} {s : List D} (h : d.lst? = some s) : d = .lst s := by cases d <;> first | (cases h; rfl) | cases h
theorem D.int_eq {d : D} {s : Int} (h : d.int? = some s) : d = .int s := by cases d <;> first | (cases h; rfl) | cases h
theorem D.chr_eq {d : D} {c : Nat} (h : d.chr? = some c) : d = .str [c] := by
  unfold D.chr? at h
  split at h
  · cases h; rfl
  · cases h
theorem D.dic_eq {d : D} {s : List (D × D)} (h : d.dic? = some s) : ∃ t, d = .dic t s := by cases d <;> first | (cases h; exact ⟨_, rfl⟩) | cases h
def enumL : Nat → List D → List D
  | _, [] => []
  | k, d :: r => .tup [.int (k : Nat), d] :: enumL (k + 1) r
def enumD : D → Option (List D)
  | .lst ds => some (enumL 0 ds)
  | .tup ds => some (enumL 0 ds)
  | _ => none
def zipL : List D → List D → List D
  | d :: r, e :: s => .tup [d, e] :: zipL r s
  | _, _ => []
def zipD : D → D → Option (List D)
  | .lst xs, .lst ys => some (zipL xs ys)
  | .tup xs, .tup ys => some (zipL xs ys)
  | _, _ => none
def Sl.read : Sl → Option R
  | .un => none
  | .val d => some ⟨.v, d⟩
  | .own d => some ⟨.p, d⟩
  | .bor d => some ⟨.p, d⟩
  | .grp _ => none
/-- target = item -/
def setAll : List Nat → List D → Env → Option Env
  | [], [], ρ => some ρ
  | i :: is, d :: ds, ρ => setAll is ds (ρ.set i (.val d))
  | _, _, _ => none
def bindT (tg : Tg) (d : D) (ρ : Env) : Option Env :=
  match tg with
  | .nm i => some (ρ.set i (.val d))
  | .tp is => (match d with | .tup ds => setAll is ds ρ | _ => none)
def wipeE (ρ : Env) : List Nat → Env
  | [] => ρ
  | i :: is => (wipeE ρ is).set i .un
def bit (b : Bool) : R := ⟨.v, .bl b⟩
/-- a run over items -/
def mapR (f : D → M (Option D)) : List D → M (List D)
  | [] => pure []
  | x :: r => do
    let y ← f x
    let ys ← mapR f r
    pure (match y with | some y => y :: ys | none => ys)
def mapK (f : D → M D) : List D → M (List (D × D))
  | [] => pure []
  | x :: r => do
    let y ← f x
    let ys ← mapK f r
    pure ((y, x) :: ys)

structure Cx where
  call : Nat → List R → M R
  gl : List D
  rp : D → Option Sg
  wf : Nat

def keepM (r : R) : M D := M.opt r.keep
def itemsM (d : D) : M (List D) := M.opt d.items

mutual
def evE (C : Cx) : CE → Env → M R
  | .var i, ρ => M.opt ((ρ[i]?).bind Sl.read)
  | .con d, _ => pure ⟨.v, d⟩
  | .glob k, _ => M.opt ((C.gl[k]?).map R.v)
  | .tup es, ρ => do
    let rs ← evEs C es ρ
    let ds ← M.opt (keepAll rs)
    pure ⟨.v, .tup ds⟩
  | .lst es, ρ => do
    let rs ← evEs C es ρ
    let ds ← M.opt (keepAll rs)
    pure ⟨.f, .lst ds⟩
  | .emp t, _ => pure ⟨.f, .dic t []⟩
  | .newl es, ρ => do
    let rs ← evEs C es ρ
    let ds ← M.opt (keepAll rs)
    fun m => .ok ⟨.v, .ref m.length⟩ (m ++ [.lst ds])
  | .bin op a b, ρ => do
    let x ← evE C a ρ
    let y ← evE C b ρ
    let d ← M.opt (binD op x.d y.d)
    pure ⟨match d with | .lst _ => .f | _ => .v, d⟩
  | .neg a, ρ => do
    let x ← evE C a ρ
    let i ← M.opt x.d.int?
    pure ⟨.v, .int (-i)⟩
  | .cmp op a b, ρ => do
    let x ← evE C a ρ
    let y ← evE C b ρ
    let c ← M.opt (cmpD op x.d y.d)
    pure (bit c)
  | .chain o1 o2 a b c, ρ => do
    let x ← evE C a ρ
    let y ← evE C b ρ
    let k ← M.opt (cmpD o1 x.d y.d)
    if k then (do
      let z ← evE C c ρ
      let k2 ← M.opt (cmpD o2 y.d z.d)
      pure (bit k2))
    else pure (bit false)
  | .not a, ρ => do
    let x ← evE C a ρ
    let c ← M.opt x.d.truth
    pure (bit (!c))
  | .and a b, ρ => do
    let x ← evE C a ρ
    let c ← M.opt x.d.truth
    if c then evE C b ρ else pure x.lo
  | .or a b, ρ => do
    let x ← evE C a ρ
    let c ← M.opt x.d.truth
    if c then pure x.lo else evE C b ρ
  | .ife c a b, ρ => do
    let x ← evE C c ρ
    let k ← M.opt x.d.truth
    if k then evE C a ρ else evE C b ρ
  | .idx a i, ρ => do
    let x ← evE C a ρ
    let y ← evE C i ρ
    fun m => (match ixS m x.d y.d with
      | some d => .ok ⟨.v, d⟩ m
      | none => .st)
  | .slice a lo hi, ρ => do
    let x ← evE C a ρ
    let l ← evO C lo ρ
    let h ← evO C hi ρ
    let d ← M.opt (sliceD x.d l h)
    pure ⟨match d with | .lst _ => .f | _ => .v, d⟩
  | .rev a, ρ => do
    let x ← evE C a ρ
    let d ← M.opt (revD x.d)
    pure ⟨match d with | .lst _ => .f | _ => .v, d⟩
  | .fld a f, ρ => do
    let x ← evE C a ρ
    match x.d with
    | .ref n => fun m => (match m[n]? with
      | some (.ins _ fs) => (match fs.lookup f with | some d => .ok ⟨.v, d⟩ m | none => .st)
      | _ => .st)
    | _ => M.stuck
  | .call f es, ρ => do
    let rs ← evEs C es ρ
    C.call f rs
  | .b1 f a, ρ => do
    let x ← evE C a ρ
    M.opt (b1D C.rp f x.d)
  | .lsti it, ρ => do
    let ds ← evI C it ρ
    pure ⟨.f, .lst ds⟩
  | .min2 a b, ρ => do
    let x ← evE C a ρ
    let y ← evE C b ρ
    match x.d, y.d with
    | .int i, .int j => pure ⟨.v, .int (if j < i then j else i)⟩
    | _, _ => M.stuck
  | .isi t a, ρ => do
    let x ← evE C a ρ
    let c ← M.opt (x.d.tyB t)
    pure (bit c)
  | .join a b, ρ => do
    let x ← evE C a ρ
    let s ← M.opt x.d.str?
    let y ← evE C b ρ
    let ss ← M.opt (y.d.lst?.bind strs?)
    M.guard (decide ((ss.map List.length).sum + ss.length * s.length ≤ big))
    pure ⟨.v, .str (joinS s ss)⟩
  | .mindex a b, ρ => do
    let x ← evE C a ρ
    let s ← M.opt x.d.str?
    let y ← evE C b ρ
    let c ← M.opt y.d.chr?
    M.guard (s.contains c)
    pure ⟨.v, .int (s.idxOf c : Nat)⟩
  | .lindex a b, ρ => do
    let x ← evE C a ρ
    let ds ← M.opt x.d.lst?
    let y ← evE C b ρ
    M.guard (y.d.eqOk && ds.all D.eqOk && memD y.d ds)
    pure ⟨.v, .int (ds.findIdx fun z => eqD z y.d : Nat)⟩
  | .mcount a b, ρ => do
    let x ← evE C a ρ
    let ds ← M.opt x.d.lst?
    let y ← evE C b ρ
    M.guard (y.d.eqOk && ds.all D.eqOk)
    pure ⟨.v, .int (ds.countP fun z => eqD z y.d : Nat)⟩
  | .mreplace a b c, ρ => do
    let x ← evE C a ρ
    let s ← M.opt x.d.str?
    let y ← evE C b ρ
    let z ← evE C c ρ
    let k ← M.opt y.d.chr?
    let t ← M.opt z.d.str?
    M.guard (decide (s.length + (s.length + 1) * t.length ≤ big))
    pure ⟨.v, .str (replS s k t)⟩
  | .mstarts a b, ρ => do
    let x ← evE C a ρ
    let s ← M.opt x.d.str?
    let y ← evE C b ρ
    let t ← M.opt y.d.str?
    pure (bit (t.isPrefixOf s))
  | .mget a b c, ρ => do
    let x ← evE C a ρ
    let kvs ← M.opt x.d.dicF?
    let y ← evE C b ρ
    let z ← evE C c ρ
    M.guard (kOk y.d)
    let d ← keepM z
    pure ⟨.v, (lookD y.d kvs).getD d⟩
  | .comp own tg it cond elt, ρ => do
    let ds ← evI C it ρ
    let ys ← mapR (fun d => M.noex (do
      let ρ' ← M.opt (bindT tg d (wipeE ρ own))
      let c ← evC C cond ρ'
      if c then do
        let r ← evE C elt ρ'
        let y ← keepM r
        pure (some y)
      else pure none)) ds
    pure ⟨.f, .lst ys⟩
  | .sortk it body, ρ => do
    let ds ← evI C it ρ
    let ps ← mapK (fun d => M.noex (do
      let r ← evE C body (.val d :: ρ)
      keepM r)) ds
    M.guard (allLt (ps.map (·.1)))
    pure ⟨.f, .lst ((sortP ps).map (·.2))⟩
  | .never, _ => M.stuck
def evEs (C : Cx) : CEs → Env → M (List R)
  | .nil, _ => pure []
  | .cons e es, ρ => do
    let x ← evE C e ρ
    let xs ← evEs C es ρ
    pure (x :: xs)
def evO (C : Cx) : CEo → Env → M (Option Int)
  | .none, _ => pure none
  | .some e, ρ => do
    let x ← evE C e ρ
    let i ← M.opt x.d.int?
    M.guard (decide (-1000000000 < i ∧ i < 1000000000))
    pure (some i)
def evC (C : Cx) : CEo → Env → M Bool
  | .none, _ => pure true
  | .some e, ρ => do
    let x ← evE C e ρ
    M.opt x.d.truth
def evI (C : Cx) : CI → Env → M (List D)
  | .val e, ρ => do
    let x ← evE C e ρ
    itemsM x.d
  | .rng e, ρ => do
    let x ← evE C e ρ
    let n ← M.opt x.d.int?
    M.guard (decide (-1000000 < n ∧ n < 1000000))
    pure ((List.range n.toNat).map fun (k : Nat) => D.int k)
  | .rng2 a b, ρ => do
    let x ← evE C a ρ
    let y ← evE C b ρ
    let i ← M.opt x.d.int?
    let j ← M.opt y.d.int?
    M.guard (decide (-1000000 < i ∧ i < 1000000 ∧ -1000000 < j ∧ j < 1000000))
    pure ((List.range (j - i).toNat).map fun (k : Nat) => D.int (i + k))
  | .enum e, ρ => do
    let x ← evE C e ρ
    M.opt (enumD x.d)
  | .zip a b, ρ => do
    let x ← evE C a ρ
    let y ← evE C b ρ
    M.opt (zipD x.d y.d)
end

/-- += and -= -/
def augD : Bop → D → D → Option D
  | .add, .int i, .int j => some (.int (i + j))
  | .add, .str x, .str y => if x.length + y.length ≤ big then some (.str (x ++ y)) else none
  | .sub, .int i, .int j => some (.int (i - j))
  | _, _, _ => none
/-! ### statements -/
inductive Fl where
  | nx (e : Env) | br (e : Env) | ct (e : Env) | rt (r : R)
inductive OutS where
  | ok (f : Fl) (m : Mu) | ex (x : Xn) (e : Env) (m : Mu) | st
/-- an expression ahead of what follows -/
def onE {α : Type} (x : M α) (ρ : Env) (f : α → Mu → OutS) : Mu → OutS := fun m =>
  match x m with
  | .ok a m => f a m
  | .ex x m => .ex x ρ m
  | .st => .st
def nxt (o : Option Env) (m : Mu) : OutS := match o with | some ρ => .ok (.nx ρ) m | none => .st
def hideO (ρ : Env) : Env := ρ.map fun s => match s with | .own _ => .un | .grp _ => .un | s => s
def forS (tg : Tg) (body : Env → Mu → OutS) : List D → Env → Mu → OutS
  | [], ρ, m => .ok (.nx ρ) m
  | d :: ds, ρ, m =>
    match bindT tg d ρ with
    | none => .st
    | some ρ1 =>
      match body ρ1 m with
      | .ok (.nx ρ2) m2 => forS tg body ds ρ2 m2
      | .ok (.ct ρ2) m2 => forS tg body ds ρ2 m2
      | .ok (.br ρ2) m2 => .ok (.nx ρ2) m2
      | .ok (.rt r) m2 => .ok (.rt r) m2
      | .ex x ρ2 m2 => .ex x ρ2 m2
      | .st => .st
def whileS (c : Env → M Bool) (body : Env → Mu → OutS) : Nat → Env → Mu → OutS
  | 0, _, _ => .st
  | n + 1, ρ, m => onE (c ρ) ρ (fun b m =>
    if b then
      match body ρ m with
      | .ok (.nx ρ2) m2 => whileS c body n ρ2 m2
      | .ok (.ct ρ2) m2 => whileS c body n ρ2 m2
      | .ok (.br ρ2) m2 => .ok (.nx ρ2) m2
      | .ok (.rt r) m2 => .ok (.rt r) m2
      | .ex x ρ2 m2 => .ex x ρ2 m2
      | .st => .st
    else .ok (.nx ρ) m) m
/-- a slot's new content -/
def slotOf (own : Bool) (r : R) : Option Sl :=
  if own then (match r.t with | .f => some (.own r.d) | _ => none) else r.keep.map Sl.val
def setSl : List Nat → List Sl → Env → Option Env
  | [], [], ρ => some ρ
  | i :: is, s :: ss, ρ => setSl is ss (ρ.set i s)
  | _, _, _ => none
def evP (C : Cx) : CEs → List Bool → Env → M (List Sl)
  | .nil, [], _ => pure []
  | .cons e es, o :: os, ρ => do
    let x ← evE C e ρ
    let s ← M.opt (slotOf o x)
    let ss ← evP C es os ρ
    pure (s :: ss)
  | _, _, _ => M.stuck
/-- the keys of a dict of a kind -/
def keyD (t : Bool) (k : D) : Bool :=
  match t, k with
  | false, .str _ => true
  | false, .int _ => true
  | true, .tup ds => ds.all fun d => match d with | .str _ => true | .int _ => true | _ => false
  | _, _ => false
def putO (o : D) (k v : D) : Option D :=
  match o, k with
  | .lst ds, .int i => (atN ds.length i).map fun j => .lst (ds.set j v)
  | .dic t kvs, k => if keyD t k && kvs.length < big then some (.dic t (putD k v kvs)) else none
  | _, _ => none
def sdPut (k v : D) : List (D × List D) → List (D × List D)
  | [] => [(k, [v])]
  | (a, w) :: r => if eqD a k then (a, w ++ [v]) :: r else (a, w) :: sdPut k v r
def insD? (ds : List D) (k d : D) : Option D :=
  match k with
  | .int i => if ds.length < big ∧ 0 ≤ i ∧ i < 1000000 then some (.lst (ds.take i.toNat ++ [d] ++ ds.drop i.toNat)) else none
  | _ => none
/-- an object of the store is written -/
def ssetD (v a k : D) (ρ : Env) (m : Mu) : OutS :=
  match a, k with
  | .ref n, .int i => (match m[n]? with
    | some (.lst ds) => (match atN ds.length i with
      | some j => .ok (.nx ρ) (m.set n (.lst (ds.set j v)))
      | none => .st)
    | _ => .st)
  | _, _ => .st
def ownL (ρ : Env) (i : Nat) : Option (List D) :=
  match ρ[i]? with
  | some (.own (.lst ds)) => some ds
  | _ => none
theorem ownL_eq {ρ : Env} {i : Nat} {ds : List D} (h : ownL ρ i = some ds) : ρ[i]? = some (.own (.lst ds)) := by
  unfold ownL at h
  split at h
  · cases h; assumption
  · cases h
def putL (ds : List D) (k v : D) : Option D :=
  match k with
  | .int i => (atN ds.length i).map fun j => .lst (ds.set j v)
  | _ => none
def frzS : Sl → Option Sl
  | .own d => some (.val d)
  | .grp kvs => some (.val (.dic true (kvs.map fun p => (p.1, .lst p.2))))
  | .val d => some (.val d)
  | _ => none

mutual
def exS (C : Cx) : CS → Env → Mu → OutS
  | .set i own e, ρ => onE (evE C e ρ) ρ fun r m => nxt ((slotOf own r).map fun s => ρ.set i s) m
  | .unp is e, ρ => onE (evE C e ρ) ρ fun r m => nxt (r.keep.bind fun d => bindT (.tp is) d ρ) m
  | .par is owns es, ρ => onE (evP C es owns ρ) ρ fun ss m => nxt (setSl is ss ρ) m
  | .oset i k e, ρ => onE (evE C e ρ >>= fun r => M.opt r.keep >>= fun d => M.opt (ownL ρ i) >>= fun ds => evE C k ρ >>= fun y => pure (d, ds, y.d)) ρ fun p m => nxt ((putL p.2.1 p.2.2 p.1).map fun o' => ρ.set i (.own o')) m
  | .sset a k e, ρ => onE (evE C e ρ >>= fun r => M.opt r.keep >>= fun d => evE C a ρ >>= fun x => evE C k ρ >>= fun y => pure (d, x.d, y.d)) ρ fun p m => ssetD p.1 p.2.1 p.2.2 ρ m
  | .aug i op e, ρ => fun m => (match ρ[i]? with
    | some (.val d) => onE (evE C e ρ) ρ (fun r m => nxt ((augD op d r.d).map fun d' => ρ.set i (.val d')) m) m
    | _ => .st)
  | .app i e, ρ => fun m => (match ρ[i]? with
    | some (.own (.lst ds)) => onE (evE C e ρ) ρ (fun r m => nxt (if ds.length < big then r.keep.map fun d => ρ.set i (.own (.lst (ds ++ [d]))) else none) m) m
    | _ => .st)
  | .ext i e, ρ => onE (evE C e ρ) ρ fun r m =>
    nxt (match ρ[i]?, r.d with
      | some (.own (.lst ds)), .lst es => if ds.length + es.length ≤ big then some (ρ.set i (.own (.lst (ds ++ es)))) else none
      | _, _ => none) m
  | .oins i k e, ρ => fun m => (match ρ[i]? with
    | some (.own (.lst ds)) => onE (evE C k ρ >>= fun x => evE C e ρ >>= fun r => M.opt r.keep >>= fun d => pure (x.d, d)) ρ (fun p m => nxt ((insD? ds p.1 p.2).map fun o => ρ.set i (.own o)) m) m
    | _ => .st)
  | .sdapp i k e, ρ => onE (evE C k ρ >>= fun x => evE C e ρ >>= fun r => M.opt r.keep >>= fun d => pure (x.d, d)) ρ fun p m =>
    nxt (match ρ[i]? with
      | some (.grp kvs) => if keyD true p.1 && kvs.length < big then some (ρ.set i (.grp (sdPut p.1 p.2 kvs))) else none
      | some (.own (.dic true [])) => if keyD true p.1 then some (ρ.set i (.grp [(p.1, [p.2])])) else none
      | _ => none) m
  | .expr e, ρ => onE (evE C e ρ) ρ fun _ m => .ok (.nx ρ) m
  | .doc, ρ => fun m => .ok (.nx ρ) m
  | .pass, ρ => fun m => .ok (.nx ρ) m
  | .frz i, ρ => fun m => nxt ((ρ[i]?).bind frzS |>.map fun s => ρ.set i s) m
  | .isS z, ρ => fun m => (match ρ[z]? with | some (.val (.str _)) => .ok (.nx ρ) m | _ => .st)
  | .ite c a b, ρ => onE (evE C c ρ >>= fun r => M.opt r.d.truth) ρ fun k m => if k then exSs C a ρ m else exSs C b ρ m
  | .for_ tg it body, ρ => onE (evI C it (hideO ρ)) ρ fun ds m => forS tg (exSs C body) ds ρ m
  | .while_ c body, ρ => whileS (fun ρ => evE C c ρ >>= fun r => M.opt r.d.truth) (exSs C body) C.wf ρ
  | .ret e, ρ => onE (evE C e ρ) ρ fun r m => (match r.keep with | some _ => .ok (.rt r) m | none => .st)
  | .retN, _ => fun m => .ok (.rt ⟨.v, .non⟩) m
  | .retF i, ρ => fun m => (match ρ[i]? with | some (.own d) => .ok (.rt ⟨.f, d⟩) m | _ => .st)
  | .raise c e, ρ => (match e with
    | .none => fun m => .ex ⟨c, none⟩ ρ m
    | .some e => onE (evE C e ρ >>= fun r => M.opt r.keep) ρ fun d m => .ex ⟨c, some d⟩ ρ m)
  | .brk, ρ => fun m => .ok (.br ρ) m
  | .cont, ρ => fun m => .ok (.ct ρ) m
  | .never, _ => fun _ => .st
def exSs (C : Cx) : CSs → Env → Mu → OutS
  | .nil, ρ => fun m => .ok (.nx ρ) m
  | .cons s ss, ρ => fun m =>
    match exS C s ρ m with
    | .ok (.nx ρ2) m2 => exSs C ss ρ2 m2
    | o => o
end

/-! ### defs -/
structure Fn where
  modes : List Bool
  ns : Nat
  body : CSs
def bindA : List Bool → List R → Option Env
  | [], [] => some []
  | b :: bs, r :: rs => (if b && r.isCont then some (Sl.bor r.d) else r.keep.map Sl.val).bind fun s => (bindA bs rs).map (s :: ·)
  | _, _ => none
def runF (C : Cx) (fn : Fn) (args : List R) : M R := fun m =>
  match bindA fn.modes args with
  | none => .st
  | some ρ => (match exSs C fn.body (ρ ++ List.replicate (fn.ns - ρ.length) .un) m with
    | .ok (.nx _) m => .ok ⟨.v, .non⟩ m
    | .ok (.rt r) m => .ok r m
    | .ok _ _ => .st
    | .ex x _ m => .ex x m
    | .st => .st)
structure Tb where
  fns : List Fn
  gl : List D
  rp : D → Option Sg
  wf : Nat
def callF (T : Tb) : Nat → Nat → List R → M R
  | 0 => fun _ _ => M.stuck
  | n + 1 => fun f args => (match T.fns[f]? with
    | some fn => runF ⟨callF T n, T.gl, T.rp, T.wf⟩ fn args
    | none => M.stuck)
end Dn

/-! DnO -/
set_option Elab.async false
set_option linter.all false
set_option maxRecDepth 100000
set_option maxHeartbeats 1000000
/-! DnO: texts in their order. -/
namespace Dn
theorem leS_iff {x y : Sg} : leS x y = true ↔ x ≤ y := by
  unfold leS
  rw [Bool.not_eq_true', decide_eq_false_iff_not]
  exact List.not_lt
theorem insS_perm (x : Sg) : ∀ l, (insS x l).Perm (x :: l)
  | [] => .refl _
  | y :: r => by
    unfold insS
    split
    · exact .refl _
    · exact ((insS_perm x r).cons y).trans (.swap x y r)
theorem sortS_perm : ∀ l, (sortS l).Perm l
  | [] => .refl _
  | x :: r => (insS_perm x (sortS r)).trans ((sortS_perm r).cons x)
theorem insS_sorted (x : Sg) : ∀ l, l.Pairwise (· ≤ ·) → (insS x l).Pairwise (· ≤ ·)
  | [], _ => List.pairwise_singleton _ _
  | y :: r, h => by
    obtain ⟨h1, h2⟩ := List.pairwise_cons.mp h
    unfold insS
    split
    · rename_i c
      have c := leS_iff.mp c
      refine List.pairwise_cons.mpr ⟨fun z hz => ?_, h⟩
      rcases List.mem_cons.mp hz with rfl | hz
      · exact c
      · exact List.le_trans c (h1 z hz)
    · rename_i c
      have c : y ≤ x := (List.le_total y x).resolve_right fun z => c (leS_iff.mpr z)
      refine List.pairwise_cons.mpr ⟨fun z hz => ?_, insS_sorted x r h2⟩
      rcases List.mem_cons.mp ((insS_perm x r).mem_iff.mp hz) with rfl | hz
      · exact c
      · exact h1 z hz
theorem sortS_sorted : ∀ l, (sortS l).Pairwise (· ≤ ·)
  | [] => List.Pairwise.nil
  | x :: r => insS_sorted x _ (sortS_sorted r)
theorem sorted_uniq {a b : List Sg} (p : a.Perm b) (h1 : a.Pairwise (· ≤ ·)) (h2 : b.Pairwise (· ≤ ·)) : a = b := List.Perm.eq_of_pairwise (fun x y _ _ u v => List.le_antisymm u v) h1 h2 p
theorem mem_dedupS {x : Sg} : ∀ {l : List Sg}, x ∈ dedupS l ↔ x ∈ l
  | [] => Iff.rfl
  | y :: r => by
    unfold dedupS
    split
    · rename_i c
      rw [mem_dedupS, List.mem_cons]
      exact ⟨.inr, fun h => h.elim (fun e => e ▸ c) id⟩
    · rw [List.mem_cons, List.mem_cons, mem_dedupS]
theorem nodup_dedupS : ∀ l : List Sg, (dedupS l).Nodup
  | [] => List.nodup_nil
  | y :: r => by
    unfold dedupS
    split
    · exact nodup_dedupS r
    · rename_i c
      exact List.nodup_cons.mpr ⟨fun h => c (mem_dedupS.mp h), nodup_dedupS r⟩
theorem dedupS_len : ∀ l : List Sg, (dedupS l).length ≤ l.length
  | [] => Nat.le_refl _
  | y :: r => by
    have := dedupS_len r
    unfold dedupS
    split
    · rw [List.length_cons]; omega
    · rw [List.length_cons, List.length_cons]; omega
theorem dedupS_eq {l : List Sg} (h : l.Nodup) : dedupS l = l := by
  induction l with
  | nil => rfl
  | cons x r ih =>
    obtain ⟨h1, h2⟩ := List.nodup_cons.mp h
    unfold dedupS
    rw [if_neg h1, ih h2]
theorem nodup_of_len {l : List Sg} (h : (dedupS l).length = l.length) : l.Nodup := by
  induction l with
  | nil => exact List.nodup_nil
  | cons x r ih =>
    have hl := dedupS_len r
    unfold dedupS at h
    split at h
    · rw [List.length_cons] at h; omega
    · rename_i c
      rw [List.length_cons, List.length_cons] at h
      exact List.nodup_cons.mpr ⟨c, ih (by omega)⟩
theorem insI_perm (x : Int) : ∀ l, (insI x l).Perm (x :: l)
  | [] => .refl _
  | y :: r => by
    unfold insI
    split
    · exact .refl _
    · exact ((insI_perm x r).cons y).trans (.swap x y r)
theorem sortI_perm : ∀ l, (sortI l).Perm l
  | [] => .refl _
  | x :: r => (insI_perm x (sortI r)).trans ((sortI_perm r).cons x)
theorem insI_sorted (x : Int) : ∀ l, l.Pairwise (· ≤ ·) → (insI x l).Pairwise (· ≤ ·)
  | [], _ => List.pairwise_singleton _ _
  | y :: r, h => by
    obtain ⟨h1, h2⟩ := List.pairwise_cons.mp h
    unfold insI
    split
    · rename_i c
      refine List.pairwise_cons.mpr ⟨fun z hz => ?_, h⟩
      rcases List.mem_cons.mp hz with rfl | hz
      · exact c
      · exact Int.le_trans c (h1 z hz)
    · rename_i c
      refine List.pairwise_cons.mpr ⟨fun z hz => ?_, insI_sorted x r h2⟩
      rcases List.mem_cons.mp ((insI_perm x r).mem_iff.mp hz) with rfl | hz
      · omega
      · exact h1 z hz
theorem sortI_sorted : ∀ l, (sortI l).Pairwise (· ≤ ·)
  | [] => List.Pairwise.nil
  | x :: r => insI_sorted x _ (sortI_sorted r)
theorem sortedI_uniq {a b : List Int} (p : a.Perm b) (h1 : a.Pairwise (· ≤ ·)) (h2 : b.Pairwise (· ≤ ·)) : a = b := List.Perm.eq_of_pairwise (fun x y _ _ u v => Int.le_antisymm u v) h1 h2 p
theorem sortS_eq {l : List Sg} (h : l.Pairwise (· ≤ ·)) : sortS l = l := sorted_uniq (sortS_perm l) (sortS_sorted l) h
end Dn

/-! Dn2 -/
set_option Elab.async false
set_option linter.all false
set_option maxRecDepth 100000
set_option maxHeartbeats 1000000
/-! Dn2: what data are in the model's heap. -/
namespace Dn
open PySem PySem.Spec PyProof.Rows L2

def S (s : Sg) : Str := ⟨s.toArray⟩
theorem S_len (s : Sg) : (S s).length = s.length := by simp [S, Str.length]
theorem S_inj {a b : Sg} (h : S a = S b) : a = b := by
  have := congrArg Str.cps h
  simpa [S] using congrArg Array.toList this
/-- a text of the model -/
def txtOk (s : Sg) : Prop := s.length ≤ sizeLine ∧ ∀ c ∈ s, c < 1114112
/-- a key's datum -/
def kD : Key → D
  | .inl i => .int i
  | .inr x => .str x.cps.toList

/-- what is frozen, where the store's objects stand -/
structure Wd where
  Ph : Hp
  io : List Addr
structure Wd.Le (W W' : Wd) : Prop where
  ph : Same W.Ph W'.Ph
  io : ∃ more, W'.io = W.io ++ more
theorem Wd.Le.refl (W : Wd) : W.Le W := ⟨Same.refl _, [], by simp⟩
theorem Wd.Le.trans {A B C : Wd} (h : A.Le B) (k : B.Le C) : A.Le C := by
  obtain ⟨h1, m, e1⟩ := h
  obtain ⟨k1, m', e2⟩ := k
  exact ⟨h1.trans k1, m ++ m', by rw [e2, e1, List.append_assoc]⟩

/-- a tuple whose object is known; it has no dict -/
def SqN (K : PySem.W.Frag) (H : Hp) (a : Addr) (xs : List V) : Prop :=
  (∃ o, H a = some (.frz o (.tup xs)) ∧ o.dict = none) ∨
    ∃ (o : Obj) (its : Array Value) (n : Nat), K.lookup a = some o ∧ o.cls = .type "tuple" ∧ o.dict = none ∧ o.data = .seq its n ∧ its.size ≤ sizeLine ∧ Vals xs its.toList
theorem SqN.sq {K : PySem.W.Frag} {H : Hp} {a : Addr} {xs : List V} (h : SqN K H a xs) : SqT K H a xs := by
  rcases h with ⟨o, e, _⟩ | ⟨o, its, n, e, hc, _, r⟩
  · exact .inl (.inr ⟨o, e⟩)
  · exact .inr ⟨o, its, n, e, hc, r⟩
section
variable (K : PySem.W.Frag)
mutual
inductive RV : Wd → V → D → Prop
  | non {W} : RV W .non .non
  | bl {W} (b : Bool) : RV W (.bl b) (.bl b)
  | int {W} (i : Int) : RV W (.int i) (.int i)
  | str {W} (s : Sg) : txtOk s → RV W (.str (S s)) (.str s)
  | tup {W : Wd} {a : Addr} {vs : List V} {ds : List D} : SqN K W.Ph a vs → RVs W vs ds → ds.length ≤ sizeLine → RV W (.ref a) (.tup ds)
  | lst {W : Wd} {a : Addr} {vs : List V} {ds : List D} : W.Ph a = some (.lst vs) → RVs W vs ds → ds.length ≤ sizeLine → RV W (.ref a) (.lst ds)
  | scr {W : Wd} {a : Addr} {ns : List Int} : SqL K W.Ph a (ns.map V.int) → ns.length ≤ sizeLine → RV W (.ref a) (.scr ns)
  | dicK {W : Wd} {a : Addr} {kvs : List (Key × V)} {ds : List (D × D)} : W.Ph a = some (.dK kvs) → RVk W kvs ds → ds.length ≤ sizeLine → RV W (.ref a) (.dic false ds)
  | dicT {W : Wd} {a : Addr} {kvs : List (List Key × V)} {ds : List (D × D)} : W.Ph a = some (.dT kvs) → RVt W kvs ds → ds.length ≤ sizeLine → RV W (.ref a) (.dic true ds)
  | ref {W : Wd} {n : Nat} {a : Addr} : W.io[n]? = some a → RV W (.ref a) (.ref n)
inductive RVs : Wd → List V → List D → Prop
  | nil {W} : RVs W [] []
  | cons {W v d vs ds} : RV W v d → RVs W vs ds → RVs W (v :: vs) (d :: ds)
inductive RVk : Wd → List (Key × V) → List (D × D) → Prop
  | nil {W} : RVk W [] []
  | cons {W k v d kvs ds} : RV W v d → RVk W kvs ds → RVk W ((k, v) :: kvs) ((kD k, d) :: ds)
inductive RVt : Wd → List (List Key × V) → List (D × D) → Prop
  | nil {W} : RVt W [] []
  | cons {W k v d kvs ds} : RV W v d → RVt W kvs ds → RVt W ((k, v) :: kvs) ((.tup (k.map kD), d) :: ds)
end
theorem Same.seqN {K : PySem.W.Frag} {H H' : Hp} {a : Addr} {xs : List V} (e : Same H H') (h : SqN K H a xs) : SqN K H' a xs := by
  rcases h with ⟨o, h, z⟩ | h
  · exact .inl ⟨o, e _ _ h, z⟩
  · exact .inr h
theorem Same.seqT {K : PySem.W.Frag} {H H' : Hp} {a : Addr} {xs : List V} (e : Same H H') (h : SqT K H a xs) : SqT K H' a xs := by
  rcases h with (h | ⟨o, h⟩) | h
  · exact .inl (.inl (e _ _ h))
  · exact .inl (.inr ⟨o, e _ _ h⟩)
  · exact .inr h
theorem Same.seqL {K : PySem.W.Frag} {H H' : Hp} {a : Addr} {xs : List V} (e : Same H H') (h : SqL K H a xs) : SqL K H' a xs := by
  rcases h with (h | ⟨o, h⟩) | h
  · exact .inl (.inl (e _ _ h))
  · exact .inl (.inr ⟨o, e _ _ h⟩)
  · exact .inr h
theorem io_get {W W' : Wd} (l : W.Le W') {n : Nat} {a : Addr} (h : W.io[n]? = some a) : W'.io[n]? = some a := by
  obtain ⟨m, e⟩ := l.io
  rw [e, List.getElem?_append_left (by exact (List.getElem?_eq_some_iff.mp h).1)]
  exact h
mutual
theorem RV.mono {K} : ∀ {W W' : Wd} {v : V} {d : D}, W.Le W' → RV K W v d → RV K W' v d
  | _, _, _, _, _, .non => .non
  | _, _, _, _, _, .bl b => .bl b
  | _, _, _, _, _, .int i => .int i
  | _, _, _, _, _, .str s h => .str s h
  | _, _, _, _, l, .scr h z => .scr (Same.seqL l.ph h) z
  | _, _, _, _, l, .tup h r z => .tup (Same.seqN l.ph h) (RVs.mono l r) z
  | _, _, _, _, l, .lst h r z => .lst (l.ph _ _ h) (RVs.mono l r) z
  | _, _, _, _, l, .dicK h r z => .dicK (l.ph _ _ h) (RVk.mono l r) z
  | _, _, _, _, l, .dicT h r z => .dicT (l.ph _ _ h) (RVt.mono l r) z
  | _, _, _, _, l, .ref h => .ref (io_get l h)
theorem RVs.mono {K} : ∀ {W W' : Wd} {v : List V} {d : List D}, W.Le W' → RVs K W v d → RVs K W' v d
  | _, _, _, _, _, .nil => .nil
  | _, _, _, _, l, .cons h r => .cons (RV.mono l h) (RVs.mono l r)
theorem RVk.mono {K} : ∀ {W W' : Wd} {v : List (Key × V)} {d : List (D × D)}, W.Le W' → RVk K W v d → RVk K W' v d
  | _, _, _, _, _, .nil => .nil
  | _, _, _, _, l, .cons h r => .cons (RV.mono l h) (RVk.mono l r)
theorem RVt.mono {K} : ∀ {W W' : Wd} {v : List (List Key × V)} {d : List (D × D)}, W.Le W' → RVt K W v d → RVt K W' v d
  | _, _, _, _, _, .nil => .nil
  | _, _, _, _, l, .cons h r => .cons (RV.mono l h) (RVt.mono l r)
end
theorem RVs.length {K W} : ∀ {vs : List V} {ds : List D}, RVs K W vs ds → vs.length = ds.length
  | _, _, .nil => rfl
  | _, _, .cons _ r => by simp [RVs.length r]
theorem RVk.length {K W} : ∀ {vs : List (Key × V)} {ds : List (D × D)}, RVk K W vs ds → vs.length = ds.length
  | _, _, .nil => rfl
  | _, _, .cons _ r => by simp [RVk.length r]
theorem RVt.length {K W} : ∀ {vs : List (List Key × V)} {ds : List (D × D)}, RVt K W vs ds → vs.length = ds.length
  | _, _, .nil => rfl
  | _, _, .cons _ r => by simp [RVt.length r]
theorem RVs.get {K W} : ∀ {vs : List V} {ds : List D} {i : Nat} {d : D}, RVs K W vs ds → ds[i]? = some d → ∃ v, vs[i]? = some v ∧ RV K W v d
  | _, _, _, _, .nil, e => by simp at e
  | _, _, 0, _, .cons r _, e => by simp at e; subst e; exact ⟨_, rfl, r⟩
  | _, _, i + 1, _, .cons _ t, e => by
    obtain ⟨v, h1, h2⟩ := RVs.get (i := i) t (by simpa using e)
    exact ⟨v, by simpa using h1, h2⟩
theorem RVs.getV {K W} : ∀ {vs : List V} {ds : List D} {i : Nat} {v : V}, RVs K W vs ds → vs[i]? = some v → ∃ d, ds[i]? = some d ∧ RV K W v d
  | _, _, _, _, .nil, e => by simp at e
  | _, _, 0, _, .cons r _, e => by simp at e; subst e; exact ⟨_, rfl, r⟩
  | _, _, i + 1, _, .cons _ t, e => by
    obtain ⟨v, h1, h2⟩ := RVs.getV (i := i) t (by simpa using e)
    exact ⟨v, by simpa using h1, h2⟩
theorem RVs.append {K W} : ∀ {vs ws : List V} {ds es : List D}, RVs K W vs ds → RVs K W ws es → RVs K W (vs ++ ws) (ds ++ es)
  | _, _, _, _, .nil, s => s
  | _, _, _, _, .cons r t, s => .cons r (RVs.append t s)
theorem RVs.take {K W} : ∀ {vs : List V} {ds : List D} (n : Nat), RVs K W vs ds → RVs K W (vs.take n) (ds.take n)
  | _, _, 0, _ => .nil
  | _, _, _ + 1, .nil => .nil
  | _, _, n + 1, .cons r t => .cons r (RVs.take n t)
theorem RVs.drop {K W} : ∀ {vs : List V} {ds : List D} (n : Nat), RVs K W vs ds → RVs K W (vs.drop n) (ds.drop n)
  | _, _, 0, r => r
  | _, _, _ + 1, .nil => .nil
  | _, _, n + 1, .cons _ t => RVs.drop n t
theorem RVs.rev {K W} : ∀ {vs : List V} {ds : List D}, RVs K W vs ds → RVs K W vs.reverse ds.reverse
  | _, _, .nil => .nil
  | _, _, .cons r t => by
    rw [List.reverse_cons, List.reverse_cons]
    exact (RVs.rev t).append (.cons r .nil)
theorem RVs.set {K W} {v : V} {d : D} (h : RV K W v d) : ∀ {vs : List V} {ds : List D} (i : Nat), RVs K W vs ds → RVs K W (vs.set i v) (ds.set i d)
  | _, _, _, .nil => .nil
  | _, _, 0, .cons _ t => .cons h t
  | _, _, i + 1, .cons r t => .cons r (RVs.set h i t)
theorem RVs.rep {K W} {vs : List V} {ds : List D} (h : RVs K W vs ds) : ∀ n : Nat, RVs K W (List.replicate n vs).flatten (List.replicate n ds).flatten
  | 0 => .nil
  | n + 1 => by
    rw [List.replicate_succ, List.replicate_succ, List.flatten_cons, List.flatten_cons]
    exact h.append (RVs.rep h n)

/-- a datum is one value -/
theorem RVs.ints {W} : ∀ {vs : List V} {ns : List Int}, RVs K W vs (ns.map D.int) → vs = ns.map V.int
  | _, [], .nil => rfl
  | _, n :: r, .cons h t => by
    cases h
    rw [RVs.ints t]
    rfl
theorem RVs.strs {W} : ∀ {vs : List V} {ns : List Sg}, RVs K W vs (ns.map D.str) → vs = (ns.map S).map V.str
  | _, [], .nil => rfl
  | _, n :: r, .cons h t => by
    cases h
    rw [RVs.strs t]
    rfl
theorem RVs.bools {W} : ∀ {vs : List V} {ns : List Bool}, RVs K W vs (ns.map D.bl) → vs = ns.map V.bl
  | _, [], .nil => rfl
  | _, n :: r, .cons h t => by
    cases h
    rw [RVs.bools t]
    rfl
theorem RVs.of_ints {W} : ∀ (ns : List Int), RVs K W (ns.map V.int) (ns.map D.int)
  | [] => .nil
  | n :: r => .cons (.int n) (RVs.of_ints r)
theorem RVs.of_strs {W} : ∀ (ns : List Sg), (∀ x ∈ ns, txtOk x) → RVs K W ((ns.map S).map V.str) (ns.map D.str)
  | [], _ => .nil
  | n :: r, h => .cons (.str n (h n (by simp))) (RVs.of_strs r fun x hx => h x (by simp [hx]))

/-! ### the heap -/
/-- an object of the store as it stands -/
def CellR (W : Wd) (H : Hp) (a : Addr) : Cell → Prop
  | .lst ds => ∃ vs, H a = some (.lst vs) ∧ RVs K W vs ds ∧ ds.length ≤ sizeLine
  | .ins _ _ => False
/-- a container's content at a -/
def ContAt (W : Wd) (G : Hp) (a : Addr) : D → Prop
  | .lst ds => ∃ vs, G a = some (.lst vs) ∧ RVs K W vs ds ∧ ds.length ≤ sizeLine
  | .dic false ds => ∃ kvs, G a = some (.dK kvs) ∧ RVk K W kvs ds ∧ ds.length ≤ sizeLine
  | .dic true ds => ∃ kvs, G a = some (.dT kvs) ∧ RVt K W kvs ds ∧ ds.length ≤ sizeLine
  | _ => False
/-- what stands there, the mark taken off -/
def strip : HO → HO
  | .frz _ u => u
  | o => o
/-- what of the guard may be read: no marked object -/
def rdG (G : Hp) : Hp := fun a => match G a with
  | some (.frz _ _) => none
  | o => o
/-- the heap: what is frozen, guarded, the store -/
structure HR (W : Wd) (G H : Hp) (m : Mu) : Prop where
  fz : Same W.Ph H
  gd : ∀ a o, G a = some o → H a = some (strip o)
  dis : ∀ a o, G a = some o → W.Ph a = none
  len : m.length = W.io.length
  st : ∀ (n : Nat) (a : Addr) (c : Cell), W.io[n]? = some a → m[n]? = some c → CellR K W H a c
  stP : ∀ a ∈ W.io, W.Ph a = none
  stG : ∀ a ∈ W.io, G a = none
  nd : W.io.Nodup
/-- a value that can be read -/
def RD (W : Wd) (G : Hp) (v : V) (d : D) : Prop := RV K W v d ∨ ∃ a, v = .ref a ∧ ContAt K W G a d
/-- a result -/
def RR (W : Wd) (G H : Hp) (v : V) (r : R) : Prop :=
  match r.t with
  | .v => RV K W v r.d
  | .f => ∃ a, v = .ref a ∧ ContAt K W H a r.d ∧ W.Ph a = none ∧ G a = none ∧ a ∉ W.io
  | .p => RD K W G v r.d
end
section
variable {K : PySem.W.Frag} {W W' : Wd} {G G' H H' : Hp} {m : Mu} {a : Addr} {v : V} {d : D} {r : R}
theorem ContAt.mono (l : W.Le W') (s : Same G G') (h : ContAt K W G a d) : ContAt K W' G' a d := by
  cases d with
  | lst ds => obtain ⟨vs, e, q, z⟩ := h; exact ⟨vs, s _ _ e, q.mono l, z⟩
  | dic t ds => cases t with
    | false => obtain ⟨vs, e, q, z⟩ := h; exact ⟨vs, s _ _ e, q.mono l, z⟩
    | true => obtain ⟨vs, e, q, z⟩ := h; exact ⟨vs, s _ _ e, q.mono l, z⟩
  | _ => exact h.elim
theorem ContAt.some (h : ContAt K W G a d) : ∃ o, G a = some o := by
  cases d with
  | lst ds => obtain ⟨vs, e, q⟩ := h; exact ⟨_, e⟩
  | dic t ds => cases t with
    | false => obtain ⟨vs, e, q⟩ := h; exact ⟨_, e⟩
    | true => obtain ⟨vs, e, q⟩ := h; exact ⟨_, e⟩
  | _ => exact h.elim
theorem RD.mono (l : W.Le W') (s : Same G G') (h : RD K W G v d) : RD K W' G' v d := by
  rcases h with h | ⟨a, e, h⟩
  · exact .inl (h.mono l)
  · exact .inr ⟨a, e, h.mono l s⟩
theorem HR.gfree (h : HR K W G H m) (e : H a = none) : G a = none := by
  cases q : G a with
  | none => rfl
  | some o => rw [h.gd a o q] at e; cases e
theorem HR.ioSome (h : HR K W G H m) (ha : a ∈ W.io) : ∃ o, H a = some o := by
  obtain ⟨n, e⟩ := List.getElem?_of_mem ha
  have hn : n < m.length := by rw [h.len]; exact (List.getElem?_eq_some_iff.mp e).1
  have := h.st n a m[n] e (List.getElem?_eq_getElem hn)
  cases q : m[n] with
  | lst ds => rw [q] at this; obtain ⟨vs, e, _⟩ := this; exact ⟨_, e⟩
  | ins _ _ => rw [q] at this; exact this.elim
theorem HR.fresh (h : HR K W G H m) (e : H a = none) : W.Ph a = none ∧ G a = none ∧ a ∉ W.io := by
  refine ⟨h.fz.free e, h.gfree e, fun hm => ?_⟩
  obtain ⟨o, q⟩ := h.ioSome hm
  rw [e] at q; cases q
/-- an object of the store stays as it is where its address does -/
theorem CellR.mono {c : Cell} (l : W.Le W') (e : H' a = H a) (h : CellR K W H a c) : CellR K W' H' a c := by
  cases c with
  | lst ds => obtain ⟨vs, q, r, z⟩ := h; exact ⟨vs, by rw [e]; exact q, r.mono l, z⟩
  | ins _ _ => exact h.elim
/-- less is guarded -/
theorem HR.unguard (h : HR K W G' H m) (s : Same G G') : HR K W G H m :=
  ⟨h.fz, fun a o e => h.gd a o (s _ _ e), fun a o e => h.dis a o (s _ _ e), h.len, h.st, h.stP, fun a ha => s.free (h.stG a ha), h.nd⟩
theorem same_upd' {H : Hp} {p : Addr} {o : HO} (h : H p = none) : Same H (upd H p o) := fun b x e => by
  rw [upd_ne (ne_of_none e h)]
  exact e
/-- a new object, of nobody yet -/
theorem HR.new {o : HO} (h : HR K W G H m) (e : H a = none) : HR K W G (upd H a o) m := by
  have s : Same H (upd H a o) := same_upd' e
  obtain ⟨f1, f2, f3⟩ := h.fresh e
  refine ⟨h.fz.trans s, fun b o q => s _ _ (h.gd b o q), h.dis, h.len, fun n b c e1 e2 => ?_, h.stP, h.stG, h.nd⟩
  have hb : b ≠ a := fun q => f3 (q ▸ List.mem_of_getElem? e1)
  exact (h.st n b c e1 e2).mono (Wd.Le.refl _) (upd_ne hb)
/-- an object that stands free is frozen -/
def Wd.frz (W : Wd) (a : Addr) (o : HO) : Wd := ⟨upd W.Ph a o, W.io⟩
theorem Wd.Le.frz {o : HO} (e : W.Ph a = none) : W.Le (W.frz a o) := ⟨same_upd' e, [], by simp [Wd.frz]⟩
theorem HR.frz {o : HO} (h : HR K W G H m) (e : H a = some o) (e1 : W.Ph a = none) (e2 : G a = none) (e3 : a ∉ W.io) : HR K (W.frz a o) G H m := by
  refine ⟨fun b u q => ?_, h.gd, fun b u q => ?_, h.len, fun n b c q1 q2 => ?_, fun b hb => ?_, h.stG, h.nd⟩
  · by_cases hb : b = a
    · subst hb
      have q' : upd W.Ph b o b = some u := q
      rw [upd_same] at q'; cases q'; exact e
    · have q' : upd W.Ph a o b = some u := q
      rw [upd_ne hb] at q'
      exact h.fz _ _ q'
  · show upd W.Ph a o b = none
    have hb : b ≠ a := ne_of_none q e2
    rw [upd_ne hb]
    exact h.dis _ _ q
  · exact (h.st n b c q1 q2).mono (Wd.Le.frz e1) rfl
  · show upd W.Ph a o b = none
    have : b ≠ a := fun q => e3 (q ▸ hb)
    rw [upd_ne this]
    exact h.stP b hb
/-- an object that stands free is guarded -/
theorem HR.guard {o : HO} (h : HR K W G H m) (e : H a = some o) (e1 : W.Ph a = none) (e3 : a ∉ W.io) (es : strip o = o := by rfl) : HR K W (upd G a o) H m := by
  refine ⟨h.fz, fun b u q => ?_, fun b u q => ?_, h.len, h.st, h.stP, fun b hb => ?_, h.nd⟩
  · by_cases hb : b = a
    · subst hb; rw [upd_same] at q; cases q; rw [es]; exact e
    · rw [upd_ne hb] at q; exact h.gd _ _ q
  · by_cases hb : b = a
    · subst hb; exact e1
    · rw [upd_ne hb] at q; exact h.dis _ _ q
  · have : b ≠ a := fun q => e3 (q ▸ hb)
    rw [upd_ne this]
    exact h.stG b hb
/-- a guarded object is written -/
theorem HR.put {o u : HO} (h : HR K W G H m) (e : G a = some u) (es : strip o = o := by rfl) : HR K W (upd G a o) (upd H a o) m := by
  have e1 := h.dis _ _ e
  have e3 : a ∉ W.io := fun q => by rw [h.stG a q] at e; cases e
  refine ⟨fun b x q => ?_, fun b x q => ?_, fun b x q => ?_, h.len, fun n b c q1 q2 => ?_, h.stP, fun b hb => ?_, h.nd⟩
  · rw [upd_ne (ne_of_none q e1)]; exact h.fz _ _ q
  · by_cases hb : b = a
    · subst hb; rw [upd_same] at q ⊢; cases q; rw [es]
    · rw [upd_ne hb] at q ⊢; exact h.gd _ _ q
  · by_cases hb : b = a
    · subst hb; exact e1
    · rw [upd_ne hb] at q; exact h.dis _ _ q
  · have hb : b ≠ a := fun q => e3 (q ▸ List.mem_of_getElem? q1)
    exact (h.st n b c q1 q2).mono (Wd.Le.refl _) (upd_ne hb)
  · have : b ≠ a := fun q => e3 (q ▸ hb)
    rw [upd_ne this]
    exact h.stG b hb
/-- what a container is, frozen -/
theorem RV.of_cont {o : HO} (h : ContAt K W H a d) (e : H a = some o) (e1 : W.Ph a = none) : RV K (W.frz a o) (.ref a) d := by
  have l : W.Le (W.frz a o) := Wd.Le.frz e1
  have ea : (W.frz a o).Ph a = some o := upd_same
  cases d with
  | lst ds =>
    obtain ⟨vs, q, r, z⟩ := h
    rw [e] at q; cases q
    exact .lst ea (r.mono l) z
  | dic t ds => cases t with
    | false =>
      obtain ⟨vs, q, r, z⟩ := h
      rw [e] at q; cases q
      exact .dicK ea (r.mono l) z
    | true =>
      obtain ⟨vs, q, r, z⟩ := h
      rw [e] at q; cases q
      exact .dicT ea (r.mono l) z
  | _ => exact h.elim
/-- a result, frozen where it is new: it can be read; it can be kept where R.keep says so -/
theorem RR.read (h : HR K W G H m) (q : RR K W G H v r) : ∃ W', W.Le W' ∧ HR K W' G H m ∧ RD K W' G v r.d ∧ (∀ d, r.keep = some d → d = r.d ∧ RV K W' v d) := by
  obtain ⟨t, d⟩ := r
  cases t with
  | v => exact ⟨W, Wd.Le.refl _, h, .inl q, fun e he => by
      have : d = e := by simpa [R.keep] using he
      subst this; exact ⟨rfl, q⟩⟩
  | p =>
    refine ⟨W, Wd.Le.refl _, h, q, fun e he => ?_⟩
    have hd : d = e ∧ (∀ x, d ≠ .lst x) ∧ ∀ t x, d ≠ .dic t x := by
      cases d <;> simp [R.keep] at he <;> first | exact ⟨he, by simp, by simp⟩ | skip
    obtain ⟨rfl, h1, h2⟩ := hd
    rcases q with q | ⟨a, e, q⟩
    · exact ⟨rfl, q⟩
    · exfalso
      cases d with
      | lst x => exact h1 _ rfl
      | dic t x => exact h2 _ _ rfl
      | _ => exact q.elim
  | f =>
    obtain ⟨a, rfl, c, e1, e2, e3⟩ := q
    obtain ⟨o, e⟩ := c.some
    have x := RV.of_cont c e e1
    exact ⟨W.frz a o, Wd.Le.frz e1, h.frz e e1 e2 e3, .inl x, fun e he => by
      have : d = e := by simpa [R.keep] using he
      subst this; exact ⟨rfl, x⟩⟩
end
/-! ### the text that repr shows -/
mutual
def toQ : D → PyData
  | .non => .none
  | .bl b => .bool b
  | .int i => .int i
  | .str s => .str (S s)
  | .tup ds => .tuple (toQs ds)
  | .lst ds => .list (toQs ds)
  | .dic _ _ => .dict []
  | .ref _ => .none
  | .scr _ => .none
def toQs : List D → List PyData
  | [] => []
  | d :: ds => toQ d :: toQs ds
end
def asc (c : Nat) : Bool := decide (c < 127)
/-- what repr is told of -/
def shB : D → Bool
  | .non => true
  | .bl _ => true
  | .int i => decide (i.natAbs.log2 < 1920)
  | .str s => s.all asc
  | .tup ds => shBs ds
  | .lst ds => shBs ds
  | .dic t kvs => !t && kvs.isEmpty
  | .ref _ => false
  | .scr _ => false
where shBs : List D → Bool
  | [] => true
  | d :: ds => shB d && shBs ds
def isBox : D → Bool
  | .tup _ => true | .lst _ => true | .dic _ _ => true | _ => false
def rpD (d : D) : Option Sg :=
  if shB d && decide (d.depth ≤ 60) && decide ((toQ d).shown.length ≤ 16777216) then some (toQ d).shown.cps.toList else none

end Dn

/-! Dn3 -/
set_option Elab.async false
set_option linter.all false
set_option maxRecDepth 100000
set_option maxHeartbeats 1000000
/-! Dn3: the context; what a result asks. -/
namespace Dn
open PySem PySem.Spec PyProof.Rows L2

/-- the names of the text -/
structure Tn where
  fn : List Str
  gn : List Str
  cn : List Str

section
variable (T : Tb) (Nn : Tn) (mg : Str → Option Value) (K : PySem.W.Frag)
/-- how an exception lies -/
def XR (W : Wd) (H : Hp) (x : Xn) (c : Value) (d : Option Addr) : Prop :=
  (∃ nm C, Nn.cn[x.cls]? = some nm ∧ mg nm = some (.ref C) ∧ c = .ref C) ∧
    (match x.arg with
      | none => d = none
      | some e => ∃ dd fld v, d = some dd ∧ H dd = some (.xd [(fld, v)]) ∧ RV K W v e)
/-- what is asked behind a run -/
def PostG {α : Type} (Rel : Wd → Hp → V → α → Prop) (G : Hp) (W : Wd) (o : Out α) (Q : VK) (E : XK) : Prop :=
  match o with
  | .ok r m' => ∀ W' H' v, W.Le W' → HR K W' G H' m' → Rel W' H' v r → Q v H'
  | .ex x m' => ∀ W' H' c d, W.Le W' → HR K W' G H' m' → XR Nn mg K W' H' x c d → E c d H'
  | .st => False
abbrev Post (G : Hp) (W : Wd) (o : Out R) (Q : VK) (E : XK) : Prop := PostG Nn mg K (fun W' H' v r => RR K W' G H' v r) G W o Q E
/-- an operand: it can be read; kept where R.keep says so -/
def ArgR (W : Wd) (G : Hp) (v : V) (r : R) : Prop := RD K W G v r.d ∧ ∀ d, r.keep = some d → d = r.d ∧ RV K W v d
abbrev PostD (G : Hp) (W : Wd) (o : Out R) (Q : VK) (E : XK) : Prop := PostG Nn mg K (fun W' _ v r => ArgR K W' G v r) G W o Q E
def PostB (G : Hp) (W : Wd) (o : Out Bool) (Q : Bool → Hp → Prop) (E : XK) : Prop :=
  match o with
  | .ok k m' => ∀ W' H', W.Le W' → HR K W' G H' m' → Q k H'
  | .ex x m' => ∀ W' H' c d, W.Le W' → HR K W' G H' m' → XR Nn mg K W' H' x c d → E c d H'
  | .st => False
def PostA (G : Hp) (W : Wd) (o : Out (List R)) (Q : List V → Hp → Prop) (E : XK) : Prop :=
  match o with
  | .ok rs m' => ∀ W' H' vs, W.Le W' → HR K W' G H' m' → Paired (ArgR K W' G) vs rs → Q vs H'
  | .ex x m' => ∀ W' H' c d, W.Le W' → HR K W' G H' m' → XR Nn mg K W' H' x c d → E c d H'
  | .st => False
/-- a def's promise: it hands back what the evaluator says -/
def spF (n f : Nat) : Sp := fun vs H Q E => ∃ W G m rs, HR K W G H m ∧ Paired (ArgR K W G) vs rs ∧ Post Nn mg K G W (callF T n f rs m) Q E
end
section
variable {T : Tb} {Nn : Tn} {mg : Str → Option Value} {K : PySem.W.Frag} {G : Hp} {W : Wd} {H : Hp} {m : Mu} {Q : VK} {E : XK}
theorem PostD.post {o : Out R} (h : PostD Nn mg K G W o Q E) : Post Nn mg K G W o Q E := by
  cases o with
  | ok r m' =>
    intro W' H' v l hr q
    obtain ⟨W2, l2, hr2, rd, kp⟩ := RR.read hr q
    exact h W2 H' v (l.trans l2) hr2 ⟨rd, kp⟩
  | ex x m' => exact h
  | st => exact h
/-- from the run of x to what follows -/
theorem postG_bnd {α β : Type} {Rel : Wd → Hp → V → α → Prop} {Rel' : Wd → Hp → V → β → Prop} {o : Out α} {f : α → Mu → Out β} {Q : VK} {E : XK} {Q' : VK}
    (h : PostG Nn mg K Rel' G W (o.bnd f) Q' E)
    (k : ∀ r m', o = .ok r m' → PostG Nn mg K Rel' G W (f r m') Q' E → ∀ W' H' v, W.Le W' → HR K W' G H' m' → Rel W' H' v r → Q v H') : PostG Nn mg K Rel G W o Q E := by
  cases o with
  | ok r m' => exact k r m' rfl h
  | ex x m' => exact h
  | st => exact h
theorem PostG.mono {α : Type} {Rel : Wd → Hp → V → α → Prop} {o : Out α} {W' : Wd} (h : PostG Nn mg K Rel G W o Q E) (l : W.Le W') : PostG Nn mg K Rel G W' o Q E := by
  cases o with
  | ok r m' => exact fun W2 H' v l2 => h W2 H' v (l.trans l2)
  | ex x m' => exact fun W2 H' c d l2 => h W2 H' c d (l.trans l2)
  | st => exact h
theorem ArgR.mono {W W' : Wd} {v : V} {r : R} (h : ArgR K W G v r) (l : W.Le W') : ArgR K W' G v r :=
  ⟨h.1.mono l (Same.refl _), fun d e => ⟨(h.2 d e).1, (h.2 d e).2.mono l⟩⟩
end

/-- a def's promise where no repr runs around it (FnOk, told of such calls alone) -/
structure FnG (P : Program) (w : World) (K : PySem.W.Frag) (mg : Str → Option Value) (base : Heap) (k : Nat) (f : Addr) (fd : FuncData) (ps : List Str) (sp : Sp) : Prop where
  len : ∀ vs H Q E, sp vs H Q E → vs.length = ps.length
  run : ∀ (A : Around) (outer : List PySem.Env) (s : Shared) (H : Hp) (args : Args) (us : List Value) (vs : List V) (Q : VK) (E : XK), Room k A → A.guards = some [] → Env0 P w K mg base A outer s H → BindsTo s fd args (ps.zip us) → Vals vs us → sp vs H Q E →
    codeAny (model P w) A (.call (.ref f) args) (CR (L2.CX P w) outer P w H s Q E) s
/-- what of the text is known: K the written part, n how deep a call may go -/
structure BaseOk (T : Tb) (Nn : Tn) (P : Program) (w : World) (K : PySem.W.Frag) (mg : Str → Option Value) (base : Heap) (n : Nat) : Prop where
  rp : T.rp = rpD
  free : ∀ x ∈ (["len", "tuple", "sorted", "int", "repr", "sum", "all", "any", "dict", "abs", "set", "list", "min", "isinstance", "range", "enumerate", "zip", "str", "bool"] : List Str), mg x = none
  gl : ∀ (k : Nat) (x : Str), Nn.gn[k]? = some x → ∃ u v d, mg x = some u ∧ RelV v u ∧ T.gl[k]? = some d ∧ ∀ W, RV K W v d
  fn : ∀ (f : Nat) (x : Str), Nn.fn[f]? = some x → ∃ (a : Addr) (fd : FuncData) (ps : List Str), mg x = some (.ref a) ∧ PySem.W.keepIn K (.ref a) = true ∧ Binds K fd ps [] ∧ FnG P w K mg base n a fd ps (spF T Nn mg K n f)

/-- the context -/
structure XOk (T : Tb) (Nn : Tn) (n : Nat) (N : List Str) (sc : Scope) (E : XK) (X : L2.Cx) : Prop where
  base : BaseOk T Nn X.prog X.w X.K X.mg X.base n
  pN : X.N = N
  nd : N.Nodup
  psc : X.env.scope = sc
  calm : X.calm = true
  room : Room n X.A
  gds : X.A.guards = some []
  pass : Passes (L2.CX X.prog X.w) X E

/-- the slots, for an expression -/
def SlotR (K : PySem.W.Frag) (W : Wd) (G : Hp) (v : Option (Option V)) : Sl → Prop
  | .un => True
  | .grp _ => True
  | .val d => ∃ x, v = some (some x) ∧ RV K W x d
  | .own d => ∃ x, v = some (some x) ∧ RD K W G x d
  | .bor d => ∃ x, v = some (some x) ∧ RD K W G x d
structure ER (K : PySem.W.Frag) (W : Wd) (G : Hp) (sg : L2.St) (r : Env) : Prop where
  len : sg.length = r.length
  at_ : ∀ (i : Nat) (s : Sl), r[i]? = some s → SlotR K W G sg[i]? s
theorem SlotR.mono {K : PySem.W.Frag} {W W' : Wd} {G G' : Hp} {v : Option (Option V)} {s : Sl} (l : W.Le W') (g : Same G G') (h : SlotR K W G v s) : SlotR K W' G' v s := by
  cases s with
  | un => exact h
  | grp _ => exact h
  | val d => obtain ⟨x, e, q⟩ := h; exact ⟨x, e, q.mono l⟩
  | own d => obtain ⟨x, e, q⟩ := h; exact ⟨x, e, q.mono l g⟩
  | bor d => obtain ⟨x, e, q⟩ := h; exact ⟨x, e, q.mono l g⟩
theorem ER.mono {K : PySem.W.Frag} {W W' : Wd} {G G' : Hp} {sg : L2.St} {r : Env} (l : W.Le W') (g : Same G G') (h : ER K W G sg r) : ER K W' G' sg r :=
  ⟨h.len, fun i s e => (h.at_ i s e).mono l g⟩
theorem ER.set {K : PySem.W.Frag} {W : Wd} {G : Hp} {sg : L2.St} {r : Env} {i : Nat} {v : Option V} {s : Sl} (h : ER K W G sg r) (q : SlotR K W G (some v) s) : ER K W G (sg.set i v) (r.set i s) := by
  refine ⟨by simp [h.len], fun j t e => ?_⟩
  by_cases hj : i = j
  · subst hj
    by_cases hi : i < r.length
    · rw [List.getElem?_set_self hi] at e
      cases e
      rw [List.getElem?_set_self (by rw [h.len]; exact hi)]
      exact q
    · rw [List.getElem?_eq_none (by simpa using hi)] at e; cases e
  · rw [List.getElem?_set_ne hj] at e
    rw [List.getElem?_set_ne hj]
    exact h.at_ j t e
theorem ER.forget {K : PySem.W.Frag} {W : Wd} {G : Hp} {sg : L2.St} {r : Env} (h : ER K W G sg r) : ∀ is : List Nat, ER K W G (wipe sg is) (wipeE r is)
  | [] => h
  | i :: is => by
    show ER K W G ((wipe sg is).set i none) ((wipeE r is).set i .un)
    exact (ER.forget h is).set True.intro

section
variable (T : Tb) (Nn : Tn) (n : Nat)
abbrev cxE : Cx := ⟨callF T n, T.gl, T.rp, T.wf⟩
/-- an expression does what the evaluator says -/
def SE (N : List Str) (sc : Scope) (e : PySem.Expr) (c : CE) : Prop := ∀ (E : XK) (X : L2.Cx), XOk T Nn n N sc E X → ∃ t, PE X e t ∧
  ∀ (r : Env) (m : Mu) (G : Hp) (W : Wd) (sg : L2.St) (H : Hp) (Q : VK), ER X.K W G sg r → HR X.K W G H m → Post Nn X.mg X.K G W (evE (cxE T n) c r m) Q E → t sg H Q
/-- a test -/
def ST (N : List Str) (sc : Scope) (e : PySem.Expr) (c : CE) : Prop := ∀ (E : XK) (X : L2.Cx), XOk T Nn n N sc E X → ∃ t, PT X e t ∧
  ∀ (r : Env) (m : Mu) (G : Hp) (W : Wd) (sg : L2.St) (H : Hp) (Q : Bool → Hp → Prop), ER X.K W G sg r → HR X.K W G H m →
    PostB Nn X.mg X.K G W ((evE (cxE T n) c r m).bnd fun x m => (M.opt x.d.truth : M Bool) m) Q E → t sg H Q
def SEs (N : List Str) (sc : Scope) (es : List PySem.Expr) (cs : CEs) : Prop := ∀ (E : XK) (X : L2.Cx), XOk T Nn n N sc E X → ∃ t, PA X es t ∧
  ∀ (r : Env) (m : Mu) (G : Hp) (W : Wd) (sg : L2.St) (H : Hp) (Q : List V → Hp → Prop), ER X.K W G sg r → HR X.K W G H m →
    PostA Nn X.mg X.K G W (evEs (cxE T n) cs r m) Q E → t sg H Q
end
/-- operands: new ones frozen -/
theorem SE.use {T : Tb} {Nn : Tn} {n : Nat} {E : XK} {X : L2.Cx} {c : CE} {t : TE}
    (h : ∀ (r : Env) (m : Mu) (G : Hp) (W : Wd) (sg : L2.St) (H : Hp) (Q : VK), ER X.K W G sg r → HR X.K W G H m → Post Nn X.mg X.K G W (evE (cxE T n) c r m) Q E → t sg H Q)
    {r : Env} {m : Mu} {G : Hp} {W : Wd} {sg : L2.St} {H : Hp} {Q : VK} (er : ER X.K W G sg r) (hr : HR X.K W G H m) (p : PostD Nn X.mg X.K G W (evE (cxE T n) c r m) Q E) : t sg H Q :=
  h r m G W sg H Q er hr p.post
end Dn

/-! DnZ -/
set_option Elab.async false
set_option linter.all false
set_option maxRecDepth 100000
set_option maxHeartbeats 1000000
/-! DnZ: tuples whose object is known (it has no dict). -/
namespace Dn
open PySem PySem.Spec PyProof.Rows L2
section
variable {X : L2.Cx} {pins : List (Addr × Obj)} {σ : L2.St} {H : Hp} {s : Shared}
/-- a tuple that is laid, its object told -/
theorem tupN_new {h' : Heap} {t' : Nat} {p : Addr} {o : Obj} {its : List Value} {xs : List V} (I : Inv X pins σ H s) (kp : ∀ b u, s.heap.get? b = some u → h'.get? b = some u) (hp : s.heap.objs.size ≤ p) (ho : h'.get? p = some o) (hc : o.cls = .type "tuple") (hd : ∃ n, o.data = .seq its.toArray n) (rv : Vals xs its) (hz : xs.length ≤ sizeLine) :
    Inv X pins σ (upd H p (.frz o (.tup xs))) { s with heap := h', toks := t' } :=
  I.laid kp hp (show ObjOk X.prog X.w _ _ _ (.frz o (.tup xs)) from ⟨ho, hz, its, rv, o, ho, hc, hd⟩)
/-- what a rule that lays a tuple hands on -/
abbrev kTupN (Q : VK) (H : Hp) (xs : List V) : Prop := ∀ p o, o.dict = none → H p = none → Q (.ref p) (upd H p (.frz o (.tup xs)))
theorem tupN_end {its : List Value} {xs : List V} {Q : VK} (I : Inv X pins σ H s) (rv : Vals xs its) (hz : xs.length ≤ sizeLine) (q : kTupN Q H xs) : EP X pins σ Q (.ref s.heap.objs.size) { s with heap := s.heap.push { cls := .type "tuple", data := .seq its.toArray } } :=
  ⟨.ref s.heap.objs.size, _, tupN_new (t' := s.toks) I (fun _ _ e => Heap.get?_push_of_some _ e) (Nat.le_refl _) (Heap.get?_push_size _ rfl) rfl ⟨_, rfl⟩ rv hz, rfl, q _ _ rfl (I.hok.fresh (Nat.le_refl _))⟩
end
section
variable {X : L2.Cx}
def tTupN (t : TA) : TE := fun σ H Q => t σ H fun xs H1 => xs.length ≤ sizeLine ∧ kTupN Q H1 xs
theorem pe_tupN {es : List PySem.Expr} {t : TA} {k : Nat} {pos : Pos} (h : PA X es t) : PE X (.Tuple es k pos) (tTupN t) := by
  constructor
  intro pins s σ H Q I hq
  refine wpAny_Tuple_spliced (thn (h.run pos pins s σ H _ I hq) ?_)
  rintro us s1 ⟨xs, H1, I1, r, z, q⟩
  exact ⟨r.length ▸ z, tupN_end I1 r z q⟩
/-- t + u -/
def rCatN (K : PySem.W.Frag) : R2 := fun x y H Q => ∃ a b xs ys, x = .ref a ∧ y = .ref b ∧ SqT K H a xs ∧ SqT K H b ys ∧ xs.length + ys.length ≤ sizeLine ∧ (xs = [] → Q (.ref b) H) ∧ (ys = [] → Q (.ref a) H) ∧ kTupN Q H (xs ++ ys)
theorem op_catN : OpR X (binaryOp .Add) (rCatN X.K) := by
  rintro pins s σ H x y v u Q I rx ry ⟨a, b, xs, ys, rfl, rfl, ha, hb, hz, q0, q1, q2⟩
  cases rx
  cases ry
  obtain ⟨i1, r1, p1, _⟩ := I.tuple ha
  obtain ⟨i2, r2, p2, _⟩ := I.tuple hb
  cases xs with
  | nil => cases r1; exact cat_tup0 p1 p2 ⟨.ref b, H, I, rfl, q0 rfl⟩
  | cons x xs =>
    refine HT.cat_tup p1 p2 (fun e => nomatch r1.nil_iff.mp e) (fun e => ⟨.ref a, H, I, rfl, q1 (r2.nil_iff.mp e)⟩) (fun _ => ?_) ?_
    · exact tupN_end I (r1.append r2) (by rw [List.length_append]; exact hz) q2
    · rw [← r1.length, ← r2.length]; exact hz
/-- t[lo:hi] -/
def rSlN (K : PySem.W.Frag) : V → Option Int → Option Int → Hp → VK → Prop := fun x lo hi H Q => ∃ a xs, x = .ref a ∧ SqT K H a xs ∧
  (HT.sIx xs.length 0 lo = 0 ∧ HT.sIx xs.length xs.length hi = xs.length → Q (.ref a) H) ∧ kTupN Q H (cutV xs lo hi)
theorem sl_tupN : SlR X (rSlN X.K) := by
  rintro pins s σ H x v vl vu lo hi sl Q I rx hs pl pu ⟨a, xs, rfl, hx, q1, q2⟩
  cases rx
  obtain ⟨its, r, ht, hz⟩ := I.tuple hx
  have e : its.toArray.size = xs.length := by rw [List.size_toArray]; exact r.length.symm
  refine ⟨"tuple", _, PyProof.Rows.slot_tuple_getitem.lookup, ht.typeIs, ?_⟩
  by_cases hw : HT.sIx xs.length 0 lo = 0 ∧ HT.sIx xs.length xs.length hi = xs.length
  · exact getItem_tuple_whole ht hs pl pu (by rw [e]; exact hw) ⟨.ref a, H, I, rfl, q1 hw⟩
  · refine HT.getItem_tuple_cut ht hs pl pu (by rw [e]; exact hw) ?_ (by rw [e]; exact hz)
    rw [e]
    exact tupN_end I ((r.drop (HT.sIx xs.length 0 lo)).take (HT.sIx xs.length xs.length hi - HT.sIx xs.length 0 lo)) (Nat.le_trans (cutV_length xs lo hi) hz) q2
/-- tuple(x) of a list, of a tuple -/
theorem call_tupN : CallR X (.type "tuple") (fun xs H Q => ∃ p ys, xs = [.ref p] ∧ ((SqL X.K H p ys ∧ kTupN Q H ys) ∨ (SqT X.K H p ys ∧ Q (.ref p) H))) := by
  rintro pins s σ H xs us Q I r ⟨p, ys, rfl, h⟩
  obtain ⟨u, rfl, rx⟩ := vals1 r
  cases rx
  rcases h with ⟨hq, q⟩ | ⟨hq, q⟩
  · obtain ⟨its, rv, pl, hz⟩ := I.list hq
    refine call_tuple_list pl.isList (fun h' kp => ?_) (by rw [List.size_toArray, ← rv.length]; exact hz)
    exact tupN_end (s := { s with heap := h' }) (I.kept (t' := s.toks) kp) rv hz q
  · obtain ⟨its, _, pl, _⟩ := I.tuple hq
    exact call_tuple_same pl ⟨.ref p, H, I, rfl, q⟩
/-- t * k, 2 ≤ k -/
def rRepN (K : PySem.W.Frag) : R2 := fun x y H Q => ∃ l k xs, x = .ref l ∧ y = .int k ∧ SqT K H l xs ∧ xs ≠ [] ∧ 2 ≤ k ∧ k ≤ 1000 ∧ xs.length ≤ 1000 ∧ kTupN Q H (List.replicate k.toNat xs).flatten
theorem op_repN : OpR X (binaryOp .Mult) (rRepN X.K) := by
  rintro pins s σ H x y v u Q I rx ry ⟨l, k, xs, rfl, rfl, hT, hne, h1, h2, hz, q⟩
  cases rx
  obtain ⟨t, rfl⟩ := ry
  obtain ⟨its, r, ⟨⟨cls, dd, data, sl⟩, ho, hc, n, hd⟩, _⟩ := I.tuple hT
  simp only at hc hd
  subst hc hd
  have len : its.toArray.size = xs.length := by rw [List.size_toArray]; exact r.length.symm
  have full : its.toArray.isEmpty = false := by
    cases its with
    | nil => cases r; exact absurd rfl hne
    | cons _ _ => rfl
  have big : ((its.toArray.size : Nat) : Int) * k ≤ 1000000 := by
    rw [len]
    exact Int.le_trans (Int.mul_le_mul_of_nonneg_right (show ((xs.length : Nat) : Int) ≤ 1000 by omega) (by omega)) (by omega)
  have rl : (List.replicate k.toNat xs).flatten.length ≤ sizeLine := by
    rw [PyProof.Rows.lm_len_rep_flat, sizeLine_eq]
    exact Nat.le_trans (Nat.mul_le_mul (show k.toNat ≤ 1000 by omega) hz) (by decide)
  have rl2 : (List.replicate k.toNat its).flatten.length ≤ sizeLine := by
    rw [PyProof.Rows.lm_len_rep_flat, ← r.length, ← PyProof.Rows.lm_len_rep_flat]; exact rl
  have c0 : (decide (k < -(2 ^ 63)) || decide (k ≥ 2 ^ 63)) = false := by
    rw [Bool.or_eq_false_iff]; exact ⟨decide_eq_false (by omega), decide_eq_false (by omega)⟩
  have c1 : (its.toArray.isEmpty || k == 1) = false := by
    rw [full, Bool.false_or, beq_eq_false_iff_ne]; omega
  have c2 : (decide (k ≤ 0) || its.toArray.isEmpty) = false := by
    rw [full, Bool.or_false]; exact decide_eq_false (by omega)
  have c4 : Builtin.Tuple.tupleTooMany (((its.toArray.size : Nat) : Int) * k) = false := by
    unfold Builtin.Tuple.tupleTooMany
    exact decide_eq_false (by rw [sizeLine_eq]; omega)
  have mul := tuple_mulW l its.toArray n dd sl k t c0 c1 c2 (by omega) c4 (by rw [size_rep, List.size_toArray]; exact rl2)
  have ty : ∀ s' : Shared, s'.TypeIs (.int k t) "int" := fun s' => typeIs_int s' k t
  refine wpAny_binaryOp_repeat_ref (T := "tuple") (U := "int") (by decide) ⟨_, ho, rfl⟩ ty noFill_tuple_mul F.fills_int_mul F.slot_int_rmul repeat_tuple F.slot_int_index.lookup ?_
  refine call_meets F.slot_int_rmul (ty s) F.entry_int_rmul (F.args_int_rmul_2 _ _) (int_rmul_tuple k t l its.toArray n dd sl) ⟨ho, rfl, ⟨_, ho, rfl⟩, ?_⟩
  refine call_meets F.slot_tuple_mul ⟨_, ho, rfl⟩ F.entry_tuple_mul (F.args_tuple_mul_2 _ _) mul ⟨ho, ?_⟩
  rw [size_rep]
  exact tupN_end I (r.rep k.toNat) rl q
end
end Dn

/-! Dn4 -/
set_option Elab.async false
set_option linter.all false
set_option maxRecDepth 100000
set_option maxHeartbeats 1000000
/-! Dn4: expressions, first part. -/
namespace Dn
open PySem PySem.Spec PyProof.Rows L2

theorem M_bind {α β : Type} (x : M α) (f : α → M β) (m : Mu) : (x >>= f) m = (x m).bnd fun a m => f a m := rfl
theorem M_pure {α : Type} (a : α) (m : Mu) : (pure a : M α) m = .ok a m := rfl
theorem M_opt {α : Type} (o : Option α) (m : Mu) : (M.opt o) m = (match o with | some a => .ok a m | none => .st) := by cases o <;> rfl
theorem bnd_ok {α β : Type} (a : α) (m : Mu) (f : α → Mu → Out β) : (Out.ok a m).bnd f = f a m := rfl
theorem bnd_st {α β : Type} (f : α → Mu → Out β) : (Out.st : Out α).bnd f = .st := rfl
theorem bnd_ex {α β : Type} (x : Xn) (m : Mu) (f : α → Mu → Out β) : (Out.ex x m : Out α).bnd f = .ex x m := rfl

section
variable {T : Tb} {Nn : Tn} {n : Nat} {N : List Str} {sc : Scope} {E : XK} {X : L2.Cx} {G : Hp} {W : Wd} {sg : L2.St} {H : Hp} {m : Mu} {r : Env}
/-- the second half of SE -/
abbrev Snd (T : Tb) (Nn : Tn) (n : Nat) (X : L2.Cx) (E : XK) (c : CE) (t : TE) : Prop := ∀ (r : Env) (m : Mu) (G : Hp) (W : Wd) (sg : L2.St) (H : Hp) (Q : VK), ER X.K W G sg r → HR X.K W G H m → Post Nn X.mg X.K G W (evE (cxE T n) c r m) Q E → t sg H Q
abbrev SndA (T : Tb) (Nn : Tn) (n : Nat) (X : L2.Cx) (E : XK) (c : CEs) (t : TA) : Prop := ∀ (r : Env) (m : Mu) (G : Hp) (W : Wd) (sg : L2.St) (H : Hp) (Q : List V → Hp → Prop), ER X.K W G sg r → HR X.K W G H m → PostA Nn X.mg X.K G W (evEs (cxE T n) c r m) Q E → t sg H Q

/-- what is asked behind a run, by its outcome -/
def PostR {α : Type} (Nn : Tn) (mg : Str → Option Value) (K : PySem.W.Frag) (G : Hp) (W : Wd) (o : Out α) (P : α → Mu → Wd → Hp → Prop) (E : XK) : Prop :=
  match o with
  | .ok r m' => ∀ W' H', W.Le W' → HR K W' G H' m' → P r m' W' H'
  | .ex x m' => ∀ W' H' c d, W.Le W' → HR K W' G H' m' → XR Nn mg K W' H' x c d → E c d H'
  | .st => False
theorem PostR.mono {α : Type} {mg : Str → Option Value} {K : PySem.W.Frag} {o : Out α} {P : α → Mu → Wd → Hp → Prop} {W' : Wd} (h : PostR Nn mg K G W o P E) (l : W.Le W') : PostR Nn mg K G W' o P E := by
  cases o with
  | ok r m' => exact fun W2 H' l2 => h W2 H' (l.trans l2)
  | ex x m' => exact fun W2 H' c d l2 => h W2 H' c d (l.trans l2)
  | st => exact h
/-- one operand, then g -/
theorem use1 {α : Type} {a : CE} {ta : TE} (fa : Snd T Nn n X E a ta) (er : ER X.K W G sg r) (hr : HR X.K W G H m) {g : R → Mu → Out α} {P : α → Mu → Wd → Hp → Prop} {Q : VK}
    (h : PostR Nn X.mg X.K G W ((evE (cxE T n) a r m).bnd g) P E)
    (k : ∀ x m1 W1 H1 v, W.Le W1 → HR X.K W1 G H1 m1 → ArgR X.K W1 G v x → PostR Nn X.mg X.K G W1 (g x m1) P E → Q v H1) : ta sg H Q := by
  refine fa r m G W sg H Q er hr (PostD.post ?_)
  cases e : evE (cxE T n) a r m with
  | ok x m1 =>
    intro W1 H1 v l h1 q
    rw [e, bnd_ok] at h
    exact k x m1 W1 H1 v l h1 q (h.mono l)
  | ex x m1 => rw [e] at h; exact h
  | st => rw [e] at h; exact h
/-- two operands, then g -/
theorem use2 {α : Type} {a b : CE} {ta tb : TE} (fa : Snd T Nn n X E a ta) (fb : Snd T Nn n X E b tb) (er : ER X.K W G sg r) (hr : HR X.K W G H m) {g : R → R → Mu → Out α} {P : α → Mu → Wd → Hp → Prop} {Q : V → V → Hp → Prop}
    (h : PostR Nn X.mg X.K G W ((evE (cxE T n) a r m).bnd fun x m1 => (evE (cxE T n) b r m1).bnd fun y m2 => g x y m2) P E)
    (k : ∀ x y m2 W2 H2 v u, W.Le W2 → HR X.K W2 G H2 m2 → ArgR X.K W2 G v x → ArgR X.K W2 G u y → PostR Nn X.mg X.K G W2 (g x y m2) P E → Q v u H2) : ta sg H fun v H1 => tb sg H1 fun u H2 => Q v u H2 := by
  refine use1 fa er hr h fun x m1 W1 H1 v l1 h1 q1 p1 => ?_
  refine use1 fb (er.mono l1 (Same.refl _)) h1 p1 fun y m2 W2 H2 u l2 h2 q2 p2 => ?_
  exact k x y m2 W2 H2 v u (l1.trans l2) h2 (q1.mono l2) q2 p2
/-- Post as PostR -/
theorem Post.toR {o : Out R} {mg : Str → Option Value} {K : PySem.W.Frag} {Q : VK} (h : Post Nn mg K G W o Q E) : PostR Nn mg K G W o (fun r _ W' H' => ∀ v, RR K W' G H' v r → Q v H') E := by
  cases o with
  | ok r m' => exact fun W' H' l hr v q => h W' H' v l hr q
  | ex x m' => exact h
  | st => exact h
theorem PostR.ok {α : Type} {mg : Str → Option Value} {K : PySem.W.Frag} {a : α} {P : α → Mu → Wd → Hp → Prop} (h : PostR Nn mg K G W (.ok a m) P E) (hr : HR K W G H m) : P a m W H := h W H (Wd.Le.refl _) hr
theorem PostR.opt {α β : Type} {mg : Str → Option Value} {K : PySem.W.Frag} {o : Option α} {f : α → Mu → Out β} {P : β → Mu → Wd → Hp → Prop} (h : PostR Nn mg K G W (((M.opt o) m).bnd f) P E) : ∃ a, o = some a ∧ PostR Nn mg K G W (f a m) P E := by
  cases o with
  | some a => exact ⟨a, rfl, h⟩
  | none => exact h.elim
theorem PostR.opt' {α : Type} {mg : Str → Option Value} {K : PySem.W.Frag} {o : Option α} {P : α → Mu → Wd → Hp → Prop} (h : PostR Nn mg K G W ((M.opt o) m) P E) : ∃ a, o = some a ∧ PostR Nn mg K G W (.ok a m) P E := by
  cases o with
  | some a => exact ⟨a, rfl, h⟩
  | none => exact h.elim

theorem XOk.gl (x : XOk T Nn n N sc E X) {z : Str} (h : sc.names.lookup z = some .globalImplicit) : Gl X z := by
  have : X.env.scope = sc := x.psc
  show X.env.scope.names.lookup z = _
  rw [this]; exact h
theorem XOk.vis (x : XOk T Nn n N sc E X) {z : Str} (h : Vis sc z) : Vis X.env.scope z := by rw [x.psc]; exact h
theorem XOk.hu (x : XOk T Nn n N sc E X) : X.A.units + 100 < cLine := by have := x.room.un; omega

/-! ### names and constants -/
theorem se_var {z : Str} {pos : Pos} {i : Nat} (h1 : N[i]? = some z) (h2 : Vis sc z) (h3 : (z == ("__debug__" : Str)) = false) (h4 : (z == ("__classdict__" : Str)) = false) : SE T Nn n N sc (.Name z pos) (.var i) := by
  intro E X x
  refine ⟨_, pe_var (by rw [x.pN]; exact h1) (x.vis h2) h3 h4, fun r m G W sg H Q er hr h => ?_⟩
  have h : PostR Nn X.mg X.K G W ((M.opt ((r[i]?).bind Sl.read)) m) _ E := Post.toR h
  obtain ⟨a, e, h⟩ := h.opt'
  have h := h.ok hr
  cases e1 : r[i]? with
  | none => rw [e1] at e; cases e
  | some s =>
    rw [e1] at e
    have q := er.at_ i s e1
    cases s with
    | un => cases e
    | grp _ => cases e
    | val d =>
      have e : some (⟨.v, d⟩ : R) = some a := e
      cases e
      obtain ⟨y, e2, q⟩ := q
      exact ⟨y, e2, h y q⟩
    | own d =>
      have e : some (⟨.p, d⟩ : R) = some a := e
      cases e
      obtain ⟨y, e2, q⟩ := q
      exact ⟨y, e2, h y q⟩
    | bor d =>
      have e : some (⟨.p, d⟩ : R) = some a := e
      cases e
      obtain ⟨y, e2, q⟩ := q
      exact ⟨y, e2, h y q⟩
theorem se_con {K : PySem.W.Frag} {e : PySem.Expr} {v : V} {d : D} (h : ∀ X, PE X e (tC v)) (hv : ∀ (K : PySem.W.Frag) W, RV K W v d) : SE T Nn n N sc e (.con d) := by
  intro E X x
  refine ⟨_, h X, fun r m G W sg H Q er hr p => ?_⟩
  have p : PostR Nn X.mg X.K G W (.ok (R.v (d)) m) _ E := Post.toR p
  exact p.ok hr v (hv _ _)
theorem se_glob {z : Str} {pos : Pos} {k : Nat} (h1 : Nn.gn[k]? = some z) (h2 : sc.names.lookup z = some .globalImplicit) (h3 : (z == ("__debug__" : Str)) = false) : SE T Nn n N sc (.Name z pos) (.glob k) := by
  intro E X x
  obtain ⟨u, v, d, e1, e2, e3, e4⟩ := x.base.gl k z h1
  refine ⟨_, pe_glob (x.gl h2) e1 e2 h3, fun r m G W sg H Q er hr p => ?_⟩
  have p : PostR Nn X.mg X.K G W ((M.opt ((T.gl[k]?).map R.v)) m) _ E := Post.toR p
  rw [e3] at p
  exact p.ok hr v (e4 W)

/-! ### displays -/
theorem ses_nil : SEs T Nn n N sc [] .nil := by
  intro E X x
  refine ⟨_, pa_nil, fun r m G W sg H Q er hr p => ?_⟩
  exact p W H [] (Wd.Le.refl _) hr .nil
theorem ses_cons {e : PySem.Expr} {es : List PySem.Expr} {c : CE} {cs : CEs} (h1 : SE T Nn n N sc e c) (h2 : SEs T Nn n N sc es cs) (hs : ∀ env, starEach (e :: es) env = (false, eval e env) :: starEach es env) : SEs T Nn n N sc (e :: es) (.cons c cs) := by
  intro E X x
  obtain ⟨t, pe, f⟩ := h1 E X x
  obtain ⟨u, pa, g⟩ := h2 E X x
  refine ⟨_, pa_cons pe pa (hs _), fun r m G W sg H Q er hr p => ?_⟩
  have p : PostA Nn X.mg X.K G W ((evE (cxE T n) c r m).bnd fun x m1 => (evEs (cxE T n) cs r m1).bnd fun xs m2 => .ok (x :: xs) m2) Q E := p
  refine f r m G W sg H _ er hr (PostD.post ?_)
  cases e1 : evE (cxE T n) c r m with
  | ok x m1 =>
    intro W1 H1 v l1 h1 q1
    rw [e1, bnd_ok] at p
    refine g r m1 G W1 sg H1 _ (er.mono l1 (Same.refl _)) h1 ?_
    cases e2 : evEs (cxE T n) cs r m1 with
    | ok xs m2 =>
      rw [e2, bnd_ok] at p
      intro W2 H2 vs l2 h2 q2
      exact p W2 H2 (v :: vs) (l1.trans l2) h2 (.cons (q1.mono l2) q2)
    | ex x m2 => rw [e2] at p; exact fun W' H' c d l => p W' H' c d (l1.trans l)
    | st => rw [e2] at p; exact p
  | ex x m1 => rw [e1] at p; exact p
  | st => rw [e1] at p; exact p
theorem evEs_len {C : Cx} : ∀ {cs : CEs} {r : Env} {m m' : Mu} {rs : List R}, evEs C cs r m = .ok rs m' → rs.length = cs.len
  | .nil, r, m, m', rs, h => by
    have h : Out.ok [] m = Out.ok rs m' := h
    cases h; rfl
  | .cons c cs, r, m, m', rs, h => by
    have h : ((evE C c r m).bnd fun x m1 => (evEs C cs r m1).bnd fun xs m2 => .ok (x :: xs) m2) = .ok rs m' := h
    cases e1 : evE C c r m with
    | ok x m1 =>
      rw [e1, bnd_ok] at h
      cases e2 : evEs C cs r m1 with
      | ok xs m2 =>
        rw [e2, bnd_ok] at h
        cases h
        show xs.length + 1 = cs.len + 1
        rw [evEs_len e2]
      | ex x m2 => rw [e2] at h; cases h
      | st => rw [e2] at h; cases h
    | ex x m1 => rw [e1] at h; cases h
    | st => rw [e1] at h; cases h
theorem keepAll_vs {K : PySem.W.Frag} : ∀ {vs : List V} {rs : List R} {ds : List D}, Paired (ArgR K W G) vs rs → keepAll rs = some ds → RVs K W vs ds
  | _, _, _, .nil, e => by cases e; exact .nil
  | _, _, ds, .cons (b := r) (l₂ := rs) q t, e => by
    have e : (r.keep.bind fun d => (keepAll rs).map (d :: ·)) = some ds := e
    cases e1 : r.keep with
    | none => rw [e1] at e; cases e
    | some d =>
      rw [e1] at e
      cases e2 : keepAll rs with
      | none => rw [e2] at e; cases e
      | some ds' =>
        rw [e2] at e
        have e : some (d :: ds') = some ds := e
        cases e
        exact .cons (q.2 d e1).2 (keepAll_vs t e2)
theorem keepAll_len : ∀ {rs : List R} {ds : List D}, keepAll rs = some ds → ds.length = rs.length
  | [], _, e => by cases e; rfl
  | r :: rs, ds, e => by
    have e : (r.keep.bind fun d => (keepAll rs).map (d :: ·)) = some ds := e
    cases e1 : r.keep with
    | none => rw [e1] at e; cases e
    | some d =>
      rw [e1] at e
      cases e2 : keepAll rs with
      | none => rw [e2] at e; cases e
      | some ds' =>
        rw [e2] at e
        have e : some (d :: ds') = some ds := e
        cases e
        show ds'.length + 1 = rs.length + 1
        rw [keepAll_len e2]
/-- a list of operands, then g -/
theorem useA {α : Type} {a : CEs} {ta : TA} (fa : SndA T Nn n X E a ta) (er : ER X.K W G sg r) (hr : HR X.K W G H m) {g : List R → Mu → Out α} {P : α → Mu → Wd → Hp → Prop} {Q : List V → Hp → Prop}
    (h : PostR Nn X.mg X.K G W ((evEs (cxE T n) a r m).bnd g) P E)
    (k : ∀ xs m1 W1 H1 vs, W.Le W1 → HR X.K W1 G H1 m1 → Paired (ArgR X.K W1 G) vs xs → xs.length = a.len → PostR Nn X.mg X.K G W1 (g xs m1) P E → Q vs H1) : ta sg H Q := by
  refine fa r m G W sg H Q er hr ?_
  cases e : evEs (cxE T n) a r m with
  | ok x m1 =>
    intro W1 H1 v l h1 q
    rw [e, bnd_ok] at h
    exact k x m1 W1 H1 v l h1 q (evEs_len e) (h.mono l)
  | ex x m1 => rw [e] at h; exact h
  | st => rw [e] at h; exact h
theorem small_line {a : Nat} (h : a ≤ 1000) : a ≤ sizeLine := Nat.le_of_lt (small1000 h)
/-- a new tuple -/
theorem new_tup {K : PySem.W.Frag} {vs : List V} {ds : List D} {p : Addr} {o : Obj} (hr : HR K W G H m) (ho : o.dict = none) (hp : H p = none) (q : RVs K W vs ds) (z : ds.length ≤ sizeLine) :
    W.Le (W.frz p (.frz o (.tup vs))) ∧ HR K (W.frz p (.frz o (.tup vs))) G (upd H p (.frz o (.tup vs))) m ∧ RV K (W.frz p (.frz o (.tup vs))) (.ref p) (.tup ds) := by
  obtain ⟨f1, f2, f3⟩ := hr.fresh hp
  have l : W.Le (W.frz p (.frz o (.tup vs))) := Wd.Le.frz f1
  exact ⟨l, (hr.new hp).frz upd_same f1 f2 f3, .tup (.inl ⟨o, upd_same, ho⟩) (q.mono l) z⟩
/-- a pair that a loop hands on to a tuple of names -/
theorem new_pair {K : PySem.W.Frag} {vs : List V} {ds : List D} {p : Addr} (hr : HR K W G H m) (hp : H p = none) (q : RVs K W vs ds) :
    W.Le (W.frz p (.tup vs)) ∧ HR K (W.frz p (.tup vs)) G (upd H p (.tup vs)) m ∧ SqT K (W.frz p (.tup vs)).Ph p vs ∧ RVs K (W.frz p (.tup vs)) vs ds := by
  obtain ⟨f1, f2, f3⟩ := hr.fresh hp
  have l : W.Le (W.frz p (.tup vs)) := Wd.Le.frz f1
  exact ⟨l, (hr.new hp).frz upd_same f1 f2 f3, .inl (.inl upd_same), q.mono l⟩
/-- a new list -/
theorem new_lst {K : PySem.W.Frag} {vs : List V} {ds : List D} {p : Addr} (hr : HR K W G H m) (hp : H p = none) (q : RVs K W vs ds) (z : ds.length ≤ sizeLine) :
    HR K W G (upd H p (.lst vs)) m ∧ RR K W G (upd H p (.lst vs)) (.ref p) ⟨.f, .lst ds⟩ := by
  obtain ⟨f1, f2, f3⟩ := hr.fresh hp
  exact ⟨hr.new hp, p, rfl, ⟨vs, upd_same, q, z⟩, f1, f2, f3⟩
theorem se_tup {es : List PySem.Expr} {k : Nat} {pos : Pos} {cs : CEs} (h : SEs T Nn n N sc es cs) (hl : cs.len ≤ 1000) : SE T Nn n N sc (.Tuple es k pos) (.tup cs) := by
  intro E X x
  obtain ⟨t, pa, f⟩ := h E X x
  refine ⟨_, pe_tupN pa, fun r m G W sg H Q er hr p => ?_⟩
  have p : PostR Nn X.mg X.K G W ((evEs (cxE T n) cs r m).bnd fun rs m1 => ((M.opt (keepAll rs)) m1).bnd fun ds m2 => .ok (R.v (.tup ds)) m2) _ E := Post.toR p
  refine useA f er hr p fun rs m1 W1 H1 vs l1 h1 q1 e1 p1 => ?_
  obtain ⟨ds, e2, p1⟩ := p1.opt
  have q := keepAll_vs q1 e2
  refine ⟨small_line ?_, fun a o ho ha => ?_⟩
  · rw [q.length, keepAll_len e2, e1]; exact hl
  · obtain ⟨l2, h2, q2⟩ := new_tup h1 ho ha q (small_line (by rw [keepAll_len e2, e1]; exact hl))
    exact (p1.mono l2).ok h2 _ q2
theorem se_lst {es : List PySem.Expr} {pos : Pos} {cs : CEs} (h : SEs T Nn n N sc es cs) (hl : cs.len ≤ 1000) : SE T Nn n N sc (.List es pos) (.lst cs) := by
  intro E X x
  obtain ⟨t, pa, f⟩ := h E X x
  refine ⟨_, pe_lst pa, fun r m G W sg H Q er hr p => ?_⟩
  have p : PostR Nn X.mg X.K G W ((evEs (cxE T n) cs r m).bnd fun rs m1 => ((M.opt (keepAll rs)) m1).bnd fun ds m2 => .ok (R.f (.lst ds)) m2) _ E := Post.toR p
  refine useA f er hr p fun rs m1 W1 H1 vs l1 h1 q1 e1 p1 => ?_
  obtain ⟨ds, e2, p1⟩ := p1.opt
  have q := keepAll_vs q1 e2
  refine ⟨small_line ?_, fun a ha => ?_⟩
  · rw [q.length, keepAll_len e2, e1]; exact hl
  · obtain ⟨h2, q2⟩ := new_lst h1 ha q (small_line (by rw [keepAll_len e2, e1]; exact hl))
    exact p1.ok h2 _ q2
/-- a list that goes into the store -/
theorem HR.store {K : PySem.W.Frag} {vs : List V} {ds : List D} {p : Addr} (hr : HR K W G H m) (hp : H p = none) (q : RVs K W vs ds) (z : ds.length ≤ sizeLine) :
    W.Le ⟨W.Ph, W.io ++ [p]⟩ ∧ HR K ⟨W.Ph, W.io ++ [p]⟩ G (upd H p (.lst vs)) (m ++ [.lst ds]) ∧ RV K ⟨W.Ph, W.io ++ [p]⟩ (.ref p) (.ref m.length) := by
  obtain ⟨f1, f2, f3⟩ := hr.fresh hp
  have l : W.Le ⟨W.Ph, W.io ++ [p]⟩ := ⟨Same.refl _, [p], rfl⟩
  have h1 := hr.new (o := .lst vs) hp
  refine ⟨l, ⟨h1.fz, h1.gd, h1.dis, by simp [hr.len], fun k a c e1 e2 => ?_, fun a ha => ?_, fun a ha => ?_, ?_⟩, .ref ?_⟩
  · by_cases hk : k < m.length
    · rw [List.getElem?_append_left (by rw [← hr.len]; exact hk)] at e1
      rw [List.getElem?_append_left hk] at e2
      exact (h1.st k a c e1 e2).mono l rfl
    · have hk2 : k = m.length := by
        have := (List.getElem?_eq_some_iff.mp e2).1
        simp at this; omega
      subst hk2
      have e1' : p = a := by
        have : (W.io ++ [p])[m.length]? = some a := e1
        rw [hr.len, List.getElem?_append_right (Nat.le_refl _)] at this
        simpa using this
      have e2' : Cell.lst ds = c := by
        rw [List.getElem?_append_right (Nat.le_refl _)] at e2
        simpa using e2
      subst e1' e2'
      exact ⟨vs, upd_same, q.mono l, z⟩
  · rcases List.mem_append.mp ha with ha | ha
    · exact h1.stP a ha
    · have : a = p := by simpa using ha
      subst this; exact f1
  · rcases List.mem_append.mp ha with ha | ha
    · exact h1.stG a ha
    · have : a = p := by simpa using ha
      subst this; exact f2
  · show (W.io ++ [p]).Nodup
    rw [List.nodup_append]
    exact ⟨hr.nd, by simp, fun a ha b hb => by
      have : b = p := by simpa using hb
      subst this
      exact fun q => f3 (q ▸ ha)⟩
  · show (W.io ++ [p])[m.length]? = some p
    rw [hr.len, List.getElem?_append_right (Nat.le_refl _)]
    simp
theorem se_newl {es : List PySem.Expr} {pos : Pos} {cs : CEs} (h : SEs T Nn n N sc es cs) (hl : cs.len ≤ 1000) : SE T Nn n N sc (.List es pos) (.newl cs) := by
  intro E X x
  obtain ⟨t, pa, f⟩ := h E X x
  refine ⟨_, pe_lst pa, fun r m G W sg H Q er hr p => ?_⟩
  have p : PostR Nn X.mg X.K G W ((evEs (cxE T n) cs r m).bnd fun rs m1 => ((M.opt (keepAll rs)) m1).bnd fun ds m2 => .ok (R.v (.ref m2.length)) (m2 ++ [.lst ds])) _ E := Post.toR p
  refine useA f er hr p fun rs m1 W1 H1 vs l1 h1 q1 e1 p1 => ?_
  obtain ⟨ds, e2, p1⟩ := p1.opt
  have q := keepAll_vs q1 e2
  refine ⟨small_line ?_, fun a ha => ?_⟩
  · rw [q.length, keepAll_len e2, e1]; exact hl
  · obtain ⟨l2, h2, q2⟩ := h1.store ha q (small_line (by rw [keepAll_len e2, e1]; exact hl))
    exact (p1.mono l2).ok h2 _ q2
theorem se_emp {pos : Pos} {t : Bool} : SE T Nn n N sc (.Dict [] [] pos) (.emp t) := by
  intro E X x
  cases t with
  | false =>
    refine ⟨_, pe_dnewK, fun r m G W sg H Q er hr p => fun a ha => ?_⟩
    have p : PostR Nn X.mg X.K G W (.ok (R.f (.dic false [])) m) _ E := Post.toR p
    obtain ⟨f1, f2, f3⟩ := hr.fresh ha
    exact p.ok (hr.new ha) _ ⟨a, rfl, ⟨[], upd_same, .nil, Nat.zero_le _⟩, f1, f2, f3⟩
  | true =>
    refine ⟨_, pe_dnewT, fun r m G W sg H Q er hr p => fun a ha => ?_⟩
    have p : PostR Nn X.mg X.K G W (.ok (R.f (.dic true [])) m) _ E := Post.toR p
    obtain ⟨f1, f2, f3⟩ := hr.fresh ha
    exact p.ok (hr.new ha) _ ⟨a, rfl, ⟨[], upd_same, .nil, Nat.zero_le _⟩, f1, f2, f3⟩
end
end Dn

/-! Dn5 -/
set_option Elab.async false
set_option linter.all false
set_option maxRecDepth 100000
set_option maxHeartbeats 1000000
/-! Dn5: operators and comparisons. -/
namespace Dn
open PySem PySem.Spec PyProof.Rows L2

/-! ### data as PyData -/
mutual
def toP : D → PyData
  | .non => .none
  | .bl b => .bool b
  | .int i => .int i
  | .str s => .str (S s)
  | .tup ds => .tuple (toPs ds)
  | .lst ds => .list (toPs ds)
  | .dic _ _ => .none
  | .ref _ => .none
  | .scr _ => .none
def toPs : List D → List PyData
  | [] => []
  | d :: ds => toP d :: toPs ds
end
mutual
theorem toP_depth : ∀ d : D, (toP d).depth = d.depth
  | .non => rfl
  | .bl b => rfl
  | .int i => rfl
  | .str s => rfl
  | .tup ds => by simp only [toP, PyData.depth, D.depth, toPs_depth ds]
  | .lst ds => by simp only [toP, PyData.depth, D.depth, toPs_depth ds]
  | .dic _ _ => rfl
  | .ref _ => rfl
  | .scr _ => rfl
theorem toPs_depth : ∀ ds : List D, PyData.depthAll (toPs ds) = depthAll ds
  | [] => rfl
  | d :: ds => by
    simp only [toPs, PyData.depthAll, depthAll, toP_depth d, toPs_depth ds]
end
theorem S_eqb (x y : Sg) : (S x == S y) = (x == y) := by
  rw [Bool.eq_iff_iff]
  simp only [beq_iff_eq]
  exact ⟨S_inj, fun e => by rw [e]⟩
mutual
theorem toP_eqv : ∀ d e : D, d.pure = true → e.pure = true → PyData.eqv (toP d) (toP e) = eqD d e
  | .non, e, _, h => by cases e <;> first | (simp [D.pure] at h; done) | simp only [toP, PyData.eqv, eqD]
  | .bl a, e, _, h => by cases e <;> first | (simp [D.pure] at h; done) | simp only [toP, PyData.eqv, eqD, b2i]
  | .int a, e, _, h => by cases e <;> first | (simp [D.pure] at h; done) | simp only [toP, PyData.eqv, eqD, b2i]
  | .str a, e, _, h => by cases e <;> first | (simp [D.pure] at h; done) | simp only [toP, PyData.eqv, eqD, S_eqb]
  | .tup a, .tup b, h1, h2 => by
    simp only [toP, PyData.eqv, eqD]
    exact toPs_eqv a b (by simpa [D.pure] using h1) (by simpa [D.pure] using h2)
  | .lst a, .lst b, h1, h2 => by
    simp only [toP, PyData.eqv, eqD]
    exact toPs_eqv a b (by simpa [D.pure] using h1) (by simpa [D.pure] using h2)
  | .tup a, .non, _, _ => by simp only [toP, PyData.eqv, eqD]
  | .tup a, .bl _, _, _ => by simp only [toP, PyData.eqv, eqD]
  | .tup a, .int _, _, _ => by simp only [toP, PyData.eqv, eqD]
  | .tup a, .str _, _, _ => by simp only [toP, PyData.eqv, eqD]
  | .tup a, .lst _, _, _ => by simp only [toP, PyData.eqv, eqD]
  | .tup a, .dic _ _, _, h => by simp [D.pure] at h
  | .tup a, .ref _, _, h => by simp [D.pure] at h
  | .tup a, .scr _, _, h => by simp [D.pure] at h
  | .lst a, .non, _, _ => by simp only [toP, PyData.eqv, eqD]
  | .lst a, .bl _, _, _ => by simp only [toP, PyData.eqv, eqD]
  | .lst a, .int _, _, _ => by simp only [toP, PyData.eqv, eqD]
  | .lst a, .str _, _, _ => by simp only [toP, PyData.eqv, eqD]
  | .lst a, .tup _, _, _ => by simp only [toP, PyData.eqv, eqD]
  | .lst a, .dic _ _, _, h => by simp [D.pure] at h
  | .lst a, .ref _, _, h => by simp [D.pure] at h
  | .lst a, .scr _, _, h => by simp [D.pure] at h
  | .dic _ _, _, h, _ => by simp [D.pure] at h
  | .ref _, _, h, _ => by simp [D.pure] at h
  | .scr _, _, h, _ => by simp [D.pure] at h
theorem toPs_eqv : ∀ ds es : List D, pureAll ds = true → pureAll es = true → PyData.eqvAll (toPs ds) (toPs es) = eqDs ds es
  | [], [], _, _ => rfl
  | [], _ :: _, _, _ => rfl
  | _ :: _, [], _, _ => rfl
  | d :: ds, e :: es, h1, h2 => by
    have a1 : d.pure = true ∧ pureAll ds = true := by simpa [pureAll] using h1
    have a2 : e.pure = true ∧ pureAll es = true := by simpa [pureAll] using h2
    simp only [toPs, PyData.eqvAll, eqDs, toP_eqv d e a1.1 a2.1, toPs_eqv ds es a1.2 a2.2]
end
section
variable {K : PySem.W.Frag} {W : Wd} {G H : Hp} {m : Mu}
mutual
theorem RV.lay : ∀ {v : V} (d : D), RV K W v d → d.pure = true → (toP d).canLay0 = true
  | _, .non, _, _ => by simp only [toP, PyData.canLay0]
  | _, .bl b, _, _ => by simp only [toP, PyData.canLay0]
  | _, .int i, _, _ => by simp only [toP, PyData.canLay0]
  | _, .str s, h, _ => by
    cases h with
    | str _ h =>
      simp only [toP, PyData.canLay0, PyData.strOk, S]
      simpa using h.2
  | _, .tup ds, h, p => by
    cases h with
    | tup h1 h2 _ =>
      simp only [toP, PyData.canLay0]
      exact RVs.lay ds h2 (by simpa [D.pure] using p)
  | _, .lst ds, h, p => by
    cases h with
    | lst h1 h2 _ =>
      simp only [toP, PyData.canLay0]
      exact RVs.lay ds h2 (by simpa [D.pure] using p)
  | _, .dic _ _, _, p => by simp [D.pure] at p
  | _, .ref _, _, p => by simp [D.pure] at p
  | _, .scr _, _, p => by simp [D.pure] at p
theorem RVs.lay : ∀ {vs : List V} (ds : List D), RVs K W vs ds → pureAll ds = true → PyData.canLayAll0 (toPs ds) = true
  | _, [], _, _ => by simp only [toPs, PyData.canLayAll0]
  | _, d :: ds, h, p => by
    have a1 : d.pure = true ∧ pureAll ds = true := by simpa [pureAll] using p
    cases h with
    | cons h1 h2 => simp only [toPs, PyData.canLayAll0, RV.lay d h1 a1.1, RVs.lay ds h2 a1.2, Bool.and_self]
end
mutual
theorem RV.dp (s : Same W.Ph H) : ∀ {v : V} (d : D), RV K W v d → d.pure = true → Dp K H v (toP d)
  | _, .non, h, _ => by cases h; simp only [toP]; exact .non
  | _, .bl b, h, _ => by cases h; simp only [toP]; exact .bl _
  | _, .int i, h, _ => by cases h; simp only [toP]; exact .int _
  | _, .str s, h, _ => by cases h; simp only [toP]; exact .str _
  | _, .tup ds, h, p => by
    cases h with
    | tup h1 h2 _ =>
      simp only [toP]
      exact .tup (Same.seqT s h1.sq) (RVs.dp s ds h2 (by simpa [D.pure] using p))
  | _, .lst ds, h, p => by
    cases h with
    | lst h1 h2 _ =>
      simp only [toP]
      exact .lst (.inl (.inl (s _ _ h1))) (RVs.dp s ds h2 (by simpa [D.pure] using p))
  | _, .dic _ _, _, p => by simp [D.pure] at p
  | _, .ref _, _, p => by simp [D.pure] at p
  | _, .scr _, _, p => by simp [D.pure] at p
theorem RVs.dp (s : Same W.Ph H) : ∀ {vs : List V} (ds : List D), RVs K W vs ds → pureAll ds = true → DpAll K H vs (toPs ds)
  | _, [], h, _ => by cases h; simp only [toPs]; exact .nil
  | _, d :: ds, h, p => by
    have a1 : d.pure = true ∧ pureAll ds = true := by simpa [pureAll] using p
    cases h with
    | cons h1 h2 => simp only [toPs]; exact .cons (RV.dp s d h1 a1.1) (RVs.dp s ds h2 a1.2)
end
/-- a list that can be read -/
theorem RD.lst (hr : HR K W G H m) {v : V} {ds : List D} (h : RD K W G v (.lst ds)) : ∃ a vs, v = .ref a ∧ H a = some (.lst vs) ∧ RVs K W vs ds ∧ ds.length ≤ sizeLine := by
  rcases h with h | ⟨a, rfl, vs, e, q, z⟩
  · cases h with
    | lst h1 h2 z => exact ⟨_, _, rfl, hr.fz _ _ h1, h2, z⟩
  · exact ⟨a, vs, rfl, hr.gd _ _ e, q, z⟩
theorem RD.tup (hr : HR K W G H m) {v : V} {ds : List D} (h : RD K W G v (.tup ds)) : ∃ a vs, v = .ref a ∧ SqT K H a vs ∧ RVs K W vs ds ∧ ds.length ≤ sizeLine := by
  rcases h with h | ⟨a, rfl, h⟩
  · cases h with
    | tup h1 h2 z => exact ⟨_, _, rfl, Same.seqT hr.fz h1.sq, h2, z⟩
  · exact h.elim
theorem RD.tupN (hr : HR K W G H m) {v : V} {ds : List D} (h : RD K W G v (.tup ds)) : ∃ a vs, v = .ref a ∧ SqN K H a vs ∧ RVs K W vs ds ∧ ds.length ≤ sizeLine := by
  rcases h with h | ⟨a, rfl, h⟩
  · cases h with
    | tup h1 h2 z => exact ⟨_, _, rfl, Same.seqN hr.fz h1, h2, z⟩
  · exact h.elim
theorem RD.int {v : V} {i : Int} (h : RD K W G v (.int i)) : v = .int i := by
  rcases h with h | ⟨a, rfl, h⟩
  · cases h; rfl
  · exact h.elim
theorem RD.bl {v : V} {i : Bool} (h : RD K W G v (.bl i)) : v = .bl i := by
  rcases h with h | ⟨a, rfl, h⟩
  · cases h; rfl
  · exact h.elim
theorem RD.non {v : V} (h : RD K W G v .non) : v = .non := by
  rcases h with h | ⟨a, rfl, h⟩
  · cases h; rfl
  · exact h.elim
theorem RD.str {v : V} {s : Sg} (h : RD K W G v (.str s)) : v = .str (S s) ∧ txtOk s := by
  rcases h with h | ⟨a, rfl, h⟩
  · cases h with
    | str _ h => exact ⟨rfl, h⟩
  · exact h.elim
theorem RD.ref {v : V} {k : Nat} (h : RD K W G v (.ref k)) : ∃ a, v = .ref a ∧ W.io[k]? = some a := by
  rcases h with h | ⟨a, rfl, h⟩
  · cases h with
    | ref h => exact ⟨_, rfl, h⟩
  · exact h.elim
theorem RD.lay {v : V} (d : D) (h : RD K W G v d) (p : d.pure = true) : (toP d).canLay0 = true := by
  rcases h with h | ⟨a, rfl, h⟩
  · exact h.lay d p
  · cases d with
    | lst ds =>
      obtain ⟨vs, e, q, _⟩ := h
      simp only [toP, PyData.canLay0]
      exact q.lay ds (by simpa [D.pure] using p)
    | dic _ _ => simp [D.pure] at p
    | _ => exact h.elim
theorem RD.dp (hr : HR K W G H m) {v : V} (d : D) (h : RD K W G v d) (p : d.pure = true) : Dp K H v (toP d) := by
  rcases h with h | ⟨a, rfl, h⟩
  · exact h.dp hr.fz d p
  · cases d with
    | lst ds =>
      obtain ⟨vs, e, q, _⟩ := h
      simp only [toP]
      exact .lst (.inl (.inl (hr.gd _ _ e))) (q.dp hr.fz ds (by simpa [D.pure] using p))
    | dic _ _ => simp [D.pure] at p
    | _ => exact h.elim
theorem RD.dicK (hr : HR K W G H m) {v : V} {kvs : List (D × D)} (h : RD K W G v (.dic false kvs)) : ∃ a us, v = .ref a ∧ H a = some (.dK us) ∧ RVk K W us kvs ∧ kvs.length ≤ sizeLine := by
  rcases h with h | ⟨a, rfl, us, e, r, z⟩
  · cases h with
    | dicK h r z => exact ⟨_, _, rfl, hr.fz _ _ h, r, z⟩
  · exact ⟨_, _, rfl, hr.gd _ _ e, r, z⟩
theorem RD.dicT (hr : HR K W G H m) {v : V} {kvs : List (D × D)} (h : RD K W G v (.dic true kvs)) : ∃ a us, v = .ref a ∧ H a = some (.dT us) ∧ RVt K W us kvs ∧ kvs.length ≤ sizeLine := by
  rcases h with h | ⟨a, rfl, us, e, r, z⟩
  · cases h with
    | dicT h r z => exact ⟨_, _, rfl, hr.fz _ _ h, r, z⟩
  · exact ⟨_, _, rfl, hr.gd _ _ e, r, z⟩
theorem eq_kD : ∀ j k : Key, eqD (kD j) (kD k) = decide (j = k)
  | .inl i, .inl j => by
    show (i == j) = _
    rw [Bool.eq_iff_iff]; simp
  | .inl _, .inr _ => by simp [kD, eqD]
  | .inr _, .inl _ => by simp [kD, eqD]
  | .inr x, .inr y => by
    show (x.cps.toList == y.cps.toList) = _
    rw [Bool.eq_iff_iff]
    simp
    constructor
    · intro h; cases x; cases y; simp at h; rw [h]
    · intro h; rw [h]
theorem RVk.look {K : PySem.W.Frag} {W : Wd} (k : Key) : ∀ {us : List (Key × V)} {kvs : List (D × D)}, RVk K W us kvs → (lookD (kD k) kvs = none ∧ valV us k = none) ∨ ∃ d z, lookD (kD k) kvs = some d ∧ valV us k = some z ∧ RV K W z d
  | _, _, .nil => .inl ⟨rfl, rfl⟩
  | _, _, .cons (k := j) (d := d) (v := v) q r => by
    by_cases e : j = k
    · refine .inr ⟨d, v, ?_, valV_pos e, q⟩
      show (if eqD (kD j) (kD k) = true then some d else _) = _
      rw [if_pos (by rw [eq_kD, e]; simp)]
    · have e1 : ∀ r, lookD (kD k) ((kD j, d) :: r) = lookD (kD k) r := fun r => by
        show (if eqD (kD j) (kD k) = true then some d else _) = _
        rw [if_neg (by rw [eq_kD]; simpa using e)]
      rcases RVk.look k r with ⟨h1, h2⟩ | ⟨d', z, h1, h2, h3⟩
      · exact .inl ⟨by rw [e1]; exact h1, by rw [valV_neg e]; exact h2⟩
      · exact .inr ⟨d', z, by rw [e1]; exact h1, by rw [valV_neg e]; exact h2, h3⟩
theorem RD.key {K : PySem.W.Frag} {W : Wd} {G : Hp} {v : V} {d : D} (h : RD K W G v d) (hk : kOk d = true) : ∃ k : Key, d = kD k ∧ v = kV k := by
  cases d with
  | int i => exact ⟨.inl i, rfl, h.int⟩
  | str s =>
    obtain ⟨e, _⟩ := h.str
    exact ⟨.inr (S s), by simp [kD, S], e⟩
  | _ => cases hk
theorem eqOk_iff {d : D} : d.eqOk = true ↔ d.pure = true ∧ d.depth ≤ 60 := by
  unfold D.eqOk
  rw [Bool.and_eq_true, decide_eq_true_eq]
theorem RD.shaped {v : V} {d : D} (h : RD K W G v d) (p : d.eqOk = true) : SeqAt.shaped (toP d) = true := by
  obtain ⟨p1, p2⟩ := eqOk_iff.mp p
  show ((toP d).canLay0 && decide ((toP d).depth ≤ 64)) = true
  rw [Bool.and_eq_true, decide_eq_true_eq, toP_depth]
  exact ⟨h.lay d p1, by omega⟩
end

section
variable {T : Tb} {Nn : Tn} {n : Nat} {N : List Str} {sc : Scope} {E : XK} {X : L2.Cx}
/-- a binary operation told of data -/
abbrev RBin (K : PySem.W.Frag) (f : D → D → Option D) : R2 := fun v u H Q => ∃ W G m x y d, HR K W G H m ∧ RD K W G v x ∧ RD K W G u y ∧ f x y = some d ∧
  ∀ W' H' z, W.Le W' → HR K W' G H' m → RR K W' G H' z ⟨match d with | .lst _ => .f | _ => .v, d⟩ → Q z H'
theorem txt_app {x y : Sg} (hx : txtOk x) (hy : txtOk y) (h : x.length + y.length ≤ sizeLine) : txtOk (x ++ y) :=
  ⟨by rw [List.length_append]; exact h, fun c hc => (List.mem_append.mp hc).elim (hx.2 c) (hy.2 c)⟩
theorem S_app (x y : Sg) : S (x ++ y) = S x ++ S y := by
  show (⟨(x ++ y).toArray⟩ : Str) = ⟨x.toArray ++ y.toArray⟩
  simp
theorem big_line : big = sizeLine := rfl
theorem op_binAdd : OpR X (binaryOp .Add) (RBin X.K addD) := by
  intro pins s σ H v u vv uv Q I rx ry h
  obtain ⟨W, G, m, x, y, d, hr, qx, qy, e, k⟩ := h
  unfold addD at e
  split at e
  · rename_i i j
    cases e
    have ex := qx.int; have ey := qy.int
    subst ex ey
    exact op_add pins s σ H _ _ vv uv Q I rx ry ⟨i, j, rfl, rfl, k W H _ (Wd.Le.refl _) hr (.int _)⟩
  · rename_i a b
    split at e
    · rename_i hz
      cases e
      obtain ⟨ex, tx⟩ := qx.str
      obtain ⟨ey, ty⟩ := qy.str
      subst ex ey
      refine op_add_str pins s σ H _ _ vv uv Q I rx ry ⟨S a, S b, rfl, rfl, by rw [S_len, S_len]; exact hz, ?_⟩
      rw [← S_app]
      exact k W H _ (Wd.Le.refl _) hr (.str _ (txt_app tx ty hz))
    · cases e
  · rename_i xs ys
    split at e
    · rename_i hz
      cases e
      obtain ⟨a, vs, rfl, ha, ra, za⟩ := qx.tup hr
      obtain ⟨b, ws, rfl, hb, rb, zb⟩ := qy.tup hr
      refine op_catN pins s σ H _ _ vv uv Q I rx ry ⟨a, b, vs, ws, rfl, rfl, ha, hb, by rw [ra.length, rb.length]; exact hz, fun e => ?_, fun e => ?_, fun p o ho hp => ?_⟩
      · subst e
        cases ra
        rcases qy with q | ⟨_, _, q⟩
        · exact k W H _ (Wd.Le.refl _) hr q
        · exact q.elim
      · subst e
        cases rb
        rw [List.append_nil] at k
        rcases qx with q | ⟨_, _, q⟩
        · exact k W H _ (Wd.Le.refl _) hr q
        · exact q.elim
      · obtain ⟨l2, h2, q2⟩ := new_tup hr ho hp (ra.append rb) (by rw [List.length_append]; exact hz)
        exact k _ _ _ l2 h2 q2
    · cases e
  · rename_i xs ys
    split at e
    · rename_i hz
      cases e
      obtain ⟨a, vs, rfl, ha, ra, za⟩ := qx.lst hr
      obtain ⟨b, ws, rfl, hb, rb, zb⟩ := qy.lst hr
      refine op_cat pins s σ H _ _ vv uv Q I rx ry ⟨a, b, vs, ws, rfl, rfl, ha, hb, by rw [ra.length, rb.length]; exact hz, fun p hp => ?_⟩
      obtain ⟨h2, q2⟩ := new_lst hr hp (ra.append rb) (by rw [List.length_append]; exact hz)
      exact k _ _ _ (Wd.Le.refl _) h2 q2
    · cases e
  · cases e
theorem op_binSub : OpR X (binaryOp .Sub) (RBin X.K subD) := by
  intro pins s σ H v u vv uv Q I rx ry h
  obtain ⟨W, G, m, x, y, d, hr, qx, qy, e, k⟩ := h
  unfold subD at e
  split at e
  · rename_i i j
    cases e
    have ex := qx.int; have ey := qy.int
    subst ex ey
    exact op_sub pins s σ H _ _ vv uv Q I rx ry ⟨i, j, rfl, rfl, k W H _ (Wd.Le.refl _) hr (.int _)⟩
  · cases e
theorem op_binMod : OpR X (binaryOp .Mod) (RBin X.K modD) := by
  intro pins s σ H v u vv uv Q I rx ry h
  obtain ⟨W, G, m, x, y, d, hr, qx, qy, e, k⟩ := h
  unfold modD at e
  split at e
  · rename_i i j
    split at e
    · rename_i hj
      cases e
      have ex := qx.int; have ey := qy.int
      subst ex ey
      exact op_mod pins s σ H _ _ vv uv Q I rx ry ⟨i, j, rfl, rfl, hj, k W H _ (Wd.Le.refl _) hr (.int _)⟩
    · cases e
  · cases e
theorem op_binFdiv : OpR X (binaryOp .FloorDiv) (RBin X.K fdivD) := by
  intro pins s σ H v u vv uv Q I rx ry h
  obtain ⟨W, G, m, x, y, d, hr, qx, qy, e, k⟩ := h
  unfold fdivD at e
  split at e
  · rename_i i j
    split at e
    · rename_i hj
      cases e
      have ex := qx.int; have ey := qy.int
      subst ex ey
      exact op_fdivW pins s σ H _ _ vv uv Q I rx ry ⟨i, j, rfl, rfl, hj, k W H _ (Wd.Le.refl _) hr (.int _)⟩
    · cases e
  · cases e
theorem op_binPow : OpR X (binaryOp .Pow) (RBin X.K powD) := by
  intro pins s σ H v u vv uv Q I rx ry h
  obtain ⟨W, G, m, x, y, d, hr, qx, qy, e, k⟩ := h
  unfold powD at e
  split at e
  · rename_i i j
    split at e
    · rename_i hj
      cases e
      have ex := qx.int; have ey := qy.int
      subst ex ey
      exact op_pow pins s σ H _ _ vv uv Q I rx ry ⟨i, j, rfl, rfl, hj, k W H _ (Wd.Le.refl _) hr (.int _)⟩
    · cases e
  · cases e
theorem rep_line {xs : List D} {j : Int} (h : xs.length ≤ 1000) (h2 : j ≤ 1000) : (List.replicate j.toNat xs).flatten.length ≤ sizeLine := by
  rw [PyProof.Rows.lm_len_rep_flat, sizeLine_eq]
  have a1 : j.toNat * xs.length ≤ 1000 * 1000 := Nat.mul_le_mul (by omega) h
  omega
open AutoSeq1 (wpAny_loadPart') in
theorem tuple_mul1 (l : Addr) (items : Array Value) (n : Nat) (dd : Option Addr) (sl : Array (Option Value)) (u : Tok) (hne : items.isEmpty = false) :
    Meets (Builtin.«tuple.__mul__» ⟨[.ref l, .int 1 u], []⟩) (fun _ R s => s.heap.get? l = some { cls := .type "tuple", dict := dd, data := .seq items n, slots := sl } ∧ R (.ok (.ret (Value.ref l))) s) :=
  .of_wp fun prog w A R s h => by
    obtain ⟨hp, g, d, tk, os⟩ := s
    obtain ⟨hl, h⟩ := h
    have f1 := AutoSeq1.idx_int
    have e : ((1 : Int) == 1) = true := rfl
    wp_walk using wpAny_loadPart' hl
    exact ⟨_, rfl, h⟩
theorem op_repT1 : OpR X (binaryOp .Mult) (fun x y H Q => ∃ l xs, x = .ref l ∧ y = .int 1 ∧ SqT X.K H l xs ∧ xs ≠ [] ∧ Q (.ref l) H) := by
  intro pins s σ H x y v u Q I rx ry h
  obtain ⟨l, xs, rfl, rfl, hT, hne, q⟩ := h
  cases rx
  obtain ⟨t, rfl⟩ := ry
  obtain ⟨its, r, ⟨⟨cls, dd, data, sl⟩, ho, hc, n, hd⟩, hs⟩ := I.tuple hT
  simp only at hc hd
  subst hc hd
  have hi : its.toArray.isEmpty = false := by
    cases its with
    | nil => cases r; exact absurd rfl hne
    | cons a b => rfl
  exact wpAny_binaryOp_repeat_ref (T := "tuple") (U := "int") (by decide) ⟨_, ho, rfl⟩ (fun s' => typeIs_int s' 1 t) noFill_tuple_mul F.fills_int_mul F.slot_int_rmul repeat_tuple F.slot_int_index.lookup
    (call_meets F.slot_int_rmul (typeIs_int s 1 t) F.entry_int_rmul (F.args_int_rmul_2 _ _) (int_rmul_tuple 1 t l its.toArray n dd sl)
      ⟨ho, rfl, ⟨_, ho, rfl⟩, call_meets F.slot_tuple_mul ⟨_, ho, rfl⟩ F.entry_tuple_mul (F.args_tuple_mul_2 _ _) (tuple_mul1 l its.toArray n dd sl t hi) ⟨ho, ⟨.ref l, H, I, rfl, q⟩⟩⟩)
open AutoSeq1 (wpAny_loadPart') in
theorem tuple_mulE (l : Addr) (n : Nat) (dd : Option Addr) (sl : Array (Option Value)) (x : Int) (u : Tok) (c0 : (decide (x < -(2 ^ 63)) || decide (x ≥ 2 ^ 63)) = false) :
    Meets (Builtin.«tuple.__mul__» ⟨[.ref l, .int x u], []⟩) (fun _ R s => s.heap.get? l = some { cls := .type "tuple", dict := dd, data := .seq #[] n, slots := sl } ∧ R (.ok (.ret (Value.ref l))) s) :=
  .of_wp fun prog w A R s h => by
    obtain ⟨hp, g, d, tk, os⟩ := s
    obtain ⟨hl, h⟩ := h
    have f1 := AutoSeq1.idx_int
    have e : ((#[] : Array Value).isEmpty || x == 1) = true := by simp
    wp_walk using wpAny_loadPart' hl
    repeat (first
      | (refine wpAny_ite_false (decide_eq_false (by rw [c0]; exact Bool.false_ne_true)) ?_; wp_walk using wpAny_loadPart' hl)
      | (refine wpAny_ite_true (decide_eq_true e) ?_; wp_walk using wpAny_loadPart' hl))
    exact ⟨_, rfl, h⟩
theorem op_repTE : OpR X (binaryOp .Mult) (fun x y H Q => ∃ l j, x = .ref l ∧ y = .int j ∧ SqT X.K H l [] ∧ -1000 ≤ j ∧ j ≤ 1000 ∧ Q (.ref l) H) := by
  intro pins s σ H x y v u Q I rx ry h
  obtain ⟨l, j, rfl, rfl, hT, b1, b2, q⟩ := h
  cases rx
  obtain ⟨t, rfl⟩ := ry
  obtain ⟨its, r, ⟨⟨cls, dd, data, sl⟩, ho, hc, n, hd⟩, hs⟩ := I.tuple hT
  simp only at hc hd
  subst hc hd
  cases r
  exact wpAny_binaryOp_repeat_ref (T := "tuple") (U := "int") (by decide) ⟨_, ho, rfl⟩ (fun s' => typeIs_int s' j t) noFill_tuple_mul F.fills_int_mul F.slot_int_rmul repeat_tuple F.slot_int_index.lookup
    (call_meets F.slot_int_rmul (typeIs_int s j t) F.entry_int_rmul (F.args_int_rmul_2 _ _) (int_rmul_tuple j t l ([] : List Value).toArray n dd sl)
      ⟨ho, rfl, ⟨_, ho, rfl⟩, call_meets F.slot_tuple_mul ⟨_, ho, rfl⟩ F.entry_tuple_mul (F.args_tuple_mul_2 _ _) (tuple_mulE l n dd sl j t (by rw [decide_eq_false (by omega), decide_eq_false (by omega)]; rfl)) ⟨ho, ⟨.ref l, H, I, rfl, q⟩⟩⟩)
theorem op_binMul : OpR X (binaryOp .Mult) (RBin X.K mulD) := by
  intro pins s σ H v u vv uv Q I rx ry h
  obtain ⟨W, G, m, x, y, d, hr, qx, qy, e, k⟩ := h
  unfold mulD at e
  split at e
  · rename_i i j
    split at e
    · rename_i hz
      cases e
      have ex := qx.int; have ey := qy.int
      subst ex ey
      exact op_mulW pins s σ H _ _ vv uv Q I rx ry ⟨i, j, rfl, rfl, hz, k W H _ (Wd.Le.refl _) hr (.int _)⟩
    · cases e
  · rename_i xs j
    split at e
    · rename_i hz
      cases e
      obtain ⟨z1, z2, z3⟩ : xs.length ≤ 1000 ∧ -1000 ≤ j ∧ j ≤ 1000 := of_decide_eq_true hz
      obtain ⟨a, vs, rfl, ha, ra, za⟩ := qx.lst hr
      have ey := qy.int
      subst ey
      have hle : vs.length * j.toNat ≤ sizeLine := by
        have a1 : vs.length * j.toNat ≤ 1000 * 1000 := Nat.mul_le_mul (by rw [ra.length]; exact z1) (by omega)
        have := sizeLine_eq
        omega
      refine op_rep pins s σ H _ _ vv uv Q I rx ry ⟨a, j, vs, rfl, rfl, ha, by omega, by omega, hle, fun p hp => ?_⟩
      obtain ⟨h2, q2⟩ := new_lst hr hp (ra.rep j.toNat) (rep_line z1 z3)
      exact k _ _ _ (Wd.Le.refl _) h2 q2
    · cases e
  · rename_i xs j
    split at e
    · rename_i hz
      cases e
      rw [Bool.and_eq_true, decide_eq_true_eq, decide_eq_true_eq] at hz
      obtain ⟨ex, tx⟩ := qx.str
      have ey := qy.int
      subst ex ey
      obtain ⟨t, rfl⟩ := rx
      obtain ⟨t', rfl⟩ := ry
      refine P.mul_str (by
        have h1 : ¬ j < -(2 ^ 63 : Int) := by omega
        have h2 : ¬ j ≥ 2 ^ 63 := by omega
        rw [decide_eq_false h1, decide_eq_false h2]; rfl) (fun h1 h2 => ?_) (fun h1 h2 => ?_) ?_
      · have : j = 1 := by omega
        subst this; cases h2
      · have : j = 1 := by omega
        subst this; cases h2
      · by_cases hj : j < 1
        · rw [if_pos hj]
          have e0 : rep j.toNat xs = [] := by
            rw [show j.toNat = 0 by omega]; rfl
          rw [e0] at k
          exact ⟨by decide, .str (S []), H, I.tok _, ⟨_, rfl⟩, k W H _ (Wd.Le.refl _) hr (.str [] ⟨by decide, fun c h => nomatch h⟩)⟩
        · have h1 : j = 1 := by omega
          subst h1
          rw [if_neg hj, if_pos (c := ((1 : Int) == 1 || (S xs).length == 0) = true) (by simp)]
          have e0 : rep (1 : Int).toNat xs = xs := by
            show (List.replicate 1 xs).flatten = xs
            simp
          rw [e0] at k
          exact ⟨.str (S xs), H, I, ⟨t, rfl⟩, k W H _ (Wd.Le.refl _) hr (.str xs tx)⟩
    · cases e
  · rename_i xs j
    split at e
    · rename_i hz
      cases e
      rw [Bool.and_eq_true] at hz
      obtain ⟨hz, hne⟩ := hz
      obtain ⟨z1, z2, z3⟩ : xs.length ≤ 1000 ∧ -1000 ≤ j ∧ j ≤ 1000 := of_decide_eq_true hz
      obtain ⟨a, vs, rfl, ha, ra, za⟩ := qx.tup hr
      have ey := qy.int
      subst ey
      by_cases hemp : xs = []
      · subst hemp
        cases ra
        refine op_repTE pins s σ H _ _ vv uv Q I rx ry ⟨a, j, rfl, rfl, ha, z2, z3, ?_⟩
        have e : rep j.toNat ([] : List D) = [] := by
          show (List.replicate j.toNat []).flatten = []
          simp
        rw [e] at k
        refine k W H _ (Wd.Le.refl _) hr ?_
        rcases qx with q | ⟨_, _, q⟩
        · exact q
        · exact q.elim
      have h1j : 1 ≤ j := by
        rw [Bool.or_eq_true] at hne
        rcases hne with z | z
        · exact absurd (List.isEmpty_iff.mp z) hemp
        · exact of_decide_eq_true z
      have hne : xs.isEmpty = false := by cases xs with | nil => exact absurd rfl hemp | cons _ _ => rfl
      have hvs : vs ≠ [] := fun e => by
        subst e
        cases ra
        simp at hne
      by_cases hj1 : j = 1
      · subst hj1
        refine op_repT1 pins s σ H _ _ vv uv Q I rx ry ⟨a, vs, rfl, rfl, ha, hvs, ?_⟩
        have e : rep (1 : Int).toNat xs = xs := by
          show (List.replicate 1 xs).flatten = xs
          simp
        rw [e] at k
        refine k W H _ (Wd.Le.refl _) hr ?_
        rcases qx with q | ⟨_, _, q⟩
        · exact q
        · exact q.elim
      have h2j : 2 ≤ j := by omega
      refine op_repN pins s σ H _ _ vv uv Q I rx ry ⟨a, j, vs, rfl, rfl, ha, fun e => ?_, h2j, z3, by rw [ra.length]; exact z1, fun p o ho hp => ?_⟩
      · subst e
        cases ra
        simp at hne
      · obtain ⟨l2, h2, q2⟩ := new_tup hr ho hp (ra.rep j.toNat) (rep_line z1 z3)
        exact k _ _ _ l2 h2 q2
    · cases e
  · cases e
def pyOp : Bop → Operator
  | .add => .Add
  | .sub => .Sub
  | .mul => .Mult
  | .mod => .Mod
  | .fdiv => .FloorDiv
  | .pow => .Pow
theorem op_bin (o : Bop) : OpR X (binaryOp (pyOp o)) (RBin X.K (binD o)) := by
  cases o
  · exact op_binAdd
  · exact op_binSub
  · exact op_binMul
  · exact op_binMod
  · exact op_binFdiv
  · exact op_binPow
theorem se_bin {a b : PySem.Expr} {pos : Pos} {ca cb : CE} (o : Bop) (ha : SE T Nn n N sc a ca) (hb : SE T Nn n N sc b cb) : SE T Nn n N sc (.BinOp a (pyOp o) b pos) (.bin o ca cb) := by
  intro E X x
  obtain ⟨ta, pa, fa⟩ := ha E X x
  obtain ⟨tb, pb, fb⟩ := hb E X x
  refine ⟨_, pe_op (op_bin o) pa pb, fun r m G W sg H Q er hr p => ?_⟩
  have p : PostR Nn X.mg X.K G W ((evE (cxE T n) ca r m).bnd fun x m1 => (evE (cxE T n) cb r m1).bnd fun y m2 => ((M.opt (binD o x.d y.d)) m2).bnd fun d m3 => .ok (⟨match d with | .lst _ => .f | _ => .v, d⟩ : R) m3) _ E := Post.toR p
  refine use2 fa fb er hr p fun x y m2 W2 H2 v u l2 h2 q1 q2 p2 => ?_
  obtain ⟨d, e, p2⟩ := p2.opt
  exact ⟨W2, G, m2, x.d, y.d, d, h2, q1.1, q2.1, e, fun W' H' z l h q => p2 W' H' l h z q⟩
theorem se_neg {a : PySem.Expr} {pos : Pos} {ca : CE} (ha : SE T Nn n N sc a ca) : SE T Nn n N sc (.UnaryOp .USub a pos) (.neg ca) := by
  intro E X x
  obtain ⟨ta, pa, fa⟩ := ha E X x
  refine ⟨_, pe_un un_neg pa, fun r m G W sg H Q er hr p => ?_⟩
  have p : PostR Nn X.mg X.K G W ((evE (cxE T n) ca r m).bnd fun x m1 => ((M.opt x.d.int?) m1).bnd fun i m2 => .ok (R.v (.int (-i))) m2) _ E := Post.toR p
  refine use1 fa er hr p fun x m1 W1 H1 v l1 h1 q1 p1 => ?_
  obtain ⟨i, e, p1⟩ := p1.opt
  have e' : x.d = .int i := by
    cases hx : x.d <;> rw [hx] at e <;> first | (cases e; rfl) | cases e
  have q := q1.1
  rw [e'] at q
  exact ⟨i, q.int, p1.ok h1 _ (.int _)⟩

/-! ### comparisons -/
/-- a comparison told of data -/
abbrev RCmp (K : PySem.W.Frag) (f : D → D → Option Bool) : R2 := fun v u H Q => ∃ W G m x y c, HR K W G H m ∧ RD K W G v x ∧ RD K W G u y ∧ f x y = some c ∧ Q (.bl c) H
def pyCop : Cop → CmpOp
  | .eq => .Eq
  | .ne => .NotEq
  | .lt => .Lt
  | .le => .LtE
  | .gt => .Gt
  | .ge => .GtE
  | .isin => .In
  | .notin => .NotIn
  | .is => .Is
  | .isnot => .IsNot
theorem toPs_len : ∀ ds : List D, (toPs ds).length = ds.length
  | [] => rfl
  | d :: ds => by simp only [toPs, List.length_cons, toPs_len ds]
theorem any_eqv {x : D} (hx : x.pure = true) : ∀ {ds : List D}, pureAll ds = true → ((toPs ds).any fun z => PyData.eqv z (toP x)) = ds.any fun z => eqD z x
  | [], _ => rfl
  | d :: ds, h => by
    have a1 : d.pure = true ∧ pureAll ds = true := by simpa [pureAll] using h
    simp only [toPs, List.any_cons, toP_eqv d x a1.1 hx, any_eqv hx a1.2]
theorem pureAll_of : ∀ {ds : List D}, ds.all D.eqOk = true → pureAll ds = true ∧ depthAll ds ≤ 60
  | [], _ => ⟨rfl, Nat.zero_le _⟩
  | d :: ds, h => by
    have a1 : d.eqOk = true ∧ ds.all D.eqOk = true := by simpa using h
    have a2 := eqOk_iff.mp a1.1
    have a3 := pureAll_of a1.2
    refine ⟨by simp [pureAll, a2.1, a3.1], ?_⟩
    show max d.depth (depthAll ds) ≤ 60
    omega
mutual
theorem eqD_symm : ∀ a b : D, eqD a b = eqD b a
  | .non, b => by cases b <;> simp [eqD]
  | .bl x, b => by cases b <;> simp [eqD, BEq.comm]
  | .int x, b => by cases b <;> simp [eqD, BEq.comm]
  | .str x, b => by cases b <;> simp [eqD, BEq.comm]
  | .tup x, .tup y => by simp only [eqD]; exact eqDs_symm x y
  | .lst x, .lst y => by simp only [eqD]; exact eqDs_symm x y
  | .tup x, .non => by simp [eqD]
  | .tup x, .bl _ => by simp [eqD]
  | .tup x, .int _ => by simp [eqD]
  | .tup x, .str _ => by simp [eqD]
  | .tup x, .lst _ => by simp [eqD]
  | .tup x, .dic _ _ => by simp [eqD]
  | .tup x, .ref _ => by simp [eqD]
  | .tup x, .scr _ => by simp [eqD]
  | .lst x, .non => by simp [eqD]
  | .lst x, .bl _ => by simp [eqD]
  | .lst x, .int _ => by simp [eqD]
  | .lst x, .str _ => by simp [eqD]
  | .lst x, .tup _ => by simp [eqD]
  | .lst x, .dic _ _ => by simp [eqD]
  | .lst x, .ref _ => by simp [eqD]
  | .lst x, .scr _ => by simp [eqD]
  | .dic _ _, b => by cases b <;> simp [eqD]
  | .ref _, b => by cases b <;> simp [eqD]
  | .scr _, b => by cases b <;> simp [eqD]
theorem eqDs_symm : ∀ a b : List D, eqDs a b = eqDs b a
  | [], [] => rfl
  | [], _ :: _ => rfl
  | _ :: _, [] => rfl
  | x :: xs, y :: ys => by simp only [eqDs, eqD_symm x y, eqDs_symm xs ys]
end
theorem any_mem {x : D} {ds : List D} : (ds.any fun z => eqD z x) = memD x ds := by
  unfold memD
  congr 1
  funext z
  exact eqD_symm z x
theorem op_cEq (hu : X.A.units + 100 < cLine) : OpR X (compareOp .Eq) (RCmp X.K (cmpD .eq)) := by
  intro pins s σ H v u vv uv Q I rx ry h
  obtain ⟨W, G, m, x, y, c, hr, qx, qy, e, q⟩ := h
  have e : (if (x.eqOk && y.eqOk) = true then some (eqD x y) else eq0 x y) = some c := e
  split at e
  · rename_i hz
    cases e
    rw [Bool.and_eq_true] at hz
    have p1 := (eqOk_iff.mp hz.1).1
    have p2 := (eqOk_iff.mp hz.2).1
    exact op_eqD (by omega) pins s σ H _ _ vv uv Q I rx ry ⟨toP x, toP y, qx.dp hr x p1, qy.dp hr y p2, qx.shaped hz.1, qy.shaped hz.2, by rw [toP_eqv x y p1 p2]; exact q⟩
  · rename_i hz
    clear hz
    unfold eq0 at e
    split at e
    · rename_i xs e0
      clear e0
      cases e
      obtain ⟨a, vs, rfl, hT, rv, _⟩ := qx.tup hr
      obtain ⟨b, us, rfl, hU, ru, _⟩ := qy.tup hr
      cases rx
      cases ry
      obtain ⟨its, r1, t1, _⟩ := I.tuple hT
      obtain ⟨its2, r2, t2, _⟩ := I.tuple hU
      cases ru
      cases r2
      have hb : ((List.range (min its.toArray.size ([] : List Value).toArray.size)).all (fun _ => true) && its.toArray.size == ([] : List Value).toArray.size) = xs.isEmpty := by
        cases rv with
        | nil => cases r1; rfl
        | cons _ _ => cases r1; simp
      refine SeqAt.eq_tupleAt (e := fun _ => true) t1 t2 (by omega) (fun j _ h2 => absurd h2 (Nat.not_lt_zero _)) ⟨.bl xs.isEmpty, H, I, ?_, q⟩
      show Value.bool _ = Value.bool _
      rw [hb]
    · cases e
theorem op_cNe (hu : X.A.units + 100 < cLine) : OpR X (compareOp .NotEq) (RCmp X.K (cmpD .ne)) := by
  intro pins s σ H v u vv uv Q I rx ry h
  obtain ⟨W, G, m, x, y, c, hr, qx, qy, e, q⟩ := h
  have e : (if (x.eqOk && y.eqOk) = true then some (!eqD x y) else none) = some c := e
  split at e
  · rename_i hz
    cases e
    rw [Bool.and_eq_true] at hz
    have p1 := (eqOk_iff.mp hz.1).1
    have p2 := (eqOk_iff.mp hz.2).1
    exact op_neD (by omega) pins s σ H _ _ vv uv Q I rx ry ⟨toP x, toP y, qx.dp hr x p1, qy.dp hr y p2, qx.shaped hz.1, qy.shaped hz.2, by rw [toP_eqv x y p1 p2]; exact q⟩
  · cases e
theorem op_cInt {f : Value → Value → Sem Value} {p : Int → Int → Bool} (ho : OpR X f (rI0 fun i j => .bl (p i j))) : OpR X f (RCmp X.K (ltI p)) := by
  intro pins s σ H v u vv uv Q I rx ry h
  obtain ⟨W, G, m, x, y, c, hr, qx, qy, e, q⟩ := h
  unfold ltI at e
  split at e
  · cases e
    exact ho pins s σ H _ _ vv uv Q I rx ry ⟨_, _, qx.int, qy.int, q⟩
  · cases e
theorem op_cIs : OpR X (compareOp .Is) (RCmp X.K isD) := by
  intro pins s σ H v u vv uv Q I rx ry h
  obtain ⟨W, G, m, x, y, c, hr, qx, qy, e, q⟩ := h
  unfold isD at e
  split at e
  · cases e
    exact op_isN pins s σ H _ _ vv uv Q I rx ry ⟨qy.non, by rw [qx.non]; exact q⟩
  · rename_i hne
    cases e
    refine op_isN pins s σ H _ _ vv uv Q I rx ry ⟨qy.non, ?_⟩
    have : v ≠ .non := by
      rintro rfl
      rcases qx with h | ⟨a, e, _⟩
      · cases h; exact hne rfl
      · cases e
    rw [decide_eq_false this]
    exact q
  · cases e
    refine op_isBl pins s σ H _ _ vv uv Q I rx ry ⟨_, _, qx.bl, qy.bl, ?_⟩
    rw [← Bool.beq_eq_decide_eq]
    exact q
  · cases e
theorem op_cIsnot : OpR X (compareOp .IsNot) (RCmp X.K fun a b => (isD a b).map (!·)) := by
  intro pins s σ H v u vv uv Q I rx ry h
  obtain ⟨W, G, m, x, y, c, hr, qx, qy, e, q⟩ := h
  replace e : (isD x y).map (!·) = some c := e
  unfold isD at e
  split at e
  · cases e
    exact op_notN pins s σ H _ _ vv uv Q I rx ry ⟨qy.non, by rw [qx.non]; exact q⟩
  · rename_i hne
    cases e
    refine op_notN pins s σ H _ _ vv uv Q I rx ry ⟨qy.non, ?_⟩
    have : v ≠ .non := by
      rintro rfl
      rcases qx with h | ⟨a, e, _⟩
      · cases h; exact hne rfl
      · cases e
    rw [decide_eq_false this]
    exact q
  · cases e
    refine op_notBl pins s σ H _ _ vv uv Q I rx ry ⟨_, _, qx.bl, qy.bl, ?_⟩
    rw [← Bool.beq_eq_decide_eq]
    exact q
  · cases e
theorem reads_of {pins : List (Addr × Obj)} {σ : L2.St} {s : Shared} {W : Wd} {G H : Hp} {m : Mu} {v : V} {vv : Value} {d : D} (I : Inv X pins σ H s) (hr : HR X.K W G H m) (q : RD X.K W G v d) (p : d.pure = true) (rx : RelV v vv) : ∃ as, Reads s.heap vv (toP d) as :=
  Dp.reads I _ v vv (q.dp hr d p) rx
theorem lay_all {K : PySem.W.Frag} {W : Wd} {G : Hp} {v : V} {ds : List D} (q : RD K W G v (.lst ds)) (p : pureAll ds = true) : PyData.canLayAll0 (toPs ds) = true := by
  have := q.lay (.lst ds) (by simpa [D.pure] using p)
  simpa [toP, PyData.canLay0] using this
theorem lay_allT {K : PySem.W.Frag} {W : Wd} {G : Hp} {v : V} {ds : List D} (q : RD K W G v (.tup ds)) (p : pureAll ds = true) : PyData.canLayAll0 (toPs ds) = true := by
  have := q.lay (.tup ds) (by simpa [D.pure] using p)
  simpa [toP, PyData.canLay0] using this
theorem room_in (hu : X.A.units + 100 < cLine) {ds : List D} {x : D} (h : x.depth ≤ 60) : X.A.units + 1 + min (PyData.depthAll (toPs ds)) (toP x).depth < cLine := by
  rw [toP_depth]
  have : min (PyData.depthAll (toPs ds)) x.depth ≤ x.depth := Nat.min_le_right _ _
  omega
theorem in_sign (c : Nat) (y : Sg) : decide (c ∈ (S y).cps.toList) = y.contains c := by
  rw [Bool.eq_iff_iff]
  simp [S]
  exact decide_eq_true_iff
theorem op_cIn (hu : X.A.units + 100 < cLine) : OpR X (compareOp .In) (RCmp X.K inD) := by
  intro pins s σ H v u vv uv Q I rx ry h
  obtain ⟨W, G, m, x, y, c, hr, qx, qy, e, q⟩ := h
  unfold inD at e
  split at e
  · split at e
    · rename_i kvs hk
      cases e
      obtain ⟨a, us, rfl, ha, ra, _⟩ := qy.dicK hr
      obtain ⟨kk, rfl, rfl⟩ := qx.key hk
      cases ry
      refine d_in (by omega) I (DGet.k ha) rx fun s' I' => ⟨.bl _, H, I', rfl, ?_⟩
      rcases ra.look kk with ⟨h1, h2⟩ | ⟨d', z, h1, h2, _⟩
      · rw [h2]; rw [h1] at q; exact q
      · rw [h2]; rw [h1] at q; exact q
    · cases e
  · split at e
    · rename_i y' _ c'
      cases e
      obtain ⟨ex, _⟩ := qx.str
      obtain ⟨ey, _⟩ := qy.str
      subst ex ey
      refine op_in_sign pins s σ H _ _ vv uv Q I rx ry ⟨c', S y', rfl, rfl, ?_⟩
      have : decide (c' ∈ (S y').cps.toList) = y'.contains c' := in_sign c' y'
      rw [this]
      exact q
    · cases e
  · rename_i ds
    split at e
    · rename_i hz
      cases e
      rw [Bool.and_eq_true] at hz
      have p1 := eqOk_iff.mp hz.1
      have p2 := pureAll_of hz.2
      obtain ⟨as, r1⟩ := reads_of I hr qx p1.1 rx
      obtain ⟨bs, r2⟩ := reads_of I hr qy (by simpa [D.pure] using p2.1) ry
      simp only [toP] at r2
      exact SeqAt.in_list_reads r2 r1 (lay_all qy p2.1) (qx.lay x p1.1) (room_in hu p1.2) ⟨.bl _, H, I, rfl, by rw [any_eqv p1.1 p2.1, any_mem]; exact q⟩
    · cases e
  · rename_i ds
    split at e
    · rename_i hz
      cases e
      rw [Bool.and_eq_true] at hz
      have p1 := eqOk_iff.mp hz.1
      have p2 := pureAll_of hz.2
      obtain ⟨as, r1⟩ := reads_of I hr qx p1.1 rx
      obtain ⟨bs, r2⟩ := reads_of I hr qy (by simpa [D.pure] using p2.1) ry
      simp only [toP] at r2
      exact SeqAt.in_tuple_reads r2 r1 (lay_allT qy p2.1) (qx.lay x p1.1) (room_in hu p1.2) ⟨.bl _, H, I, rfl, by rw [any_eqv p1.1 p2.1, any_mem]; exact q⟩
    · cases e
  · cases e
theorem op_cNotin (hu : X.A.units + 100 < cLine) : OpR X (compareOp .NotIn) (RCmp X.K fun a b => (inD a b).map (!·)) := by
  intro pins s σ H v u vv uv Q I rx ry h
  obtain ⟨W, G, m, x, y, c, hr, qx, qy, e, q⟩ := h
  replace e : (inD x y).map (!·) = some c := e
  unfold inD at e
  split at e
  · split at e
    · rename_i kvs hk
      cases e
      obtain ⟨a, us, rfl, ha, ra, _⟩ := qy.dicK hr
      obtain ⟨kk, rfl, rfl⟩ := qx.key hk
      cases ry
      refine d_notIn (by omega) I (DGet.k ha) rx fun s' I' => ⟨.bl _, H, I', rfl, ?_⟩
      rcases ra.look kk with ⟨h1, h2⟩ | ⟨d', z, h1, h2, _⟩
      · rw [h2]; rw [h1] at q; exact q
      · rw [h2]; rw [h1] at q; exact q
    · cases e
  · split at e
    · rename_i y' _ c'
      cases e
      obtain ⟨ex, _⟩ := qx.str
      obtain ⟨ey, _⟩ := qy.str
      subst ex ey
      refine op_notIn_sign pins s σ H _ _ vv uv Q I rx ry ⟨c', S y', rfl, rfl, ?_⟩
      have : decide (c' ∈ (S y').cps.toList) = y'.contains c' := in_sign c' y'
      rw [this]
      exact q
    · cases e
  · rename_i ds
    split at e
    · rename_i hz
      cases e
      rw [Bool.and_eq_true] at hz
      have p1 := eqOk_iff.mp hz.1
      have p2 := pureAll_of hz.2
      obtain ⟨as, r1⟩ := reads_of I hr qx p1.1 rx
      obtain ⟨bs, r2⟩ := reads_of I hr qy (by simpa [D.pure] using p2.1) ry
      simp only [toP] at r2
      exact SeqAt.notIn_list_reads r2 r1 (lay_all qy p2.1) (qx.lay x p1.1) (room_in hu p1.2) ⟨.bl _, H, I, rfl, by rw [any_eqv p1.1 p2.1, any_mem]; exact q⟩
    · cases e
  · rename_i ds
    split at e
    · rename_i hz
      cases e
      rw [Bool.and_eq_true] at hz
      have p1 := eqOk_iff.mp hz.1
      have p2 := pureAll_of hz.2
      obtain ⟨as, r1⟩ := reads_of I hr qx p1.1 rx
      obtain ⟨bs, r2⟩ := reads_of I hr qy (by simpa [D.pure] using p2.1) ry
      simp only [toP] at r2
      exact SeqAt.notIn_tuple_reads r2 r1 (lay_allT qy p2.1) (qx.lay x p1.1) (room_in hu p1.2) ⟨.bl _, H, I, rfl, by rw [any_eqv p1.1 p2.1, any_mem]; exact q⟩
    · cases e
  · cases e
theorem op_cmp (hu : X.A.units + 100 < cLine) (o : Cop) : OpR X (compareOp (pyCop o)) (RCmp X.K (cmpD o)) := by
  cases o
  · exact op_cEq hu
  · exact op_cNe hu
  · exact op_cInt op_lt
  · exact op_cInt op_le
  · exact op_cInt op_gt
  · exact op_cInt op_ge
  · exact op_cIn hu
  · exact op_cNotin hu
  · exact op_cIs
  · exact op_cIsnot
/-- no written set -/
def notSet : PySem.Expr → Bool
  | .Set _ _ _ => false
  | _ => true
theorem noSet_marks {op : CmpOp} {b : PySem.Expr} (h : notSet b = true) : behindInMarks op b = false := by
  cases b <;> first | rfl | cases h
theorem se_cmp {a b : PySem.Expr} {pos : Pos} {ca cb : CE} (o : Cop) (hb0 : notSet b = true) (ha : SE T Nn n N sc a ca) (hb : SE T Nn n N sc b cb) : SE T Nn n N sc (.Compare a [pyCop o] [b] pos) (.cmp o ca cb) := by
  intro E X x
  obtain ⟨ta, pa, fa⟩ := ha E X x
  obtain ⟨tb, pb, fb⟩ := hb E X x
  refine ⟨_, pe_cmpR (op_cmp x.hu o) pa pb (noSet_marks hb0), fun r m G W sg H Q er hr p => ?_⟩
  have p : PostR Nn X.mg X.K G W ((evE (cxE T n) ca r m).bnd fun x m1 => (evE (cxE T n) cb r m1).bnd fun y m2 => ((M.opt (cmpD o x.d y.d)) m2).bnd fun d m3 => .ok (bit d) m3) _ E := Post.toR p
  refine use2 fa fb er hr p fun x y m2 W2 H2 v u l2 h2 q1 q2 p2 => ?_
  obtain ⟨d, e, p2⟩ := p2.opt
  exact ⟨W2, G, m2, x.d, y.d, d, h2, q1.1, q2.1, e, p2.ok h2 _ (.bl _)⟩
theorem se_chain {a b c : PySem.Expr} {pos : Pos} {ca cb cc : CE} (o1 o2 : Cop) (ha : SE T Nn n N sc a ca) (hb : SE T Nn n N sc b cb) (hc : SE T Nn n N sc c cc) (hb0 : notSet c = true) : SE T Nn n N sc (.Compare a [pyCop o1, pyCop o2] [b, c] pos) (.chain o1 o2 ca cb cc) := by
  intro E X x
  obtain ⟨ta, pa, fa⟩ := ha E X x
  obtain ⟨tb, pb, fb⟩ := hb E X x
  obtain ⟨tc, pc, fc⟩ := hc E X x
  refine ⟨_, pe_chain (op_cmp x.hu o1) (op_cmp x.hu o2) pa pb pc (noSet_marks hb0), fun r m G W sg H Q er hr p => ?_⟩
  have p : PostR Nn X.mg X.K G W ((evE (cxE T n) ca r m).bnd fun x m1 => (evE (cxE T n) cb r m1).bnd fun y m2 => ((M.opt (cmpD o1 x.d y.d)) m2).bnd fun d m3 =>
    (if d = true then (do
      let z ← evE (cxE T n) cc r
      let k2 ← M.opt (cmpD o2 y.d z.d)
      pure (bit k2) : M R) else pure (bit false)) m3) _ E := Post.toR p
  refine use2 fa fb er hr p fun x y m2 W2 H2 v u l2 h2 q1 q2 p2 => ?_
  obtain ⟨d, e, p2⟩ := p2.opt
  refine ⟨W2, G, m2, x.d, y.d, d, h2, q1.1, q2.1, e, d, rfl, ?_⟩
  cases d with
  | true =>
    rw [if_pos rfl]
    have p2 : PostR Nn X.mg X.K G W2 ((evE (cxE T n) cc r m2).bnd fun z m3 => ((M.opt (cmpD o2 y.d z.d)) m3).bnd fun d m4 => .ok (bit d) m4) _ E := p2
    refine use1 fc (er.mono l2 (Same.refl _)) h2 p2 fun z m3 W3 H3 w l3 h3 q3 p3 => ?_
    obtain ⟨d, e, p3⟩ := p3.opt
    exact ⟨W3, G, m3, y.d, z.d, d, h3, q2.1.mono l3 (Same.refl _), q3.1, e, p3.ok h3 _ (.bl _)⟩
  | false =>
    rw [if_neg Bool.false_ne_true]
    have p2 : PostR Nn X.mg X.K G W2 (.ok (bit false) m2) _ E := p2
    exact p2.ok h2 _ (.bl _)
end
end Dn

/-! Dn6 -/
set_option Elab.async false
set_option linter.all false
set_option maxRecDepth 100000
set_option maxHeartbeats 1000000
/-! Dn6: tests; items and slices. -/
namespace Dn
open PySem PySem.Spec PyProof.Rows L2
section
variable {K : PySem.W.Frag} {W : Wd} {G H : Hp} {m : Mu} {v : V} {d : D}
theorem RVs.nil_iff {vs : List V} {ds : List D} (h : RVs K W vs ds) : vs.isEmpty = ds.isEmpty := by cases h <;> rfl
theorem RVk.nil_iff {vs : List (Key × V)} {ds : List (D × D)} (h : RVk K W vs ds) : vs.isEmpty = ds.isEmpty := by cases h <;> rfl
theorem tru_of (hr : HR K W G H m) (q : RD K W G v d) {k : Bool} (e : d.truth = some k) : TruV K v H k := by
  cases d with
  | non => cases e; rw [q.non]; rfl
  | bl b => cases e; rw [q.bl]; rfl
  | int i => cases e; rw [q.int]; rfl
  | str s =>
    cases e
    obtain ⟨e1, t⟩ := q.str
    subst e1
    refine ⟨by rw [S_len]; exact t.1, ?_⟩
    rw [S_len]
    cases s with
    | nil => rfl
    | cons a r =>
      have : (((a :: r).length : Nat) : Int) ≠ 0 := by simp; omega
      rw [bne_iff_ne.mpr this]
      rfl
  | tup ds =>
    cases e
    obtain ⟨a, vs, rfl, h, r, _⟩ := q.tup hr
    exact .inr (.inl ⟨vs, h, by rw [r.nil_iff]⟩)
  | lst ds =>
    cases e
    obtain ⟨a, vs, rfl, h, r, _⟩ := q.lst hr
    exact .inl ⟨vs, .inl (.inl h), by rw [r.nil_iff]⟩
  | dic t kvs =>
    cases t with
    | true => cases e
    | false =>
      cases e
      rcases q with q | ⟨a, rfl, q⟩
      · cases q with
        | dicK h r _ => exact .inr (.inr ⟨_, hr.fz _ _ h, by rw [r.nil_iff]⟩)
      · obtain ⟨kvs', e, r, _⟩ := q
        exact .inr (.inr ⟨_, hr.gd _ _ e, by rw [r.nil_iff]⟩)
  | ref n => cases e
  | scr ns => cases e
theorem RR.lo {r : R} (h : ArgR K W G v r) : RR K W G H v r.lo := by
  unfold R.lo
  cases e : r.keep with
  | some d => exact (h.2 d e).2
  | none => exact h.1
end
section
variable {T : Tb} {Nn : Tn} {n : Nat} {N : List Str} {sc : Scope} {E : XK} {X : L2.Cx} {G : Hp} {W : Wd} {sg : L2.St} {H : Hp} {m : Mu} {r : Env}
abbrev SndT (T : Tb) (Nn : Tn) (n : Nat) (X : L2.Cx) (E : XK) (c : CE) (t : TT) : Prop := ∀ (r : Env) (m : Mu) (G : Hp) (W : Wd) (sg : L2.St) (H : Hp) (Q : Bool → Hp → Prop), ER X.K W G sg r → HR X.K W G H m →
    PostB Nn X.mg X.K G W ((evE (cxE T n) c r m).bnd fun x m => (M.opt x.d.truth : M Bool) m) Q E → t sg H Q
theorem PostB.toR {o : Out Bool} {mg : Str → Option Value} {K : PySem.W.Frag} {Q : Bool → Hp → Prop} (h : PostB Nn mg K G W o Q E) : PostR Nn mg K G W o (fun k _ _ H' => Q k H') E := by
  cases o with
  | ok r m' => exact h
  | ex x m' => exact h
  | st => exact h
/-- a test, then g -/
theorem useT {α : Type} {a : CE} {ta : TT} (fa : SndT T Nn n X E a ta) (er : ER X.K W G sg r) (hr : HR X.K W G H m) {g : R → Bool → Mu → Out α} {P : α → Mu → Wd → Hp → Prop} {Q : Bool → Hp → Prop}
    (h : PostR Nn X.mg X.K G W ((evE (cxE T n) a r m).bnd fun x m1 => ((M.opt x.d.truth : M Bool) m1).bnd fun k m2 => g x k m2) P E)
    (k : ∀ x c m1 W1 H1, W.Le W1 → HR X.K W1 G H1 m1 → x.d.truth = some c → PostR Nn X.mg X.K G W1 (g x c m1) P E → Q c H1) : ta sg H Q := by
  refine fa r m G W sg H Q er hr ?_
  cases e : evE (cxE T n) a r m with
  | ok x m1 =>
    rw [e, bnd_ok] at h
    obtain ⟨c, e1, h⟩ := h.opt
    show PostB Nn X.mg X.K G W ((M.opt x.d.truth : M Bool) m1) Q E
    rw [e1]
    exact fun W' H' l hr' => k x c m1 W' H' l hr' e1 (h.mono l)
  | ex x m1 => rw [e] at h; exact h
  | st => rw [e] at h; exact h
theorem st_plain {e : PySem.Expr} {c : CE} (h : SE T Nn n N sc e c) (he : ∀ env whole, isTrue e env whole = (do let v ← whole; standAt e.pos; holding [v] (truthy v))) : ST T Nn n N sc e c := by
  intro E X x
  obtain ⟨t, pe, f⟩ := h E X x
  refine ⟨_, pt_truth pe (he _), fun r m G W sg H Q er hr p => ?_⟩
  refine use1 f er hr p.toR fun x m1 W1 H1 v l1 h1 q1 p1 => ?_
  obtain ⟨k, e, p1⟩ := p1.opt'
  exact ⟨k, tru_of h1 q1.1 e, p1.ok h1⟩
theorem st_cmp {a b : PySem.Expr} {pos : Pos} {ca cb : CE} (o : Cop) (hb0 : notSet b = true) (ha : SE T Nn n N sc a ca) (hb : SE T Nn n N sc b cb) : ST T Nn n N sc (.Compare a [pyCop o] [b] pos) (.cmp o ca cb) := by
  intro E X x
  obtain ⟨ta, pa, fa⟩ := ha E X x
  obtain ⟨tb, pb, fb⟩ := hb E X x
  refine ⟨_, pt_cmpR (op_cmp x.hu o) pa pb (noSet_marks hb0), fun r m G W sg H Q er hr p => ?_⟩
  have p := p.toR
  have e0 : ((evE (cxE T n) (.cmp o ca cb) r m).bnd fun x m => (M.opt x.d.truth : M Bool) m) = ((evE (cxE T n) ca r m).bnd fun x m1 => (evE (cxE T n) cb r m1).bnd fun y m2 => ((M.opt (cmpD o x.d y.d)) m2).bnd fun d m3 => .ok d m3) := by
    show (((evE (cxE T n) ca r m).bnd fun x m1 => (evE (cxE T n) cb r m1).bnd fun y m2 => ((M.opt (cmpD o x.d y.d)) m2).bnd fun d m3 => .ok (bit d) m3).bnd fun x m => (M.opt x.d.truth : M Bool) m) = _
    cases evE (cxE T n) ca r m with
    | ok x m1 =>
      simp only [bnd_ok]
      cases evE (cxE T n) cb r m1 with
      | ok y m2 =>
        simp only [bnd_ok]
        cases cmpD o x.d y.d <;> rfl
      | _ => rfl
    | _ => rfl
  rw [e0] at p
  refine use2 fa fb er hr p fun x y m2 W2 H2 v u l2 h2 q1 q2 p2 => ?_
  obtain ⟨d, e, p2⟩ := p2.opt
  exact ⟨W2, G, m2, x.d, y.d, d, h2, q1.1, q2.1, e, d, rfl, p2.ok h2⟩
theorem bnd_bnd {α β γ : Type} (o : Out α) (f : α → Mu → Out β) (g : β → Mu → Out γ) : (o.bnd f).bnd g = o.bnd fun a m => (f a m).bnd g := by
  cases o <;> rfl
theorem st_chain {a b c : PySem.Expr} {pos : Pos} {ca cb cc : CE} (o1 o2 : Cop) (ha : SE T Nn n N sc a ca) (hb : SE T Nn n N sc b cb) (hc : SE T Nn n N sc c cc) (hb0 : notSet c = true) : ST T Nn n N sc (.Compare a [pyCop o1, pyCop o2] [b, c] pos) (.chain o1 o2 ca cb cc) := by
  intro E X x
  obtain ⟨ta, pa, fa⟩ := ha E X x
  obtain ⟨tb, pb, fb⟩ := hb E X x
  obtain ⟨tc, pc, fc⟩ := hc E X x
  refine ⟨_, pt_chain (op_cmp x.hu o1) (op_cmp x.hu o2) pa pb pc (noSet_marks hb0), fun r m G W sg H Q er hr p => ?_⟩
  have p := p.toR
  have p : PostR Nn X.mg X.K G W (((evE (cxE T n) ca r m).bnd fun x m1 => (evE (cxE T n) cb r m1).bnd fun y m2 => ((M.opt (cmpD o1 x.d y.d)) m2).bnd fun d m3 =>
    (if d = true then (do
      let z ← evE (cxE T n) cc r
      let k2 ← M.opt (cmpD o2 y.d z.d)
      pure (bit k2) : M R) else pure (bit false)) m3).bnd fun x m => (M.opt x.d.truth : M Bool) m) _ E := p
  rw [bnd_bnd] at p
  simp only [bnd_bnd] at p
  refine use2 fa fb er hr p fun x y m2 W2 H2 v u l2 h2 q1 q2 p2 => ?_
  obtain ⟨d, e, p2⟩ := p2.opt
  refine ⟨W2, G, m2, x.d, y.d, d, h2, q1.1, q2.1, e, d, rfl, ?_⟩
  cases d with
  | true =>
    rw [if_pos rfl]
    have p2 : PostR Nn X.mg X.K G W2 (((evE (cxE T n) cc r m2).bnd fun z m3 => ((M.opt (cmpD o2 y.d z.d)) m3).bnd fun d m4 => .ok (bit d) m4).bnd fun x m => (M.opt x.d.truth : M Bool) m) _ E := p2
    rw [bnd_bnd] at p2
    simp only [bnd_bnd] at p2
    refine use1 fc (er.mono l2 (Same.refl _)) h2 p2 fun z m3 W3 H3 w l3 h3 q3 p3 => ?_
    obtain ⟨d, e, p3⟩ := p3.opt
    exact ⟨W3, G, m3, y.d, z.d, d, h3, q2.1.mono l3 (Same.refl _), q3.1, e, d, rfl, p3.ok h3⟩
  | false =>
    rw [if_neg Bool.false_ne_true]
    have p2 : PostR Nn X.mg X.K G W2 (.ok false m2) _ E := p2
    exact ⟨false, rfl, p2.ok h2⟩
theorem st_not {a : PySem.Expr} {pos : Pos} {ca : CE} (h : ST T Nn n N sc a ca) : ST T Nn n N sc (.UnaryOp .Not a pos) (.not ca) := by
  intro E X x
  obtain ⟨t, pt, f⟩ := h E X x
  refine ⟨_, pt_not pt, fun r m G W sg H Q er hr p => ?_⟩
  have p := p.toR
  have p : PostR Nn X.mg X.K G W (((evE (cxE T n) ca r m).bnd fun x m1 => ((M.opt x.d.truth : M Bool) m1).bnd fun k m2 => .ok (bit (!k)) m2).bnd fun x m => (M.opt x.d.truth : M Bool) m) _ E := p
  rw [bnd_bnd] at p
  simp only [bnd_bnd] at p
  refine useT f er hr p fun x c m1 W1 H1 l1 h1 e p1 => ?_
  have p1 : PostR Nn X.mg X.K G W1 (.ok (!c) m1) _ E := p1
  exact p1.ok h1
/-- and, or within a test -/
def SW (T : Tb) (Nn : Tn) (n : Nat) (N : List Str) (sc : Scope) (e : PySem.Expr) (c : CE) : Prop := ∀ (E : XK) (X : L2.Cx), XOk T Nn n N sc E X → ∃ t, PW X e t ∧ SndT T Nn n X E c t
theorem SW.st {e : PySem.Expr} {c : CE} (h : SW T Nn n N sc e c) : ST T Nn n N sc e c := fun E X x => let ⟨t, p, f⟩ := h E X x; ⟨t, p.pt, f⟩
theorem sw_and1 {a : PySem.Expr} {pos : Pos} {ca : CE} (h : ST T Nn n N sc a ca) : SW T Nn n N sc (.BoolOp .And [a] pos) ca := fun E X x => let ⟨t, p, f⟩ := h E X x; ⟨t, pw_and1 p, f⟩
theorem sw_or1 {a : PySem.Expr} {pos : Pos} {ca : CE} (h : ST T Nn n N sc a ca) : SW T Nn n N sc (.BoolOp .Or [a] pos) ca := fun E X x => let ⟨t, p, f⟩ := h E X x; ⟨t, pw_or1 p, f⟩
theorem lo_truth (x : R) : x.lo.d = x.d := by
  unfold R.lo
  split
  · rename_i d e
    have : x.d = d := by
      obtain ⟨t, d'⟩ := x
      cases t <;> cases d' <;> simp [R.keep] at e <;> first | exact e | skip
    exact this.symm
  · rfl
theorem sw_and {a b : PySem.Expr} {rest : List PySem.Expr} {pos : Pos} {ca cb : CE} (h : ST T Nn n N sc a ca) (hb : SW T Nn n N sc (.BoolOp .And (b :: rest) pos) cb) : SW T Nn n N sc (.BoolOp .And (a :: b :: rest) pos) (.and ca cb) := by
  intro E X x
  obtain ⟨t, p, f⟩ := h E X x
  obtain ⟨u, q, g⟩ := hb E X x
  refine ⟨_, pw_and p q, fun r m G W sg H Q er hr p => ?_⟩
  have p := p.toR
  have p : PostR Nn X.mg X.K G W (((evE (cxE T n) ca r m).bnd fun x m1 => ((M.opt x.d.truth : M Bool) m1).bnd fun k m2 => (if k = true then evE (cxE T n) cb r else pure x.lo) m2).bnd fun x m => (M.opt x.d.truth : M Bool) m) _ E := p
  rw [bnd_bnd] at p
  simp only [bnd_bnd] at p
  refine useT f er hr p fun x c m1 W1 H1 l1 h1 e p1 => ?_
  cases c with
  | true =>
    rw [if_pos rfl]
    rw [if_pos rfl] at p1
    refine g r m1 G W1 sg H1 Q (er.mono l1 (Same.refl _)) h1 ?_
    cases e2 : evE (cxE T n) cb r m1 with
    | ok y m2 =>
      rw [e2, bnd_ok] at p1
      obtain ⟨k, e3, p1⟩ := p1.opt'
      rw [bnd_ok, e3]
      exact p1
    | ex y m2 => rw [e2] at p1; exact p1
    | st => rw [e2] at p1; exact p1
  | false =>
    rw [if_neg Bool.false_ne_true]
    rw [if_neg Bool.false_ne_true] at p1
    have p1 : PostR Nn X.mg X.K G W1 ((M.opt x.lo.d.truth : M Bool) m1) _ E := p1
    rw [lo_truth, e] at p1
    exact p1.ok h1
theorem sw_or {a b : PySem.Expr} {rest : List PySem.Expr} {pos : Pos} {ca cb : CE} (h : ST T Nn n N sc a ca) (hb : SW T Nn n N sc (.BoolOp .Or (b :: rest) pos) cb) : SW T Nn n N sc (.BoolOp .Or (a :: b :: rest) pos) (.or ca cb) := by
  intro E X x
  obtain ⟨t, p, f⟩ := h E X x
  obtain ⟨u, q, g⟩ := hb E X x
  refine ⟨_, pw_or p q, fun r m G W sg H Q er hr p => ?_⟩
  have p := p.toR
  have p : PostR Nn X.mg X.K G W (((evE (cxE T n) ca r m).bnd fun x m1 => ((M.opt x.d.truth : M Bool) m1).bnd fun k m2 => (if k = true then pure x.lo else evE (cxE T n) cb r) m2).bnd fun x m => (M.opt x.d.truth : M Bool) m) _ E := p
  rw [bnd_bnd] at p
  simp only [bnd_bnd] at p
  refine useT f er hr p fun x c m1 W1 H1 l1 h1 e p1 => ?_
  cases c with
  | false =>
    rw [if_neg Bool.false_ne_true]
    rw [if_neg Bool.false_ne_true] at p1
    refine g r m1 G W1 sg H1 Q (er.mono l1 (Same.refl _)) h1 ?_
    cases e2 : evE (cxE T n) cb r m1 with
    | ok y m2 =>
      rw [e2, bnd_ok] at p1
      obtain ⟨k, e3, p1⟩ := p1.opt'
      rw [bnd_ok, e3]
      exact p1
    | ex y m2 => rw [e2] at p1; exact p1
    | st => rw [e2] at p1; exact p1
  | true =>
    rw [if_pos rfl]
    rw [if_pos rfl] at p1
    have p1 : PostR Nn X.mg X.K G W1 ((M.opt x.lo.d.truth : M Bool) m1) _ E := p1
    rw [lo_truth, e] at p1
    exact p1.ok h1

/-! ### as values -/
theorem se_not {a : PySem.Expr} {pos : Pos} {ca : CE} (h : SE T Nn n N sc a ca) : SE T Nn n N sc (.UnaryOp .Not a pos) (.not ca) := by
  intro E X x
  obtain ⟨t, pe, f⟩ := h E X x
  refine ⟨_, pe_notT pe, fun r m G W sg H Q er hr p => ?_⟩
  have p : PostR Nn X.mg X.K G W ((evE (cxE T n) ca r m).bnd fun x m1 => ((M.opt x.d.truth : M Bool) m1).bnd fun k m2 => .ok (bit (!k)) m2) _ E := Post.toR p
  refine use1 f er hr p fun x m1 W1 H1 v l1 h1 q1 p1 => ?_
  obtain ⟨k, e, p1⟩ := p1.opt
  exact ⟨k, tru_of h1 q1.1 e, p1.ok h1 _ (.bl _)⟩
theorem se_one {a : PySem.Expr} {pos : Pos} {ca : CE} {op : PySem.BoolOp} (h : SE T Nn n N sc a ca) : SE T Nn n N sc (.BoolOp op [a] pos) ca := fun E X x => let ⟨t, p, f⟩ := h E X x; ⟨t, pe_one p, f⟩
theorem se_and {a b : PySem.Expr} {rest : List PySem.Expr} {pos : Pos} {ca cb : CE} (h : SE T Nn n N sc a ca) (hb : SE T Nn n N sc (.BoolOp .And (b :: rest) pos) cb) : SE T Nn n N sc (.BoolOp .And (a :: b :: rest) pos) (.and ca cb) := by
  intro E X x
  obtain ⟨t, p, f⟩ := h E X x
  obtain ⟨u, q, g⟩ := hb E X x
  refine ⟨_, pe_andT p q, fun r m G W sg H Q er hr p => ?_⟩
  have p : PostR Nn X.mg X.K G W ((evE (cxE T n) ca r m).bnd fun x m1 => ((M.opt x.d.truth : M Bool) m1).bnd fun k m2 => (if k = true then evE (cxE T n) cb r else pure x.lo) m2) _ E := Post.toR p
  refine use1 f er hr p fun x m1 W1 H1 v l1 h1 q1 p1 => ?_
  obtain ⟨k, e, p1⟩ := p1.opt
  refine ⟨k, tru_of h1 q1.1 e, ?_⟩
  cases k with
  | true =>
    rw [if_pos rfl]
    rw [if_pos rfl] at p1
    refine g r m1 G W1 sg H1 Q (er.mono l1 (Same.refl _)) h1 ?_
    cases e2 : evE (cxE T n) cb r m1 with
    | ok y m2 => rw [e2] at p1; exact fun W' H' z l h q => p1 W' H' l h z q
    | ex y m2 => rw [e2] at p1; exact p1
    | st => rw [e2] at p1; exact p1
  | false =>
    rw [if_neg Bool.false_ne_true]
    rw [if_neg Bool.false_ne_true] at p1
    have p1 : PostR Nn X.mg X.K G W1 (.ok x.lo m1) _ E := p1
    exact p1.ok h1 _ (RR.lo q1)
theorem se_or {a b : PySem.Expr} {rest : List PySem.Expr} {pos : Pos} {ca cb : CE} (h : SE T Nn n N sc a ca) (hb : SE T Nn n N sc (.BoolOp .Or (b :: rest) pos) cb) : SE T Nn n N sc (.BoolOp .Or (a :: b :: rest) pos) (.or ca cb) := by
  intro E X x
  obtain ⟨t, p, f⟩ := h E X x
  obtain ⟨u, q, g⟩ := hb E X x
  refine ⟨_, pe_orT p q, fun r m G W sg H Q er hr p => ?_⟩
  have p : PostR Nn X.mg X.K G W ((evE (cxE T n) ca r m).bnd fun x m1 => ((M.opt x.d.truth : M Bool) m1).bnd fun k m2 => (if k = true then pure x.lo else evE (cxE T n) cb r) m2) _ E := Post.toR p
  refine use1 f er hr p fun x m1 W1 H1 v l1 h1 q1 p1 => ?_
  obtain ⟨k, e, p1⟩ := p1.opt
  refine ⟨k, tru_of h1 q1.1 e, ?_⟩
  cases k with
  | false =>
    rw [if_neg Bool.false_ne_true]
    rw [if_neg Bool.false_ne_true] at p1
    refine g r m1 G W1 sg H1 Q (er.mono l1 (Same.refl _)) h1 ?_
    cases e2 : evE (cxE T n) cb r m1 with
    | ok y m2 => rw [e2] at p1; exact fun W' H' z l h q => p1 W' H' l h z q
    | ex y m2 => rw [e2] at p1; exact p1
    | st => rw [e2] at p1; exact p1
  | true =>
    rw [if_pos rfl]
    rw [if_pos rfl] at p1
    have p1 : PostR Nn X.mg X.K G W1 (.ok x.lo m1) _ E := p1
    exact p1.ok h1 _ (RR.lo q1)
theorem Post.fromR {o : Out R} {mg : Str → Option Value} {K : PySem.W.Frag} {Q : VK} (h : PostR Nn mg K G W o (fun r _ W' H' => ∀ v, RR K W' G H' v r → Q v H') E) : Post Nn mg K G W o Q E := by
  cases o with
  | ok r m' => exact fun W' H' v l hr q => h W' H' l hr v q
  | ex x m' => exact h
  | st => exact h
theorem se_ife {c a b : PySem.Expr} {pos : Pos} {cc ca cb : CE} (hc : ST T Nn n N sc c cc) (ha : SE T Nn n N sc a ca) (hb : SE T Nn n N sc b cb) : SE T Nn n N sc (.IfExp c a b pos) (.ife cc ca cb) := by
  intro E X x
  obtain ⟨tc, pc, fc⟩ := hc E X x
  obtain ⟨ta, pa, fa⟩ := ha E X x
  obtain ⟨tb, pb, fb⟩ := hb E X x
  refine ⟨_, pe_ifExp pc pa pb, fun r m G W sg H Q er hr p => ?_⟩
  have p : PostR Nn X.mg X.K G W ((evE (cxE T n) cc r m).bnd fun x m1 => ((M.opt x.d.truth : M Bool) m1).bnd fun k m2 => (if k = true then evE (cxE T n) ca r else evE (cxE T n) cb r) m2) _ E := Post.toR p
  refine useT fc er hr p fun x c m1 W1 H1 l1 h1 e p1 => ?_
  cases c with
  | true =>
    rw [if_pos rfl]
    rw [if_pos rfl] at p1
    exact fa r m1 G W1 sg H1 Q (er.mono l1 (Same.refl _)) h1 (Post.fromR p1)
  | false =>
    rw [if_neg Bool.false_ne_true]
    rw [if_neg Bool.false_ne_true] at p1
    exact fb r m1 G W1 sg H1 Q (er.mono l1 (Same.refl _)) h1 (Post.fromR p1)
end
end Dn

/-! DnY -/
set_option Elab.async false
set_option linter.all false
set_option maxRecDepth 100000
set_option maxHeartbeats 1000000
/-! DnY: x[::-1] of lists, tuples, texts. -/
namespace Dn
open PySem PySem.Spec PyProof.Rows L2
section
variable {P : Program} {w : World} {A : Around} {E : Value → Shared → Prop} {s : Shared}
theorem back_at (n : Nat) : Builtin.Slice.sliceAdjust none none (-1) (n : Int) = ((n : Int) - 1, -1) := rfl
theorem back_places (n : Nat) : Builtin.Slice.slicePlaces ((n : Int) - 1) (-1) (-1) = n := by
  unfold Builtin.Slice.slicePlaces
  have h1 : ¬ ((-1 : Int) > 0) := by decide
  rw [if_neg h1]
  by_cases h : (n : Int) - 1 > -1
  · rw [if_pos h]
    have : (-(-1 : Int)) = 1 := by decide
    rw [this, Int.ediv_one]; omega
  · rw [if_neg h]; omega
theorem back_items (xs : Array Value) : ((List.range xs.size).filterMap fun (k : Nat) => xs[(((xs.size : Nat) : Int) - 1 + (k : Int) * (-1)).toNat]?).toArray = xs.toList.reverse.toArray := by
  congr 1
  apply List.ext_getElem?
  intro i
  have key : ∀ m, m ≤ xs.size → ((List.range m).filterMap fun (k : Nat) => xs[(((xs.size : Nat) : Int) - 1 + (k : Int) * (-1)).toNat]?) = xs.toList.reverse.take m := fun m hm => by
    induction m with
    | zero => rfl
    | succ m ih =>
      rw [List.range_succ, List.filterMap_append, ih (by omega)]
      have e : (((xs.size : Nat) : Int) - 1 + (m : Int) * (-1)).toNat = xs.size - 1 - m := by omega
      have hm2 : m < xs.toList.reverse.length := by rw [List.length_reverse, Array.length_toList]; omega
      rw [List.take_succ, List.getElem?_eq_getElem hm2]
      congr 1
      have e3 : xs[xs.size - 1 - m]? = some xs.toList.reverse[m] := by
        rw [← Array.getElem?_toList, List.getElem_reverse, List.getElem?_eq_getElem (by rw [Array.length_toList]; omega)]
        congr 1
      simp only [List.filterMap_cons, List.filterMap_nil, e, e3, Option.toList]
  rw [key xs.size (Nat.le_refl _), List.take_of_length_le (by rw [List.length_reverse, Array.length_toList]; exact Nat.le_refl _)]
/-- t[::-1], t a tuple -/
theorem back_tuple {t sl : Addr} {xs : Array Value} {vs : Value} {Q : Value → Shared → Prop} (ht : IsTup s.heap t xs) (hs : s.heap.IsSliceOf sl .none .none vs) (ps : IsPart vs (some (-1))) (hz : xs.size ≤ sizeLine)
    (h : Q (.ref s.heap.objs.size) { s with heap := s.heap.push { cls := .type "tuple", data := .seq xs.toList.reverse.toArray } }) : wpAny (model P w) A (getItem (.ref t) (.ref sl)) Q E s := by
  obtain ⟨o, ho, hc, hd⟩ := id hs
  have ty : s.TypeIs (.ref sl) "slice" := ⟨o, ho, hc⟩
  have sz : sizeOk (.seq xs.toList.reverse.toArray) := by
    show xs.toList.reverse.toArray.size ≤ sizeLine
    rw [List.size_toArray, List.length_reverse, Array.length_toList]; exact hz
  unfold getItem
  try with_reducible refine wpAny_holding ?_
  first | refine wpAny_bind (wpAny_pure ?_) | skip
  refine wpAny_bind (wpAny_sequenceKey ht.typeIs (by decide) (wpAny_bind (wpAny_callSpecial?_slot (name := Str.ofString "__getitem__") ht.typeIs PyProof.Rows.slot_tuple_getitem (wpAny_call_entry PyProof.Rows.slot_tuple_getitem ht.typeIs entry_tuple_getitem ?_ (args_tuple_getitem _ _)))))
  show wpAny _ _ (Builtin.Tuple.tupleItemsOf (.ref t) >>= _) _ _ s
  refine wpAny_bind (tupleItemsOf_ ht (wpAny_bind (wpAny_typeOf ty ?_)))
  rw [if_pos (by decide)]
  refine wpAny_bind ?_
  unfold Builtin.Slice.sliceApplied Builtin.Slice.sliceFields
  refine wpAny_bind (wpAny_bind (wpAny_field ho hd (x := .none) rfl (wpAny_bind (wpAny_field ho hd (x := .none) rfl (wpAny_bind (wpAny_field ho hd (x := vs) rfl (wpAny_pure ?_)))))))
  refine wpAny_bind (HT.slicePart_ ps ?_)
  show wpAny _ _ (if ((-1 : Int) == 0) = true then _ else _) _ _ s
  rw [if_neg (by decide)]
  refine wpAny_bind (slicePart_none (wpAny_bind (slicePart_none (wpAny_bind (wpAny_pure ?_)))))
  show wpAny _ _ (match Builtin.Slice.sliceAdjust none none (-1) ((xs.size : Nat) : Int) with | (lo, hi) => pure (lo, (-1 : Int), Builtin.Slice.slicePlaces lo hi (-1))) _ _ s
  rw [back_at]
  show wpAny _ _ (pure (((xs.size : Nat) : Int) - 1, (-1 : Int), Builtin.Slice.slicePlaces (((xs.size : Nat) : Int) - 1) (-1) (-1))) _ _ s
  rw [back_places]
  refine wpAny_pure ?_
  have no : ¬ ((((xs.size : Nat) : Int) - 1 == 0 && (-1 : Int) == 1 && xs.size == xs.size) = true) := by
    rw [show ((-1 : Int) == 1) = false by decide, Bool.and_false, Bool.false_and]; exact Bool.false_ne_true
  show wpAny _ _ (if (((xs.size : Nat) : Int) - 1 == 0 && (-1 : Int) == 1 && xs.size == xs.size) = true then _ else _) _ _ s
  rw [if_neg no, back_items]
  first
    | exact wpAny_bind (m := Builtin.Tuple.tupleExact _) (wpAny_newObj_type (wpAny_pure ⟨_, rfl, wpAny_pure h⟩) sz)
    | exact wpAny_bind (wpAny_bind (m := Builtin.Tuple.tupleExact _) (wpAny_newObj_type (wpAny_pure (wpAny_pure ⟨_, rfl, wpAny_pure h⟩)) sz))
    | exact wpAny_bind (wpAny_bind (m := Builtin.Tuple.tupleExact _) (wpAny_newObj_type (wpAny_pure ⟨_, rfl, wpAny_pure h⟩) sz))
end
def tRevA (K : PySem.W.Frag) (te : TE) : TE := fun σ H Q => te σ H fun x H1 => (∃ a xs, x = .ref a ∧ SqL K H1 a xs ∧ ∀ p, H1 p = none → Q (.ref p) (upd H1 p (.lst xs.reverse))) ∨
  (∃ a xs, x = .ref a ∧ SqT K H1 a xs ∧ kTupN Q H1 xs.reverse) ∨ (∃ z : Sg, x = .str (S z) ∧ z.length ≤ sizeLine ∧ Q (.str (S z.reverse)) H1)
theorem back_str (z : Sg) (t u : Tok) : sliceMade (S z) t none none (some (-1, u)) = .str (S z.reverse) := by
  unfold sliceMade
  have e : slicePicked (S z) none none (some (-1, u)) = (List.range z.length).reverse := by
    show Builtin.Str.strSliceIndices none none (-1) (S z).length = _
    rw [S_len]
    show sliceRange ((z.length : Int) - 1) (-1) (-1) = _
    rw [PySem.W.krv_sliceRange, PySem.W.krv_range]
  have e2 : ((List.range z.length).reverse.filterMap ((S z).cps[·]?)).toArray = z.reverse.toArray := by
    congr 1
    rw [List.filterMap_reverse]
    congr 1
    have := PySem.W.krv_all (S z).cps
    have e3 : (S z).cps.size = z.length := by simp [S]
    rw [e3] at this
    rw [this]
    simp [S]
  have no : ¬ ((((some ((-1 : Int), u)).map (·.1)).getD 1 == 1 && (slicePicked (S z) none none (some (-1, u))).length == (S z).length) = true) := by
    show ¬ (((-1 : Int) == 1 && _) = true)
    rw [show ((-1 : Int) == 1) = false by decide, Bool.false_and]; exact Bool.false_ne_true
  rw [if_neg no, e, e2]
  rfl
section
variable {X : L2.Cx}
theorem pe_revA {e : PySem.Expr} {te : TE} {k : Nat} {p1 p2 p3 pos : Pos} (he : PE X e te) : PE X (.Subscript e (.Slice none none (some (.UnaryOp .USub (.Constant (.int 1) k p1) p2)) p3) pos) (tRevA X.K te) := by
  refine ⟨fun pins s σ H Q I h => ?_⟩
  refine Subscript_ (thn (he.run pins s σ H _ I h) fun v s1 ⟨x, H1, I1, r1, q1⟩ => ?_)
  have st : PO X (some (.UnaryOp .USub (.Constant (.int 1) k p1) p2)) (tPart (tUn (rU fun i => .int (-i)) (tC (.int 1)))) := po_some (pe_un un_neg pe_int)
  refine wpAny_Slice (thn (po_none.run pins s1 σ H1 (fun o H2 => o = none ∧ H2 = H1) I1 ⟨rfl, rfl⟩) fun vl s2 ⟨l, H2, I2, pl, el, e2⟩ => ?_)
  subst el e2
  refine thn (po_none.run pins s2 σ H2 (fun o H3 => o = none ∧ H3 = H2) I2 ⟨rfl, rfl⟩) fun vu s3 ⟨u, H3, I3, pu, eu, e3⟩ => ?_
  subst eu e3
  refine thn (st.run pins s3 σ H3 (fun o H4 => o = some (-1) ∧ H4 = H3) I3 ⟨1, rfl, -1, rfl, rfl, rfl⟩) fun vs s4 ⟨o, H4, I4, ps, eo, e4⟩ => ?_
  subst eo e4
  cases pl
  cases pu
  have kp : ∀ b ob, s4.heap.get? b = some ob → (s4.heap.push { cls := .type "slice", data := .fields #[.none, .none, vs] }).get? b = some ob := fun b ob q => Heap.get?_push_of_some _ q
  have I5 : Inv X pins σ H4 { s4 with heap := s4.heap.push { cls := .type "slice", data := .fields #[.none, .none, vs] } } := I4.kept (t' := s4.toks) kp
  rcases q1 with ⟨a, xs, rfl, hx, q⟩ | ⟨a, xs, rfl, hx, q⟩ | ⟨z, rfl, hz, q⟩
  · cases r1
    obtain ⟨its, r, ht, hz⟩ := I5.list hx
    have hlen := r.length
    show wpAny (model X.prog X.w) X.A (subscriptTail e (.Slice none none (some (.UnaryOp .USub (.Constant (.int 1) k p1) p2)) p3) (.ref a) (.ref s4.heap.objs.size)) (EP X pins σ Q) X.xe { s4 with heap := s4.heap.push { cls := .type "slice", data := .fields #[.none, .none, vs] } }
    refine tail_any (ops := [.ref a, .ref s4.heap.objs.size]) ht.isList.typeIs (PySem.slot_list_getitem.lookup) ?_ (by with_unfolding_all rfl)
    refine wpAny_getItem_list_slice ht.isList (Heap.IsSliceOf.new _ .none .none vs) .none .none ps (by decide) ?_ (by rw [List.size_toArray]; omega)
    rw [PySem.W.krv_pick]
    refine ⟨.ref _, _, I5.laid (t' := s4.toks) (o := .lst xs.reverse) (fun b ob q => Heap.get?_push_of_some _ q) (Nat.le_refl _) ?_, rfl, q _ (I5.hok.fresh (Nat.le_refl _))⟩
    refine ⟨by rw [List.length_reverse]; omega, its.reverse, 0, r.reverse, ?_⟩
    have := Heap.get?_push_size (s4.heap.push { cls := .type "slice", data := .fields #[.none, .none, vs] }) (o := { cls := .type "list", data := .seq its.reverse.toArray }) rfl
    simpa using this
  · cases r1
    obtain ⟨its, r, ht, hz⟩ := I5.tuple hx
    have hlen := r.length
    show wpAny (model X.prog X.w) X.A (subscriptTail e (.Slice none none (some (.UnaryOp .USub (.Constant (.int 1) k p1) p2)) p3) (.ref a) (.ref s4.heap.objs.size)) (EP X pins σ Q) X.xe { s4 with heap := s4.heap.push { cls := .type "slice", data := .fields #[.none, .none, vs] } }
    refine tail_any (ops := [.ref a, .ref s4.heap.objs.size]) ht.typeIs (PyProof.Rows.slot_tuple_getitem.lookup) ?_ (by with_unfolding_all rfl)
    refine back_tuple ht (Heap.IsSliceOf.new _ .none .none vs) ps (by rw [List.size_toArray]; omega) ?_
    exact tupN_end I5 r.reverse (by rw [List.length_reverse]; exact hz) q
  · obtain ⟨t, rfl⟩ := r1
    cases ps with
    | int i u =>
      show wpAny (model X.prog X.w) X.A (subscriptTail e (.Slice none none (some (.UnaryOp .USub (.Constant (.int 1) k p1) p2)) p3) (.str (S z) t) (.ref s4.heap.objs.size)) (EP X pins σ Q) X.xe { s4 with heap := s4.heap.push { cls := .type "slice", data := .fields #[.none, .none, .int (-1) u] } }
      refine tail_any (ops := [.str (S z) t, .ref s4.heap.objs.size]) (typeIs_str _ (S z) t) slot_str_getitem.lookup ?_ (by with_unfolding_all rfl)
      refine wpAny_getItem_str_slice (l := none) (u := none) (st := some (-1, u)) ⟨_, Heap.get?_push_size _ rfl, rfl, rfl⟩ rfl ?_
      rw [back_str]
      refine ⟨?_, ⟨.str (S z.reverse), H4, I5.tok _, ⟨_, rfl⟩, q⟩⟩
      rw [S_len, List.length_reverse]; exact hz
end
end Dn

/-! Dn7 -/
set_option Elab.async false
set_option linter.all false
set_option maxRecDepth 100000
set_option maxHeartbeats 1000000
/-! Dn7: items, slices, calls, built-ins by name. -/
namespace Dn
open PySem PySem.Spec PyProof.Rows L2
section
variable {T : Tb} {Nn : Tn} {n : Nat} {N : List Str} {sc : Scope} {E : XK} {X : L2.Cx} {G : Hp} {W : Wd} {sg : L2.St} {H : Hp} {m : Mu} {r : Env}
theorem atN_eq (k : Nat) (i : Int) : atN k i = ixN k i := rfl
theorem sliN_eq (k d : Nat) (o : Option Int) : sliN k d o = HT.sIx k d o := by cases o <;> rfl
/-- what an object of the store holds -/
theorem HR.cell {K : PySem.W.Frag} (hr : HR K W G H m) {k : Nat} {a : Addr} {ds : List D} (h : W.io[k]? = some a) (e : m[k]? = some (.lst ds)) : ∃ vs, H a = some (.lst vs) ∧ RVs K W vs ds ∧ ds.length ≤ sizeLine := hr.st k a _ h e
theorem atN_lt {k : Nat} {i : Int} {j : Nat} (h : atN k i = some j) : j < k := by
  unfold atN at h
  split at h
  · split at h
    · cases h; omega
    · cases h
  · split at h
    · cases h; omega
    · cases h
abbrev RIx (K : PySem.W.Frag) : R2 := fun v u H Q => ∃ W G m x y d, HR K W G H m ∧ RD K W G v x ∧ RD K W G u y ∧ ixS m x y = some d ∧ ∀ z, RV K W z d → Q z H
theorem ix_dict {value slice : PySem.Expr} {prog : Program} {w : World} {A : Around} {E : Value → Shared → Prop} {s : Shared} {o i : Value} {Q : Value → Shared → Prop} (hT : s.TypeIs o "dict") (hs : subscripted slice false o i = operate [o, i] (getItem o i)) (h : wpAny (model prog w) A (getItem o i) Q E s) :
    wpAny (model prog w) A (subscriptTail value slice o i) Q E s := by
  unfold subscriptTail
  refine wpAny_bind ?_
  rw [getitemInPython_of_ne hT.not_modules]
  refine wpAny_bind (wpAny_specialOf hT PySem.F.slot_dict_getitem.lookup ?_)
  have fin : wpAny (model prog w) A (subscripted slice false o i) (fun r s₃ => wpAny (model prog w) A (letTemporaryGo value o r >>= fun _ => pure r) Q E s₃) E s := by
    rw [hs]
    exact wpAny_operating (wpAny_mono h (fun r s₃ h₃ => wpAny_bind (wpAny_letTemporaryGo (wpAny_pure h₃))) fun _ _ x => x)
  first
    | exact wpAny_pure (wpAny_bind fin)
    | exact wpAny_bind (wpAny_pure (wpAny_bind fin))
    | exact wpAny_bind fin
theorem ix_any (hu : X.A.units + 100 < cLine) : IxR X (RIx X.K) := by
  intro value slice pins s σ H v u vv uv Q I rx ry h hs
  obtain ⟨W, G, m, x, y, d, hr, qx, qy, e, k⟩ := h
  have lstC : ∀ {a : Addr} {vs : List V} {ds : List D}, v = .ref a → H a = some (.lst vs) → RVs X.K W vs ds → idxD (.lst ds) y = some d → wpAny (model X.prog X.w) X.A (subscriptTail value slice vv uv) (EP X pins σ Q) X.xe s := by
    intro a vs ds ev ha ra e
    cases y with
    | int i =>
      have e : (atN ds.length i).bind (ds[·]?) = some d := e
      cases e1 : atN ds.length i with
      | none => rw [e1] at e; cases e
      | some j =>
        rw [e1] at e
        obtain ⟨z, e2, q⟩ := ra.get e
        refine ix_list value slice pins s σ H v u vv uv Q I rx ry ⟨a, vs, i, z, ev, qy.int, .inl (.inl ha), ?_, k z q⟩ hs
        show (ixN vs.length i).bind _ = _
        rw [ra.length, ← atN_eq, e1]
        exact e2
    | _ => cases e
  cases x with
  | ref c =>
    obtain ⟨a, rfl, hio⟩ := qx.ref
    have e : (match m[c]? with | some (.lst ds) => idxD (.lst ds) y | _ => none) = some d := e
    cases e1 : m[c]? with
    | none => rw [e1] at e; cases e
    | some cl =>
      rw [e1] at e
      cases cl with
      | lst ds =>
        obtain ⟨vs, ha, ra, _⟩ := hr.cell hio e1
        exact lstC rfl ha ra e
      | ins _ _ => cases e
  | lst ds =>
    obtain ⟨a, vs, rfl, ha, ra, _⟩ := qx.lst hr
    exact lstC rfl ha ra e
  | tup ds =>
    cases y with
    | int i =>
      have e : (atN ds.length i).bind (ds[·]?) = some d := e
      cases e1 : atN ds.length i with
      | none => rw [e1] at e; cases e
      | some j =>
        rw [e1] at e
        obtain ⟨a, vs, rfl, ha, ra, _⟩ := qx.tup hr
        obtain ⟨z, e2, q⟩ := ra.get e
        refine ix_tup value slice pins s σ H _ u vv uv Q I rx ry ⟨a, vs, i, z, rfl, qy.int, ha, ?_, k z q⟩ hs
        show (ixN vs.length i).bind _ = _
        rw [ra.length, ← atN_eq, e1]
        exact e2
    | _ => cases e
  | str t =>
    cases y with
    | int i =>
      have e : ((atN t.length i).bind fun j => (t[j]?).map fun c => D.str [c]) = some d := e
      cases e1 : atN t.length i with
      | none => rw [e1] at e; cases e
      | some j =>
        rw [e1] at e
        obtain ⟨ex, tx⟩ := qx.str
        subst ex
        have hj := atN_lt e1
        have e : (t[j]?).map (fun c => D.str [c]) = some d := e
        rw [List.getElem?_eq_getElem hj] at e
        cases e
        refine ix_str value slice pins s σ H _ u vv uv Q I rx ry ⟨S t, i, t[j], rfl, qy.int, by rw [S_len]; exact tx.1, ?_, k _ (.str [t[j]] ⟨by simp; decide, fun c hc => ?_⟩)⟩ hs
        · show (ixN (S t).cps.toList.length i).bind _ = _
          have : (S t).cps.toList = t := by simp [S]
          rw [this, ← atN_eq, e1]
          exact List.getElem?_eq_getElem hj
        · have : c = t[j] := by simpa using hc
          subst this
          exact tx.2 _ (List.getElem_mem hj)
    | _ => cases e
  | dic b kvs =>
    cases b with
    | true => cases e
    | false =>
      have e : (if kOk y = true then lookD y kvs else none) = some d := e
      split at e
      · rename_i hk
        obtain ⟨a, us, rfl, ha, ra, _⟩ := qx.dicK hr
        obtain ⟨kk, rfl, rfl⟩ := qy.key hk
        cases rx
        rcases ra.look kk with ⟨h1, h2⟩ | ⟨d', z, h1, h2, h3⟩
        · rw [h1] at e; cases e
        · rw [h1] at e
          cases e
          have g : DGet H a (kV kk) (some z) := h2 ▸ DGet.k ha
          exact ix_dict (dict_typeIs I g) hs (d_getItem (by omega) I g ry fun w' s3 I3 rw' => ⟨z, H, I3, rw', k z h3⟩)
      · cases e
  | _ => cases e
theorem se_idx {a b : PySem.Expr} {pos : Pos} {ca cb : CE} (hp : PlainIx b) (ha : SE T Nn n N sc a ca) (hb : SE T Nn n N sc b cb) : SE T Nn n N sc (.Subscript a b pos) (.idx ca cb) := by
  intro E X x
  obtain ⟨ta, pa, fa⟩ := ha E X x
  obtain ⟨tb, pb, fb⟩ := hb E X x
  refine ⟨_, pe_ix (ix_any x.hu) pa pb hp, fun r m G W sg H Q er hr p => ?_⟩
  have p : PostR Nn X.mg X.K G W ((evE (cxE T n) ca r m).bnd fun x m1 => (evE (cxE T n) cb r m1).bnd fun y m2 => (match ixS m2 x.d y.d with | some d => .ok (R.v d) m2 | none => .st)) _ E := Post.toR p
  refine use2 fa fb er hr p fun x y m2 W2 H2 v u l2 h2 q1 q2 p2 => ?_
  cases e : ixS m2 x.d y.d with
  | none => rw [e] at p2; exact p2.elim
  | some d =>
    rw [e] at p2
    exact ⟨W2, G, m2, x.d, y.d, d, h2, q1.1, q2.1, e, fun z q => p2.ok h2 z q⟩

/-! ### slices -/
def evO_post (Nn : Tn) (mg : Str → Option Value) (K : PySem.W.Frag) (G : Hp) (W : Wd) (o : Out (Option Int)) (Q : Option Int → Hp → Prop) (E : XK) : Prop := PostR Nn mg K G W o (fun k _ _ H' => Q k H') E
def SO (T : Tb) (Nn : Tn) (n : Nat) (N : List Str) (sc : Scope) (e : Option PySem.Expr) (c : CEo) : Prop := ∀ (E : XK) (X : L2.Cx), XOk T Nn n N sc E X → ∃ t, PO X e t ∧
  ∀ {α : Type} (r : Env) (m : Mu) (G : Hp) (W : Wd) (sg : L2.St) (H : Hp) (Q : Option Int → Hp → Prop) (g : Option Int → Mu → Out α) (P : α → Mu → Wd → Hp → Prop), ER X.K W G sg r → HR X.K W G H m →
    PostR Nn X.mg X.K G W ((evO (cxE T n) c r m).bnd g) P E → (∀ o m1 W1 H1, W.Le W1 → HR X.K W1 G H1 m1 → (∀ i, o = some i → -1000000000 < i ∧ i < 1000000000) → PostR Nn X.mg X.K G W1 (g o m1) P E → Q o H1) → t sg H Q
theorem so_none : SO T Nn n N sc none .none := by
  intro E X x
  refine ⟨_, po_none, fun {α} r m G W sg H Q g P er hr p k => ?_⟩
  have p : PostR Nn X.mg X.K G W (g none m) P E := p
  exact k none m W H (Wd.Le.refl _) hr (fun i h => by cases h) p
theorem so_some {e : PySem.Expr} {c : CE} (h : SE T Nn n N sc e c) : SO T Nn n N sc (some e) (.some c) := by
  intro E X x
  obtain ⟨t, pe, f⟩ := h E X x
  refine ⟨_, po_some pe, fun {α} r m G W sg H Q g P er hr p k => ?_⟩
  have p : PostR Nn X.mg X.K G W (((evE (cxE T n) c r m).bnd fun x m1 => ((M.opt x.d.int?) m1).bnd fun i m2 => ((M.guard (decide (-1000000000 < i ∧ i < 1000000000))) m2).bnd fun _ m3 => .ok (some i) m3).bnd g) P E := p
  rw [bnd_bnd] at p
  simp only [bnd_bnd] at p
  refine use1 f er hr p fun x m1 W1 H1 v l1 h1 q1 p1 => ?_
  obtain ⟨i, e, p1⟩ := p1.opt
  have e' : x.d = .int i := by
    cases hx : x.d <;> rw [hx] at e <;> first | (cases e; rfl) | cases e
  have q := q1.1
  rw [e'] at q
  refine ⟨i, q.int, ?_⟩
  by_cases hi : -1000000000 < i ∧ i < 1000000000
  · have p1 : PostR Nn X.mg X.K G W1 (((M.guard (decide (-1000000000 < i ∧ i < 1000000000))) m1).bnd fun _ m3 => g (some i) m3) P E := p1
    rw [show decide (-1000000000 < i ∧ i < 1000000000) = true from decide_eq_true hi] at p1
    exact k (some i) m1 W1 H1 l1 h1 (fun j hj => by cases hj; exact hi) p1
  · have p1 : PostR Nn X.mg X.K G W1 (((M.guard (decide (-1000000000 < i ∧ i < 1000000000))) m1).bnd fun _ m3 => g (some i) m3) P E := p1
    rw [show decide (-1000000000 < i ∧ i < 1000000000) = false from decide_eq_false hi] at p1
    exact p1.elim
theorem RVs.cut {K : PySem.W.Frag} {vs : List V} {ds : List D} (h : RVs K W vs ds) (lo hi : Option Int) : RVs K W (cutV vs lo hi) (sliL ds lo hi) := by
  unfold cutV sliL
  rw [h.length, sliN_eq, sliN_eq]
  exact (h.drop _).take _
theorem sliL_len {α : Type} (xs : List α) (lo hi : Option Int) : (sliL xs lo hi).length ≤ xs.length := by
  unfold sliL
  rw [List.length_take, List.length_drop]
  omega
theorem cutV_all {vs : List V} {lo hi : Option Int} (h : HT.sIx vs.length 0 lo = 0 ∧ HT.sIx vs.length vs.length hi = vs.length) : cutV vs lo hi = vs := by
  unfold cutV
  rw [h.1, h.2, List.drop_zero, Nat.sub_zero, List.take_length]
abbrev RSl (K : PySem.W.Frag) : V → Option Int → Option Int → Hp → VK → Prop := fun v lo hi H Q => ∃ W G m x d, HR K W G H m ∧ RD K W G v x ∧ sliceD x lo hi = some d ∧
  ∀ W' H' z, W.Le W' → HR K W' G H' m → RR K W' G H' z ⟨match d with | .lst _ => .f | _ => .v, d⟩ → Q z H'
theorem sl_any : L2.SlR X (RSl X.K) := by
  intro pins s σ H v vv vl vu lo hi sl Q I rx hs pl pu h
  obtain ⟨W, G, m, x, d, hr, qx, e, k⟩ := h
  cases x with
  | lst ds =>
    cases e
    obtain ⟨a, vs, rfl, ha, ra, z⟩ := qx.lst hr
    refine sl_list pins s σ H _ vv vl vu lo hi sl Q I rx hs pl pu ⟨a, vs, rfl, .inl (.inl ha), fun p hp => ?_⟩
    obtain ⟨h2, q2⟩ := new_lst hr hp (ra.cut lo hi) (Nat.le_trans (sliL_len _ _ _) z)
    exact k _ _ _ (Wd.Le.refl _) h2 q2
  | tup ds =>
    cases e
    obtain ⟨a, vs, rfl, ha, ra, z⟩ := qx.tup hr
    refine sl_tupN pins s σ H _ vv vl vu lo hi sl Q I rx hs pl pu ⟨a, vs, rfl, ha, fun hw => ?_, fun p o ho hp => ?_⟩
    · have e1 := ra.cut lo hi
      rw [cutV_all hw] at e1
      have e2 : RVs X.K W vs (sliL ds lo hi) := e1
      have z2 : (sliL ds lo hi).length ≤ sizeLine := Nat.le_trans (sliL_len _ _ _) z
      rcases qx with q | ⟨_, _, q⟩
      · cases q with
        | tup h1 h2 h3 =>
          rename_i vs'
          have : vs' = vs := I.tuple_inj (Same.seqT hr.fz h1.sq) ha
          subst this
          exact k W H _ (Wd.Le.refl _) hr (.tup h1 e2 z2)
      · exact q.elim
    · obtain ⟨l2, h2, q2⟩ := new_tup hr ho hp (ra.cut lo hi) (Nat.le_trans (sliL_len _ _ _) z)
      exact k _ _ _ l2 h2 q2
  | str t =>
    cases e
    obtain ⟨ex, tx⟩ := qx.str
    subst ex
    refine sl_str pins s σ H _ vv vl vu lo hi sl Q I rx hs pl pu ⟨S t, rfl, by rw [S_len]; exact tx.1, ?_⟩
    have ec : cutS (S t) lo hi = S (sliL t lo hi) := by
      unfold cutS sliL S
      simp only [sliN_eq, Str.length]
      simp
    rw [ec]
    refine k W H _ (Wd.Le.refl _) hr (.str _ ⟨Nat.le_trans (sliL_len _ _ _) tx.1, fun c hc => tx.2 c ?_⟩)
    unfold sliL at hc
    exact List.mem_of_mem_drop (List.mem_of_mem_take hc)
  | scr ns =>
    cases e
    rcases qx with q | ⟨_, _, q⟩
    · cases q with
      | scr h1 z =>
        rename_i a
        refine sl_list pins s σ H _ vv vl vu lo hi sl Q I rx hs pl pu ⟨a, ns.map V.int, rfl, Same.seqL hr.fz h1, fun p hp => ?_⟩
        have ra : RVs X.K W (cutV (ns.map V.int) lo hi) (sliL (ns.map D.int) lo hi) := (RVs.of_ints X.K ns).cut lo hi
        have e3 : sliL (ns.map D.int) lo hi = (sliL ns lo hi).map D.int := by
          unfold sliL
          rw [List.length_map, List.map_take, List.map_drop]
        rw [e3] at ra
        obtain ⟨h2, q2⟩ := new_lst hr hp ra (by rw [List.length_map]; exact Nat.le_trans (sliL_len _ _ _) z)
        exact k _ _ _ (Wd.Le.refl _) h2 q2
    · exact q.elim
  | _ => cases e
theorem se_slice {a : PySem.Expr} {lo hi : Option PySem.Expr} {p2 pos : Pos} {ca : CE} {cl ch : CEo} (ha : SE T Nn n N sc a ca) (hl : SO T Nn n N sc lo cl) (hh : SO T Nn n N sc hi ch) : SE T Nn n N sc (.Subscript a (.Slice lo hi none p2) pos) (.slice ca cl ch) := by
  intro E X x
  obtain ⟨ta, pa, fa⟩ := ha E X x
  obtain ⟨tl, pl, fl⟩ := hl E X x
  obtain ⟨th, ph, fh⟩ := hh E X x
  refine ⟨_, pe_slice sl_any pa pl ph, fun r m G W sg H Q er hr p => ?_⟩
  have p : PostR Nn X.mg X.K G W ((evE (cxE T n) ca r m).bnd fun x m1 => (evO (cxE T n) cl r m1).bnd fun l m2 => (evO (cxE T n) ch r m2).bnd fun h m3 => ((M.opt (sliceD x.d l h)) m3).bnd fun d m4 => .ok (⟨match d with | .lst _ => .f | _ => .v, d⟩ : R) m4) _ E := Post.toR p
  refine use1 fa er hr p fun x m1 W1 H1 v l1 h1 q1 p1 => ?_
  refine fl r m1 G W1 sg H1 _ _ _ (er.mono l1 (Same.refl _)) h1 p1 fun lo m2 W2 H2 l2 h2 _ p2 => ?_
  refine fh r m2 G W2 sg H2 _ _ _ (er.mono (l1.trans l2) (Same.refl _)) h2 p2 fun hi m3 W3 H3 l3 h3 _ p3 => ?_
  obtain ⟨d, e, p3⟩ := p3.opt
  exact ⟨W3, G, m3, x.d, d, h3, q1.1.mono (l2.trans l3) (Same.refl _), e, fun W' H' z l h q => p3 W' H' l h z q⟩
theorem se_rev {a : PySem.Expr} {k : Nat} {p1 p2 p3 pos : Pos} {ca : CE} (ha : SE T Nn n N sc a ca) : SE T Nn n N sc (.Subscript a (.Slice none none (some (.UnaryOp .USub (.Constant (.int 1) k p1) p2)) p3) pos) (.rev ca) := by
  intro E X x
  obtain ⟨ta, pa, fa⟩ := ha E X x
  refine ⟨_, pe_revA pa, fun r m G W sg H Q er hr p => ?_⟩
  have p : PostR Nn X.mg X.K G W ((evE (cxE T n) ca r m).bnd fun x m1 => ((M.opt (revD x.d)) m1).bnd fun d m2 => .ok (⟨match d with | .lst _ => .f | _ => .v, d⟩ : R) m2) _ E := Post.toR p
  refine use1 fa er hr p fun x m1 W1 H1 v l1 h1 q1 p1 => ?_
  obtain ⟨d, e, p1⟩ := p1.opt
  cases hx : x.d with
  | lst ds =>
    rw [hx] at e
    cases e
    have q := q1.1
    rw [hx] at q
    obtain ⟨a, vs, rfl, ha, ra, z⟩ := q.lst h1
    refine .inl ⟨a, vs, rfl, .inl (.inl ha), fun p hp => ?_⟩
    obtain ⟨h2, q2⟩ := new_lst h1 hp ra.rev (by rw [List.length_reverse]; exact z)
    exact p1.ok h2 _ q2
  | tup ds =>
    rw [hx] at e
    cases e
    have q := q1.1
    rw [hx] at q
    obtain ⟨a, vs, rfl, ha, ra, z⟩ := q.tup h1
    refine .inr (.inl ⟨a, vs, rfl, ha, fun p o ho hp => ?_⟩)
    obtain ⟨l2, h2, q2⟩ := new_tup h1 ho hp ra.rev (by rw [List.length_reverse]; exact z)
    exact (p1.mono l2).ok h2 _ q2
  | str z =>
    rw [hx] at e
    cases e
    have q := q1.1
    rw [hx] at q
    obtain ⟨rfl, t1, t2⟩ := q.str
    exact .inr (.inr ⟨z, rfl, t1, p1.ok h1 _ (.str _ ⟨by rw [List.length_reverse]; exact t1, fun c hc => t2 c (List.mem_reverse.mp hc)⟩)⟩)
  | _ => rw [hx] at e; cases e

/-! ### calls of the text's own defs -/
theorem runG {k : Nat} {f : Addr} {fd : FuncData} {ps : List Str} {sp : Sp} {pins : List (Addr × Obj)} {σ : L2.St} {s : Shared} {Q : VK} {us : List Value} {vs : List V} (F : FnG X.prog X.w X.K X.mg X.base k f fd ps sp) (hr : Room k X.A) (hg : X.A.guards = some []) (hb : Binds X.K fd ps []) (hx : Passes (L2.CX X.prog X.w) X E)
    (I : Inv X pins σ H s) (r : Vals vs us) (h : sp vs H Q E) : wpAny (model X.prog X.w) X.A (call (.ref f) us) (EP X pins σ Q) X.xe s := by
  have hl : (us ++ []).length = ps.length := by rw [List.append_nil, ← r.length]; exact F.len _ _ _ _ h
  have hb' := hb s us I.kIn hl
  rw [List.append_nil] at hb'
  refine wpAny_call (codeAny_mono (F.run X.A X.stack s H ⟨us, []⟩ us vs Q E hr hg I.env0 hb' r h) fun rr s' hq => ?_)
  cases rr with
  | error e => exact hx pins σ H s e s' I hq
  | ok fl =>
    cases fl with
    | ret u => exact I.after hq
    | next => exact False.elim hq
    | brk => exact False.elim hq
    | cont => exact False.elim hq
theorem pe_callG {k : Nat} {f : Addr} {fd : FuncData} {ps : List Str} {sp : Sp} {g : Str} {p pos : Pos} {e : PySem.Expr} {es : List PySem.Expr} {t : TA} (F : FnG X.prog X.w X.K X.mg X.base k f fd ps sp) (hr : Room k X.A) (hgd : X.A.guards = some []) (hg : Gl X g) (hm : X.mg g = some (.ref f)) (hk : PySem.W.keepIn X.K (.ref f) = true) (hb : Binds X.K fd ps [])
    (hx : Passes (L2.CX X.prog X.w) X E) (ha : PA X (e :: es) t) (hdb : (g == ("__debug__" : Str)) = false) (he : starEach (e :: es) X.env = (false, eval e X.env) :: starEach es X.env) (hpl : (backTo pos (starEach es X.env)).any (·.1) = false) :
    PE X (.Call (.Name g p) (e :: es) [] pos) (fun σ H Q => t σ H fun vs H1 => sp vs H1 Q E) := by
  refine ⟨fun pins s σ H Q I h => ?_⟩
  refine wpAny_Call_Name_kw (ld_glob I hg hm ?_ hdb)
  refine PySem.W.callWith_K (h₀ := X.base) I.ok.mod.kin hk (thn (ha.run pos pins s σ H _ I h) fun us s1 ⟨vs, H1, I1, r, q⟩ => ⟨I1.kIn, ?_⟩) he hpl
  exact runG F hr hgd hb hx I1 r q
theorem se_call {g : Str} {p pos : Pos} {e : PySem.Expr} {es : List PySem.Expr} {f : Nat} {cs : CEs} (hf : Nn.fn[f]? = some g) (hg : sc.names.lookup g = some .globalImplicit) (h : SEs T Nn n N sc (e :: es) cs)
    (hd : (g == ("__debug__" : Str)) = false) (hs : ∀ env, starEach (e :: es) env = (false, eval e env) :: starEach es env) (hpl : ∀ env, (backTo pos (starEach es env)).any (·.1) = false) : SE T Nn n N sc (.Call (.Name g p) (e :: es) [] pos) (.call f cs) := by
  intro E X x
  obtain ⟨t, pa, fa⟩ := h E X x
  obtain ⟨a, fd, ps, e1, e2, e3, e4⟩ := x.base.fn f g hf
  refine ⟨_, pe_callG e4 x.room x.gds (x.gl hg) e1 e2 e3 x.pass pa hd (hs _) (hpl _), fun r m G W sg H Q er hr p => ?_⟩
  have p : PostR Nn X.mg X.K G W ((evEs (cxE T n) cs r m).bnd fun rs m1 => callF T n f rs m1) _ E := Post.toR p
  refine useA fa er hr p fun rs m1 W1 H1 vs l1 h1 q1 _ p1 => ?_
  exact ⟨W1, G, m1, rs, h1, q1, Post.fromR p1⟩
end
end Dn

/-! Dn8 -/
set_option Elab.async false
set_option linter.all false
set_option maxRecDepth 100000
set_option maxHeartbeats 1000000
/-! Dn8: built-ins. -/
namespace Dn
open PySem PySem.Spec PyProof.Rows L2

def notStar : PySem.Expr → Bool
  | .Starred .. => false
  | _ => true
theorem star_of {e : PySem.Expr} (h : notStar e = true) (es : List PySem.Expr) (env : PySem.Env) : starEach (e :: es) env = (false, eval e env) :: starEach es env := by
  cases e <;> first | rfl | cases h

section
variable {K : PySem.W.Frag} {W : Wd} {G H : Hp} {m : Mu} {v : V} {d : D}
theorem RVs.of_ints_d : ∀ {vs : List V} {ds : List D} {ns : List Int}, RVs K W vs ds → ints? ds = some ns → vs = ns.map V.int
  | _, [], _, .nil, e => by cases e; rfl
  | _, d :: r, ns, .cons h t, e => by
    cases d with
    | int i =>
      have e : (ints? r).map (i :: ·) = some ns := e
      cases e2 : ints? r with
      | none => rw [e2] at e; cases e
      | some ms =>
        rw [e2] at e
        cases e
        cases h
        rw [RVs.of_ints_d t e2]
        rfl
    | _ => cases e
theorem RVs.of_bools_d : ∀ {vs : List V} {ds : List D} {ns : List Bool}, RVs K W vs ds → bools? ds = some ns → vs = ns.map V.bl
  | _, [], _, .nil, e => by cases e; rfl
  | _, d :: r, ns, .cons h t, e => by
    cases d with
    | bl i =>
      have e : (bools? r).map (i :: ·) = some ns := e
      cases e2 : bools? r with
      | none => rw [e2] at e; cases e
      | some ms =>
        rw [e2] at e
        cases e
        cases h
        rw [RVs.of_bools_d t e2]
        rfl
    | _ => cases e
theorem RVs.of_strs_d : ∀ {vs : List V} {ds : List D} {ns : List Sg}, RVs K W vs ds → strs? ds = some ns → vs = (ns.map S).map V.str ∧ ∀ x ∈ ns, txtOk x
  | _, [], _, .nil, e => by cases e; exact ⟨rfl, fun x h => by cases h⟩
  | _, d :: r, ns, .cons h t, e => by
    cases d with
    | str i =>
      have e : (strs? r).map (i :: ·) = some ns := e
      cases e2 : strs? r with
      | none => rw [e2] at e; cases e
      | some ms =>
        rw [e2] at e
        cases e
        cases h with
        | str _ tx =>
          obtain ⟨h1, h2⟩ := RVs.of_strs_d t e2
          refine ⟨by rw [h1]; rfl, fun x hx => ?_⟩
          rcases List.mem_cons.mp hx with rfl | hx
          · exact tx
          · exact h2 x hx
    | _ => cases e
end

/-! ### calls of one argument -/
abbrev R1 (K : PySem.W.Frag) (g : D → Option R) : List V → Hp → VK → Prop := fun vs H Q => ∃ W G m v x r, vs = [v] ∧ HR K W G H m ∧ RD K W G v x ∧ g x = some r ∧ ∀ W' H' z, W.Le W' → HR K W' G H' m → RR K W' G H' z r → Q z H'
section
variable {T : Tb} {Nn : Tn} {n : Nat} {N : List Str} {sc : Scope} {E : XK} {X : L2.Cx} {G : Hp} {W : Wd} {sg : L2.St} {H : Hp} {m : Mu} {r : Env}
theorem se_b1B {f : B1} {id : String} {x : Str} {p pos : Pos} {e : PySem.Expr} {c : CE} (hc : ∀ {X : L2.Cx}, X.calm = true → X.A.units + 100 < cLine → X.A.guards = some [] → CallR X (.builtin id) (R1 X.K (b1D rpD f)))
    (hx : x ∈ (["len", "tuple", "sorted", "int", "repr", "sum", "all", "any", "dict", "abs", "set", "list", "min", "isinstance", "range", "enumerate", "zip", "str", "bool"] : List Str)) (hv : bootBuiltins x = some (.builtin id))
    (hn : x ≠ "__name__") (hdb : (x == ("__debug__" : Str)) = false) (hg : sc.names.lookup x = some .globalImplicit) (h : SE T Nn n N sc e c) (hs : notStar e = true) : SE T Nn n N sc (.Call (.Name x p) [e] [] pos) (.b1 f c) := by
  intro E X x'
  obtain ⟨t, pe, fa⟩ := h E X x'
  refine ⟨_, pe_callB (hc x'.calm x'.hu x'.gds) (x'.gl hg) (x'.base.free _ hx) hv (pa_cons pe pa_nil (star_of hs _ _)) hn hdb (star_of hs _ _) rfl, fun r m G W sg H Q er hr p => ?_⟩
  have p : PostR Nn X.mg X.K G W ((evE (cxE T n) c r m).bnd fun x m1 => (M.opt (b1D T.rp f x.d)) m1) _ E := Post.toR p
  refine use1 fa er hr p fun x m1 W1 H1 v l1 h1 q1 p1 => ?_
  obtain ⟨r1, e1, p1⟩ := p1.opt'
  rw [x'.base.rp] at e1
  exact ⟨W1, G, m1, v, x.d, r1, rfl, h1, q1.1, e1, fun W' H' z l h q => (p1.mono l).ok h z q⟩
theorem se_b1T {f : B1} {id : String} {x : Str} {p pos : Pos} {e : PySem.Expr} {c : CE} (hc : ∀ {X : L2.Cx}, X.calm = true → X.A.units + 100 < cLine → X.A.guards = some [] → CallR X (.type id) (R1 X.K (b1D rpD f)))
    (hx : x ∈ (["len", "tuple", "sorted", "int", "repr", "sum", "all", "any", "dict", "abs", "set", "list", "min", "isinstance", "range", "enumerate", "zip", "str", "bool"] : List Str)) (hv : bootBuiltins x = some (.type id))
    (hn : x ≠ "__name__") (hdb : (x == ("__debug__" : Str)) = false) (hg : sc.names.lookup x = some .globalImplicit) (h : SE T Nn n N sc e c) (hs : notStar e = true) : SE T Nn n N sc (.Call (.Name x p) [e] [] pos) (.b1 f c) := by
  intro E X x'
  obtain ⟨t, pe, fa⟩ := h E X x'
  refine ⟨_, pe_callTy (hc x'.calm x'.hu x'.gds) (x'.gl hg) (x'.base.free _ hx) hv (pa_cons pe pa_nil (star_of hs _ _)) hn hdb (star_of hs _ _) rfl, fun r m G W sg H Q er hr p => ?_⟩
  have p : PostR Nn X.mg X.K G W ((evE (cxE T n) c r m).bnd fun x m1 => (M.opt (b1D T.rp f x.d)) m1) _ E := Post.toR p
  refine use1 fa er hr p fun x m1 W1 H1 v l1 h1 q1 p1 => ?_
  obtain ⟨r1, e1, p1⟩ := p1.opt'
  rw [x'.base.rp] at e1
  exact ⟨W1, G, m1, v, x.d, r1, rfl, h1, q1.1, e1, fun W' H' z l h q => (p1.mono l).ok h z q⟩
variable {rp : D → Option Sg}
theorem rr_int {G : Hp} {W : Wd} {H : Hp} {K : PySem.W.Frag} (i : Int) : RR K W G H (.int i) ⟨.v, .int i⟩ := RV.int i
theorem rr_bl {G : Hp} {W : Wd} {H : Hp} {K : PySem.W.Frag} (i : Bool) : RR K W G H (.bl i) ⟨.v, .bl i⟩ := RV.bl i
theorem b_len : CallR X (.builtin "len") (R1 X.K (b1D rp .len)) := by
  intro pins s σ H xs us Q I rx h
  obtain ⟨W, G, m, v, x, r, rfl, hr, q, e, k⟩ := h
  have e : (x.len.map fun n => (⟨.v, .int (n : Nat)⟩ : R)) = some r := e
  cases x with
  | str t =>
    cases e
    obtain ⟨rfl, tx⟩ := q.str
    refine call_len_str pins s σ H _ us Q I rx ⟨S t, rfl, by rw [S_len]; exact tx.1, ?_⟩
    rw [S_len]
    exact k W H _ (Wd.Le.refl _) hr (rr_int _)
  | tup ds =>
    cases e
    obtain ⟨a, vs, rfl, ha, ra, z⟩ := q.tup hr
    refine call_len_seq pins s σ H _ us Q I rx ⟨a, vs, rfl, .inr ha, ?_⟩
    rw [ra.length]
    exact k W H _ (Wd.Le.refl _) hr (rr_int _)
  | lst ds =>
    cases e
    obtain ⟨a, vs, rfl, ha, ra, z⟩ := q.lst hr
    refine call_len_seq pins s σ H _ us Q I rx ⟨a, vs, rfl, .inl (.inl (.inl ha)), ?_⟩
    rw [ra.length]
    exact k W H _ (Wd.Le.refl _) hr (rr_int _)
  | dic t kvs =>
    cases t with
    | false =>
      cases e
      obtain ⟨a, vs, rfl, ha, ra, z⟩ := q.dicK hr
      refine call_lenD pins s σ H _ us Q I rx ⟨a, vs, rfl, ha, ?_⟩
      rw [ra.length]
      exact k W H _ (Wd.Le.refl _) hr (rr_int _)
    | true =>
      cases e
      obtain ⟨a, vs, rfl, ha, ra, z⟩ := q.dicT hr
      refine call_len_dT pins s σ H _ us Q I rx ⟨a, vs, rfl, ha, ?_⟩
      rw [ra.length]
      exact k W H _ (Wd.Le.refl _) hr (rr_int _)
  | _ => cases e
theorem signs_vals {s : Sg} {acc : Array Value} (h : ItemsOf (SignAt (S s)) acc s.length) : Vals (s.map fun c => V.str (S [c])) acc.toList := by
  refine vals_of_at (by rw [List.length_map, Array.length_toList]; exact h.1.symm) fun j x u h1 h2 => ?_
  obtain ⟨c, tk, e1, rfl⟩ := h.2 j u (by rw [← Array.getElem?_toList]; exact h2)
  have e1 : s[j]? = some c := by simpa [S] using e1
  rw [List.getElem?_map, e1] at h1
  cases h1
  exact ⟨tk, rfl⟩
theorem RVs.signs {K : PySem.W.Frag} {W : Wd} {s : Sg} (t : txtOk s) : RVs K W (s.map fun c => V.str (S [c])) (s.map fun c => .str [c]) := by
  have : ∀ l : Sg, (∀ c ∈ l, c < 1114112) → RVs K W (l.map fun c => V.str (S [c])) (l.map fun c => .str [c]) := by
    intro l
    induction l with
    | nil => exact fun _ => .nil
    | cons c r ih => exact fun h => .cons (.str [c] ⟨by show 1 ≤ sizeLine; decide, fun k hk => by rw [List.mem_singleton.mp hk]; exact h c (by simp)⟩) (ih fun k hk => h k (by simp [hk]))
  exact this s t.2
theorem b_tuple (hc : X.calm = true) : CallR X (.type "tuple") (R1 X.K (b1D rp .tuple)) := by
  intro pins s σ H xs us Q I rx h
  obtain ⟨W, G, m, v, x, r, rfl, hr, q, e, k⟩ := h
  cases x with
  | tup ds =>
    cases e
    obtain ⟨a, vs, rfl, ha, ra, z⟩ := q.tup hr
    refine call_tupN pins s σ H _ us Q I rx ⟨a, vs, rfl, .inr ⟨ha, ?_⟩⟩
    rcases q with q | ⟨_, _, q⟩
    · exact k W H _ (Wd.Le.refl _) hr q
    · exact q.elim
  | lst ds =>
    cases e
    obtain ⟨a, vs, rfl, ha, ra, z⟩ := q.lst hr
    refine call_tupN pins s σ H _ us Q I rx ⟨a, vs, rfl, .inl ⟨.inl (.inl ha), fun l o ho hl => ?_⟩⟩
    obtain ⟨l2, h2, q2⟩ := new_tup hr ho hl ra z
    exact k _ _ _ l2 h2 q2
  | str t =>
    cases e
    obtain ⟨rfl, tx⟩ := q.str
    obtain ⟨u, rfl, tk, rfl⟩ := vals1 rx
    have hz : (S t).cps.size ≤ sizeLine := by simpa [S] using tx.1
    refine call_tuple_str (I.ok.hd hc) _ _ (fun h' tk' acc kp hi => ?_) hz
    have hi : ItemsOf (SignAt (S t)) acc t.length := by simpa [S] using hi
    have I1 : Inv X pins σ H { s with heap := h', toks := tk' } := I.kept (t' := tk') kp
    have hf : H h'.objs.size = none := I1.hok.fresh (Nat.le_refl _)
    have fin := tupN_end (s := { s with heap := h', toks := tk' }) (Q := Q) I1 (signs_vals hi) (by rw [List.length_map]; exact tx.1) fun p o ho hp => (by
      obtain ⟨l2, h2, q2⟩ := new_tup (K := X.K) hr ho hp (RVs.signs tx) (by rw [List.length_map]; exact tx.1)
      exact k _ _ _ l2 h2 q2)
    rw [Array.toArray_toList] at fin
    exact fin
  | _ => cases e
theorem b_int : CallR X (.type "int") (R1 X.K (b1D rp .int)) := by
  intro pins s σ H xs us Q I rx h
  obtain ⟨W, G, m, v, x, r, rfl, hr, q, e, k⟩ := h
  cases x with
  | int i =>
    cases e
    cases q.int
    exact call_int1 pins s σ H _ us Q I rx (.inl ⟨_, rfl, k W H _ (Wd.Le.refl _) hr (rr_int _)⟩)
  | bl b =>
    cases e
    cases q.bl
    exact call_int1 pins s σ H _ us Q I rx (.inr ⟨b, rfl, k W H _ (Wd.Le.refl _) hr (show RV X.K W (.int (b2i b)) (.int (b2i b)) from .int _)⟩)
  | _ => cases e
theorem b_sum (hc : X.calm = true) : CallR X (.builtin "sum") (R1 X.K (b1D rp .sum)) := by
  intro pins s σ H xs us Q I rx h
  obtain ⟨W, G, m, v, x, r, rfl, hr, q, e, k⟩ := h
  cases x with
  | lst ds =>
    have e : ((ints? ds).map fun ns => (⟨.v, .int ns.sum⟩ : R)) = some r := e
    cases e2 : ints? ds with
    | none => rw [e2] at e; cases e
    | some ns =>
      rw [e2] at e
      cases e
      obtain ⟨a, vs, rfl, ha, ra, z⟩ := q.lst hr
      have := ra.of_ints_d e2
      subst this
      exact cr_sum hc pins s σ H _ us Q I rx ⟨a, ns, rfl, .inl (.inl ha), k W H _ (Wd.Le.refl _) hr (rr_int _)⟩
  | _ => cases e
theorem b_all (hc : X.calm = true) : CallR X (.builtin "all") (R1 X.K (b1D rp .all)) := by
  intro pins s σ H xs us Q I rx h
  obtain ⟨W, G, m, v, x, r, rfl, hr, q, e, k⟩ := h
  cases x with
  | lst ds =>
    have e : ((bools? ds).map fun ns => (⟨.v, .bl (ns.all id)⟩ : R)) = some r := e
    cases e2 : bools? ds with
    | none => rw [e2] at e; cases e
    | some ns =>
      rw [e2] at e
      cases e
      obtain ⟨a, vs, rfl, ha, ra, z⟩ := q.lst hr
      have := ra.of_bools_d e2
      subst this
      exact cr_all hc pins s σ H _ us Q I rx ⟨a, ns, rfl, .inl (.inl ha), k W H _ (Wd.Le.refl _) hr (rr_bl _)⟩
  | _ => cases e
theorem b_any (hc : X.calm = true) : CallR X (.builtin "any") (R1 X.K (b1D rp .any)) := by
  intro pins s σ H xs us Q I rx h
  obtain ⟨W, G, m, v, x, r, rfl, hr, q, e, k⟩ := h
  cases x with
  | lst ds =>
    have e : ((bools? ds).map fun ns => (⟨.v, .bl (ns.any id)⟩ : R)) = some r := e
    cases e2 : bools? ds with
    | none => rw [e2] at e; cases e
    | some ns =>
      rw [e2] at e
      cases e
      obtain ⟨a, vs, rfl, ha, ra, z⟩ := q.lst hr
      have := ra.of_bools_d e2
      subst this
      exact cr_any hc pins s σ H _ us Q I rx ⟨a, ns, rfl, .inl (.inl ha), k W H _ (Wd.Le.refl _) hr (rr_bl _)⟩
  | _ => cases e
end
end Dn

/-! Dn9 -/
set_option Elab.async false
set_option linter.all false
set_option maxRecDepth 100000
set_option maxHeartbeats 1000000
/-! Dn9: isinstance; methods of texts. -/
namespace Dn
open PySem PySem.Spec PyProof.Rows L2

inductive Tk where
  | non | bl | int | str | tup | lst | dic
  deriving DecidableEq
def Tk.nm : Tk → String
  | .non => "NoneType" | .bl => "bool" | .int => "int" | .str => "str" | .tup => "tuple" | .lst => "list" | .dic => "dict"
def D.tk : D → Option Tk
  | .non => some .non | .bl _ => some .bl | .int _ => some .int | .str _ => some .str | .tup _ => some .tup | .lst _ => some .lst | .dic _ _ => some .dic | _ => none
def Tk.is : Tk → Tk → Bool
  | .bl, .int => true
  | a, b => decide (a = b)
def Ty.tk : Ty → Option Tk
  | .int => some .int | .bool => some .bl | .str => some .str | .tup => some .tup | .lst => some .lst | .dic => some .dic | _ => none
theorem kit_tk : ∀ a b : Tk, b ≠ .non → kitB a.nm b.nm = some (a.is b) := by
  intro a b hb
  cases a <;> cases b <;> first | exact absurd rfl hb | (decide +kernel)
theorem tyB_tk {d : D} {t : Ty} {b : Bool} {k : Tk} (ht : t.tk = some k) (h : d.tyB t = some b) : ∃ a, d.tk = some a ∧ a.is k = b := by
  cases d <;> cases t <;> first | (cases ht; done) | (cases h; done) | (cases ht; cases h; exact ⟨_, rfl, rfl⟩)
theorem ty_of {K : PySem.W.Frag} {W : Wd} {G H : Hp} {m : Mu} {v : V} {d : D} {a : Tk} (hr : HR K W G H m) (q : RD K W G v d) (h : d.tk = some a) : TyX K H v (.type a.nm) := by
  cases d with
  | non => cases h; rw [q.non]; exact .base .non
  | bl b => cases h; rw [q.bl]; exact .base (.bl b)
  | int b => cases h; rw [q.int]; exact .base (.int b)
  | str b => cases h; rw [q.str.1]; exact .base (.str _)
  | tup ds =>
    cases h
    obtain ⟨a, vs, rfl, ha, _⟩ := q.tup hr
    rcases ha with (ha | ⟨o, ha⟩) | ha
    · exact .base (.tup ha)
    · exact .fTuple ha
    · obtain ⟨o, its, k, h1, h2, _⟩ := ha
      exact .kTuple h1 h2
  | lst ds =>
    cases h
    obtain ⟨a, vs, rfl, ha, _⟩ := q.lst hr
    exact .base (.lst ha)
  | dic t kvs =>
    cases h
    cases t with
    | false =>
      obtain ⟨a, us, rfl, ha, _⟩ := q.dicK hr
      exact .base (.dK ha)
    | true =>
      obtain ⟨a, us, rfl, ha, _⟩ := q.dicT hr
      exact .base (.dT ha)
  | _ => cases h

theorem PostR.gd {α : Type} {Nn : Tn} {mg : Str → Option Value} {K : PySem.W.Frag} {G : Hp} {W : Wd} {E : XK} {m : Mu} {c : Bool} {f : Unit → Mu → Out α} {P : α → Mu → Wd → Hp → Prop} (h : PostR Nn mg K G W (((M.guard c) m).bnd f) P E) : c = true ∧ PostR Nn mg K G W (f () m) P E := by
  cases c with
  | true => exact ⟨rfl, h⟩
  | false => exact h.elim
section
variable {T : Tb} {Nn : Tn} {n : Nat} {N : List Str} {sc : Scope} {E : XK} {X : L2.Cx} {G : Hp} {W : Wd} {sg : L2.St} {H : Hp} {m : Mu} {r : Env}
theorem pe_tyn {x : Str} {T : String} {p : Pos} (hg : Gl X x) (hm : X.mg x = none) (hv : bootBuiltins x = some (.type T)) (hn : x ≠ "__name__" := by decide) (hd : (x == ("__debug__" : Str)) = false := by decide) : PE X (.Name x p) (tC (.ty T)) :=
  ⟨fun pins s σ H Q I h => ld_blt I hg hm hv ⟨.ty T, H, I, rfl, h⟩ hn hd⟩
def tyName : Ty → Str
  | .int => "int" | .bool => "bool" | .str => "str" | .tup => "tuple" | .lst => "list" | .dic => "dict" | _ => "int"
theorem ty_boot {t : Ty} {k : Tk} (h : t.tk = some k) : bootBuiltins (tyName t) = some (.type k.nm) := by
  cases t <;> first | (cases h; done) | (cases h; decide +kernel)
theorem ty_mem {t : Ty} {k : Tk} (h : t.tk = some k) : tyName t ∈ (["len", "tuple", "sorted", "int", "repr", "sum", "all", "any", "dict", "abs", "set", "list", "min", "isinstance", "range", "enumerate", "zip", "str", "bool"] : List Str) := by
  cases t <;> first | (cases h; done) | (unfold tyName; decide)
theorem ty_plain {t : Ty} {k : Tk} (h : t.tk = some k) : tyName t ≠ "__name__" ∧ (tyName t == ("__debug__" : Str)) = false := by
  cases t <;> first | (cases h; done) | (unfold tyName; decide)
theorem boot_isi : bootBuiltins "isinstance" = some (.builtin "isinstance") := by decide +kernel
theorem se_isi {t : Ty} {k : Tk} {p p2 pos : Pos} {e : PySem.Expr} {c : CE} (ht : t.tk = some k) (hk : k ≠ .non) (hg : sc.names.lookup ("isinstance" : Str) = some .globalImplicit) (hg2 : sc.names.lookup (tyName t) = some .globalImplicit)
    (h : SE T Nn n N sc e c) (hs : notStar e = true) : SE T Nn n N sc (.Call (.Name "isinstance" p) [e, .Name (tyName t) p2] [] pos) (.isi t c) := by
  intro E X x'
  obtain ⟨te, pe, fa⟩ := h E X x'
  refine ⟨_, pe_callB call_isi (x'.gl hg) (x'.base.free _ (by decide)) boot_isi (pa_cons pe (pa_cons (pe_tyn (x'.gl hg2) (x'.base.free _ (ty_mem ht)) (ty_boot ht) (ty_plain ht).1 (ty_plain ht).2) pa_nil rfl) (star_of hs _ _)) (by decide) (by decide) (star_of hs _ _) rfl, fun r m G W sg H Q er hr p => ?_⟩
  have p : PostR Nn X.mg X.K G W ((evE (cxE T n) c r m).bnd fun x m1 => ((M.opt (x.d.tyB t)) m1).bnd fun b m2 => .ok (bit b) m2) _ E := Post.toR p
  refine use1 fa er hr p fun x m1 W1 H1 v l1 h1 q1 p1 => ?_
  obtain ⟨b, e1, p1⟩ := p1.opt
  obtain ⟨a, e2, e3⟩ := tyB_tk ht e1
  exact ⟨v, .ty k.nm, .type a.nm, .type k.nm, b, rfl, .ty _, ty_of h1 q1.1 e2, by rw [← e3]; exact kit_ty (kit_tk a k hk), p1.ok h1 _ (rr_bl b)⟩
theorem is_intstr (a : Tk) : kitB a.nm "int" = some (a.is .int) ∧ kitB a.nm "str" = some (a.is .str) := by
  cases a <;> decide +kernel
theorem tyB_is {d : D} {b : Bool} (h : d.tyB .intstr = some b) : ∃ a, d.tk = some a ∧ (a.is .int || a.is .str) = b := by
  cases d <;> first | (cases h; done) | (cases h; exact ⟨_, rfl, rfl⟩)
theorem se_isiIS {p p2 p3 p4 pos : Pos} {kk : Nat} {e : PySem.Expr} {c : CE} (hg : sc.names.lookup ("isinstance" : Str) = some .globalImplicit) (hg2 : sc.names.lookup ("int" : Str) = some .globalImplicit) (hg3 : sc.names.lookup ("str" : Str) = some .globalImplicit)
    (h : SE T Nn n N sc e c) (hs : notStar e = true) : SE T Nn n N sc (.Call (.Name "isinstance" p) [e, .Tuple [.Name "int" p2, .Name "str" p3] kk p4] [] pos) (.isi .intstr c) := by
  intro E X x'
  obtain ⟨te, pe, fa⟩ := h E X x'
  have b1 : bootBuiltins "int" = some (.type "int") := by decide +kernel
  have b2 : bootBuiltins "str" = some (.type "str") := by decide +kernel
  refine ⟨_, pe_callB call_isiT (x'.gl hg) (x'.base.free _ (by decide)) boot_isi (pa_cons pe (pa_cons (pe_tup (pa_cons (pe_tyn (x'.gl hg2) (x'.base.free _ (by decide)) b1) (pa_cons (pe_tyn (x'.gl hg3) (x'.base.free _ (by decide)) b2) pa_nil rfl) rfl)) pa_nil rfl) (star_of hs _ _)) (by decide) (by decide) (star_of hs _ _) rfl, fun r m G W sg H Q er hr p => ?_⟩
  have p : PostR Nn X.mg X.K G W ((evE (cxE T n) c r m).bnd fun x m1 => ((M.opt (x.d.tyB .intstr)) m1).bnd fun b m2 => .ok (bit b) m2) _ E := Post.toR p
  refine use1 fa er hr p fun x m1 W1 H1 v l1 h1 q1 p1 => ?_
  obtain ⟨b, e1, p1⟩ := p1.opt
  obtain ⟨a, e2, e3⟩ := tyB_is e1
  refine ⟨by decide, fun tp ht => ?_⟩
  have h2 : HR X.K W1 G (upd H1 tp (.tup [.ty "int", .ty "str"])) m1 := h1.new ht
  refine ⟨v, tp, [.ty "int", .ty "str"], .type a.nm, [.type "int", .type "str"], b, rfl, upd_same, .cons (.ty _) (.cons (.ty _) .nil), ty_of h2 q1.1 e2, ?_, p1.ok h2 _ (rr_bl b)⟩
  obtain ⟨i1, i2⟩ := is_intstr a
  refine kitAny_cons (kit_ty i1) (fun hi => kitAny_cons (kit_ty i2) (fun hj => ?_) fun hj => ?_) fun hi => ?_
  · rw [hi, hj] at e3
    subst e3; rfl
  · rw [hi, hj] at e3
    subst e3; rfl
  · rw [hi] at e3
    subst e3; rfl

/-! ### methods of texts -/
def plainBase : PySem.Expr → Bool
  | .Call _ [] [] _ => false
  | _ => true
theorem base_of {e : PySem.Expr} (h : plainBase e = true) (a : Str) (env : PySem.Env) : attributeBase e a env (eval e env) = eval e env := by
  cases e with
  | Call f as ks p =>
    cases as with
    | nil =>
      cases ks with
      | nil => cases h
      | cons k ks => cases f <;> rfl
    | cons x as => cases f <;> rfl
  | _ => rfl
theorem joinS_eq (s : Sg) : ∀ ss : List Sg, Txt.join (S s) (ss.map S) = S (joinS s ss) := by
  intro ss
  rw [TL.join_eq]
  refine TL.ext_tl ?_
  rw [TL.tl_join]
  show TL.joinL s ((ss.map S).map TL.tl) = joinS s ss
  have : ∀ ss : List Sg, TL.joinL s ((ss.map S).map TL.tl) = joinS s ss := by
    intro ss
    induction ss with
    | nil => rfl
    | cons a r ih =>
      cases r with
      | nil => rfl
      | cons b r =>
        show a ++ (s ++ TL.joinL s (((b :: r).map S).map TL.tl)) = a ++ s ++ joinS s (b :: r)
        rw [ih, List.append_assoc]
  exact this ss
theorem joinS_len (s : Sg) : ∀ ss : List Sg, (joinS s ss).length ≤ (ss.map List.length).sum + ss.length * s.length
  | [] => Nat.zero_le _
  | [a] => by simp [joinS]
  | a :: b :: r => by
    have ih := joinS_len s (b :: r)
    simp only [joinS, List.length_append, List.map_cons, List.sum_cons, List.length_cons, Nat.add_mul] at ih ⊢
    omega
theorem joinS_mem (s : Sg) : ∀ (ss : List Sg) (c : Nat), c ∈ joinS s ss → c ∈ s ∨ ∃ x ∈ ss, c ∈ x
  | [], c, h => by cases h
  | [a], c, h => .inr ⟨a, by simp, h⟩
  | a :: b :: r, c, h => by
    simp only [joinS, List.mem_append] at h
    rcases h with (h | h) | h
    · exact .inr ⟨a, by simp, h⟩
    · exact .inl h
    · rcases joinS_mem s (b :: r) c h with h | ⟨x, hx, h⟩
      · exact .inl h
      · exact .inr ⟨x, List.mem_cons_of_mem _ hx, h⟩
theorem S_lens (ss : List Sg) : ((ss.map S).map fun x => x.length) = ss.map List.length := by
  rw [List.map_map]
  exact List.map_congr_left fun x _ => S_len x
theorem se_join {o e : PySem.Expr} {apos pos : Pos} {a b : CE} (ho : SE T Nn n N sc o a) (he : SE T Nn n N sc e b) (hb : plainBase o = true) (hl : (apos.endLine == pos.line) = true) (hs : notStar e = true) : SE T Nn n N sc (.Call (.Attribute o "join" apos) [e] [] pos) (.join a b) := by
  intro E X x'
  obtain ⟨ta, pa, fa⟩ := ho E X x'
  obtain ⟨tb, pb, fb⟩ := he E X x'
  refine ⟨_, pe_join pa pb (star_of hs _ _) (base_of hb _ _) hl, fun r m G W sg H Q er hr p => ?_⟩
  have p : PostR Nn X.mg X.K G W ((evE (cxE T n) a r m).bnd fun x m1 => ((M.opt x.d.str?) m1).bnd fun s m1 => (evE (cxE T n) b r m1).bnd fun y m2 => ((M.opt (y.d.lst?.bind strs?)) m2).bnd fun ss m3 => ((M.guard (decide ((ss.map List.length).sum + ss.length * s.length ≤ big))) m3).bnd fun _ m4 => .ok (⟨.v, .str (joinS s ss)⟩ : R) m4) _ E := Post.toR p
  refine use1 fa er hr p fun x m1 W1 H1 v l1 h1 q1 p1 => ?_
  obtain ⟨s, e1, p1⟩ := p1.opt
  have q1' := q1.1
  rw [D.str_eq e1] at q1'
  refine ⟨⟨S s, q1'.str.1⟩, ?_⟩
  refine use1 fb (er.mono l1 (Same.refl _)) h1 p1 fun y m2 W2 H2 u l2 h2 q2 p2 => ?_
  obtain ⟨ss, e2, p2⟩ := p2.opt
  obtain ⟨ds, e3, e4⟩ := Option.bind_eq_some_iff.mp e2
  have q2' := q2.1
  rw [D.lst_eq e3] at q2'
  obtain ⟨l, vs, rfl, hl, ra, z⟩ := q2'.lst h2
  obtain ⟨ev, tx⟩ := ra.of_strs_d e4
  subst ev
  obtain ⟨hc, p2⟩ := p2.gd
  refine ⟨S s, l, ss.map S, q1'.str.1, rfl, .inl (.inl (.inl hl)), ?_, ?_⟩
  · rw [S_lens, List.length_map, S_len]; exact of_decide_eq_true hc
  · rw [joinS_eq]
    refine p2.ok h2 _ (.str _ ⟨?_, fun c hm => ?_⟩)
    · have := joinS_len s ss
      have hc := of_decide_eq_true hc
      rw [sizeLine_eq]
      unfold big at hc
      omega
    · rcases joinS_mem s ss c hm with h | ⟨t, ht, h⟩
      · exact q1'.str.2.2 c h
      · exact (tx t ht).2 c h
theorem idxOf_min {c : Nat} : ∀ {l : List Nat} {j : Nat}, l[j]? = some c → l.idxOf c ≤ j
  | [], _, h => by simp at h
  | a :: r, 0, h => by
    simp at h; subst h
    simp
  | a :: r, j + 1, h => by
    rw [List.idxOf_cons]
    cases hb : a == c with
    | true => exact Nat.zero_le _
    | false => exact Nat.succ_le_succ (idxOf_min (by simpa using h))
theorem occ_idx (s : Sg) (c : Nat) (h : s.contains c = true) : ∃ rest, Builtin.Str.occurrences (S s) (S [c]) 0 (S s).length 1 = s.idxOf c :: rest := by
  have hm : c ∈ s := by simpa using h
  have hi : s.idxOf c < s.length := List.idxOf_lt_length_iff.mpr hm
  have one : ∀ i, StrLaws.At (S s) (S [c]) (S s).length i ↔ s[i]? = some c := fun i => StrLaws.subAt_one (S s) c i
  rw [StrLaws.occ_eq]
  rcases StrLaws.occ_first (S s) (S [c]) (S s).length 1 (Nat.le_refl _) (List.range' 0 ((S s).length + 1 - 0)) 0 (fun _ _ => Nat.zero_le _) with ⟨_, hn⟩ | ⟨pre, a, post, e, h0, ha, hn⟩
  · exfalso
    refine hn (s.idxOf c) (by rw [List.mem_range']; exact ⟨s.idxOf c, by rw [S_len]; omega, by omega⟩) ((one _).mpr ?_)
    rw [List.getElem?_eq_getElem hi, List.getElem_idxOf hi]
  · have ea : a = s.idxOf c := by
      have sa : s[a]? = some c := (one a).mp ha
      have h1 : s.idxOf c ≤ a := by
        exact idxOf_min sa
      rcases Nat.lt_or_ge (s.idxOf c) a with z | z
      · exfalso
        refine hn _ (StrLaws.range'_split e _ z) ((one _).mpr ?_)
        rw [List.getElem?_eq_getElem hi, List.getElem_idxOf hi]
      · omega
    subst ea
    rw [← Array.getElem?_toList] at h0
    cases q : (forIn (List.range' 0 ((S s).length + 1 - 0)) ((#[] : Array Nat), 0) (StrLaws.occBody (S s) (S [c]) (S s).length 1)).run.fst.toList with
    | nil => rw [q] at h0; cases h0
    | cons b t =>
      rw [q] at h0
      cases h0
      exact ⟨t, rfl⟩
theorem se_mindex {o e : PySem.Expr} {apos pos : Pos} {a b : CE} (ho : SE T Nn n N sc o a) (he : SE T Nn n N sc e b) (hb : plainBase o = true) (hl : (apos.endLine == pos.line) = true) (hs : notStar e = true) : SE T Nn n N sc (.Call (.Attribute o "index" apos) [e] [] pos) (.mindex a b) := by
  intro E X x'
  obtain ⟨ta, pa, fa⟩ := ho E X x'
  obtain ⟨tb, pb, fb⟩ := he E X x'
  refine ⟨_, pe_m1 F.slot_str_index F.type_str_index mt_sindex pa pb (star_of hs _ _) (base_of hb _ _) hl, fun r m G W sg H Q er hr p => ?_⟩
  have p : PostR Nn X.mg X.K G W ((evE (cxE T n) a r m).bnd fun x m1 => ((M.opt x.d.str?) m1).bnd fun s m1 => (evE (cxE T n) b r m1).bnd fun y m2 => ((M.opt y.d.chr?) m2).bnd fun c m3 => ((M.guard (s.contains c)) m3).bnd fun _ m4 => .ok (⟨.v, .int (s.idxOf c : Nat)⟩ : R) m4) _ E := Post.toR p
  refine use1 fa er hr p fun x m1 W1 H1 v l1 h1 q1 p1 => ?_
  obtain ⟨s, e1, p1⟩ := p1.opt
  have q1' := q1.1
  rw [D.str_eq e1] at q1'
  refine ⟨⟨S s, q1'.str.1⟩, ?_⟩
  refine use1 fb (er.mono l1 (Same.refl _)) h1 p1 fun y m2 W2 H2 u l2 h2 q2 p2 => ?_
  obtain ⟨c, e2, p2⟩ := p2.opt
  have q2' := q2.1
  rw [D.chr_eq e2] at q2'
  obtain ⟨hc, p2⟩ := p2.gd
  obtain ⟨rest, eo⟩ := occ_idx s c hc
  refine ⟨S s, S [c], s.idxOf c, rest, q1'.str.1, by rw [q2'.str.1], eo, p2.ok h2 _ (.int _)⟩
theorem se_starts {o e : PySem.Expr} {apos pos : Pos} {a b : CE} (ho : SE T Nn n N sc o a) (he : SE T Nn n N sc e b) (hb : plainBase o = true) (hl : (apos.endLine == pos.line) = true) (hs : notStar e = true) : SE T Nn n N sc (.Call (.Attribute o "startswith" apos) [e] [] pos) (.mstarts a b) := by
  intro E X x'
  obtain ⟨ta, pa, fa⟩ := ho E X x'
  obtain ⟨tb, pb, fb⟩ := he E X x'
  refine ⟨_, pe_m1 F.slot_str_startswith F.type_str_startswith mt_startswith pa pb (star_of hs _ _) (base_of hb _ _) hl, fun r m G W sg H Q er hr p => ?_⟩
  have p : PostR Nn X.mg X.K G W ((evE (cxE T n) a r m).bnd fun x m1 => ((M.opt x.d.str?) m1).bnd fun s m1 => (evE (cxE T n) b r m1).bnd fun y m2 => ((M.opt y.d.str?) m2).bnd fun t m3 => .ok (bit (t.isPrefixOf s)) m3) _ E := Post.toR p
  refine use1 fa er hr p fun x m1 W1 H1 v l1 h1 q1 p1 => ?_
  obtain ⟨s, e1, p1⟩ := p1.opt
  have q1' := q1.1
  rw [D.str_eq e1] at q1'
  refine ⟨⟨S s, q1'.str.1⟩, ?_⟩
  refine use1 fb (er.mono l1 (Same.refl _)) h1 p1 fun y m2 W2 H2 u l2 h2 q2 p2 => ?_
  obtain ⟨t, e2, p2⟩ := p2.opt
  have q2' := q2.1
  rw [D.str_eq e2] at q2'
  refine ⟨S s, S t, q1'.str.1, by rw [q2'.str.1], p2.ok h2 _ ?_⟩
  have : Txt.startswith (S s) (S t) = t.isPrefixOf s := by
    unfold Txt.startswith
    rw [StrLaws.subAt_eq, S_len, S_len]
    show (decide (0 + t.length ≤ s.length) && ((s.drop 0).take t.length == t)) = t.isPrefixOf s
    rw [List.drop_zero]
    cases hp : t.isPrefixOf s with
    | true =>
      have hp : t <+: s := List.isPrefixOf_iff_prefix.mp hp
      rw [Bool.and_eq_true, decide_eq_true_eq, beq_iff_eq]
      exact ⟨by have := hp.length_le; omega, (List.prefix_iff_eq_take.mp hp).symm⟩
    | false =>
      rw [Bool.and_eq_false_iff]
      right
      cases hq : (s.take t.length == t) with
      | false => rfl
      | true =>
        have : t <+: s := List.prefix_iff_eq_take.mpr (beq_iff_eq.mp hq).symm
        rw [List.isPrefixOf_iff_prefix.mpr this] at hp
        cases hp
  rw [this]
  exact rr_bl _
end
end Dn

/-! DnF -/
set_option Elab.async false
set_option linter.all false
set_option maxRecDepth 100000
set_option maxHeartbeats 1000000
/-! DnF: dict(x) of a tuple of pairs. -/
namespace Dn
open PySem PySem.Spec PyProof.Rows L2
/-- a pair of the source: where it lies, its key and value, what they are -/
structure PQ where
  t : Addr
  ku : Value
  vu : Value
  k : Key
  z : V
  d : D
section
variable {X : L2.Cx} {pins : List (Addr × Obj)} {σ : L2.St} {H G : Hp} {s : Shared} {W : Wd} {m : Mu}
theorem tup_obj {a : Addr} {xs : List V} (I : Inv X pins σ H s) (h : SqN X.K H a xs) : ∃ its, Vals xs its ∧ PlainSeq "tuple" s.heap a its.toArray ∧ xs.length ≤ sizeLine := by
  rcases h with ⟨o, e, z⟩ | ⟨o, its, n, hk, hc, z, hd, hs, r⟩
  · obtain ⟨ho, hz, its, r, o', ho', hc, n, hd⟩ := (show ObjOk X.prog X.w H s.heap a (.frz o (.tup xs)) from I.hok a _ e)
    rw [ho] at ho'
    cases ho'
    exact ⟨its, r, ⟨o, n, ho, hc, z, hd⟩, hz⟩
  · refine ⟨its.toList, r, ⟨o, n, I.kIn a o hk, hc, z, by simpa using hd⟩, ?_⟩
    have z2 : xs.length = its.size := by simpa using r.length
    rw [z2]; exact hs
def PQ.Ok (X : L2.Cx) (W : Wd) (s : Shared) (q : PQ) : Prop := IsTup s.heap q.t #[q.ku, q.vu] ∧ keyIs q.k q.ku = true ∧ RelV q.z q.vu ∧ RV X.K W q.z q.d
abbrev PQ.dd (q : PQ) : D := .tup [kD q.k, q.d]
theorem pq_of (I : Inv X pins σ H s) (hr : HR X.K W G H m) : ∀ {ds : List D} {vs : List V} {us : List Value} {acc kvs : List (D × D)}, RVs X.K W vs ds → Vals vs us → ds.foldl (fun acc p => match acc, p with | some kvs, .tup [k, v] => if kOk k then some (putD k v kvs) else none | _, _ => none) (some acc) = some kvs →
    ∃ L : List PQ, us = L.map (fun q => .ref q.t) ∧ ds = L.map PQ.dd ∧ (∀ q ∈ L, q.Ok X W s) ∧ kvs = L.foldl (fun a q => putD (kD q.k) q.d a) acc := by
  have dead : ∀ ds : List D, ds.foldl (fun acc p => match acc, p with | some kvs, .tup [k, v] => if kOk k then some (putD k v kvs) else none | _, _ => none) (none : Option (List (D × D))) = none := by
    intro ds
    induction ds with
    | nil => rfl
    | cons d r ih => exact ih
  intro ds
  induction ds with
  | nil =>
    intro vs us acc kvs r x e
    cases r
    cases x
    cases e
    exact ⟨[], rfl, rfl, by simp, rfl⟩
  | cons d r ih =>
    intro vs us acc kvs q x e
    cases q with
    | cons q qs =>
      cases x with
      | cons rx xs =>
        rw [List.foldl_cons] at e
        have stuck : ∀ {o : Option (List (D × D))}, o = none → r.foldl (fun acc p => match acc, p with | some kvs, .tup [k, v] => if kOk k then some (putD k v kvs) else none | _, _ => none) o = some kvs → False := fun h e => by
          rw [h, dead] at e; cases e
        cases d with
        | tup ws =>
          match ws, q, e with
          | [], _, e => exact (stuck rfl e).elim
          | [_], _, e => exact (stuck rfl e).elim
          | _ :: _ :: _ :: _, _, e => exact (stuck rfl e).elim
          | [k, w], q, e =>
            by_cases hk : kOk k = true
            · have e : r.foldl (fun acc p => match acc, p with | some kvs, .tup [k, v] => if kOk k then some (putD k v kvs) else none | _, _ => none) (if kOk k = true then some (putD k w acc) else none) = some kvs := e
              rw [if_pos hk] at e
              obtain ⟨L, e1, e2, ok, e3⟩ := ih qs xs e
              obtain ⟨a, zs, rfl, ha, rz, _⟩ := RD.tup hr (.inl q)
              cases rz with
              | cons q1 rz =>
                cases rz with
                | @cons y2 _ _ _ q2 rz =>
                  cases rz
                  obtain ⟨k', rfl, rfl⟩ := RD.key (G := G) (.inl q1) hk
                  obtain ⟨its, rv, ht, _⟩ := I.tuple ha
                  obtain ⟨u, y, ei, ru, ry⟩ := vals2 rv
                  subst ei
                  cases rx
                  refine ⟨⟨a, u, y, k', y2, w⟩ :: L, by rw [e1]; rfl, by rw [e2]; rfl, fun p hp => ?_, e3⟩
                  rcases List.mem_cons.mp hp with rfl | hp
                  · exact ⟨ht, kV_is (P := X.prog) (w := X.w) ru, ry, q2⟩
                  · exact ok p hp
            · have e : r.foldl (fun acc p => match acc, p with | some kvs, .tup [k, v] => if kOk k then some (putD k v kvs) else none | _, _ => none) (if kOk k = true then some (putD k w acc) else none) = some kvs := e
              rw [if_neg hk] at e
              exact (stuck rfl e).elim
        | _ => exact (stuck rfl e).elim
end
/-! ### the table -/
theorem putK_new {k : Key} {z : V} {us : List (Key × V)} (h : k ∉ us.map (·.1)) : putK us k z = us ++ [(k, z)] := by
  unfold putK
  rw [if_neg]
  intro e
  obtain ⟨p, hp, e⟩ := List.any_eq_true.mp e
  exact h (List.mem_map.mpr ⟨p, hp, of_decide_eq_true e⟩)
theorem putK_same {k : Key} {z : V} : ∀ {us : List (Key × V)}, k ∉ us.map (·.1) → us.map (fun kv => if kv.1 = k then (kv.1, z) else kv) = us
  | [], _ => rfl
  | p :: r, h => by
    rw [List.map_cons, List.mem_cons, not_or] at h
    rw [List.map_cons, if_neg fun e => h.1 e.symm, putK_same h.2]
theorem rvk_put {K : PySem.W.Frag} {W : Wd} {k : Key} {z : V} {d : D} (q : RV K W z d) : ∀ {us : List (Key × V)} {kvs : List (D × D)}, RVk K W us kvs → (us.map (·.1)).Nodup → RVk K W (putK us k z) (putD (kD k) d kvs) ∧ ((putK us k z).map (·.1)).Nodup ∧ ∀ j, j ∈ (putK us k z).map (·.1) → j = k ∨ j ∈ us.map (·.1)
  | _, _, .nil, _ => ⟨.cons q .nil, by simp [putK], fun j hj => .inl (by simpa [putK] using hj)⟩
  | _, _, .cons (k := j) (d := w) (v := y) (kvs := us) (ds := kvs) q2 r, nd => by
    rw [List.map_cons, List.nodup_cons] at nd
    by_cases e : j = k
    · subst e
      have e1 : putK ((j, y) :: us) j z = (j, z) :: us := by
        unfold putK
        rw [if_pos (by simp), List.map_cons, if_pos rfl, putK_same nd.1]
      have e2 : putD (kD j) d ((kD j, w) :: kvs) = (kD j, d) :: kvs := by
        unfold putD
        rw [if_pos (by rw [eq_kD]; simp)]
      rw [e1, e2]
      exact ⟨.cons q r, by rw [List.map_cons, List.nodup_cons]; exact nd, fun i hi => .inr hi⟩
    · obtain ⟨h1, h2, h3⟩ := rvk_put q r nd.2
      have e1 : putK ((j, y) :: us) k z = (j, y) :: putK us k z := by
        unfold putK
        rw [List.any_cons, decide_eq_false e, Bool.false_or, List.map_cons, if_neg e]
        split <;> rfl
      have e2 : putD (kD k) d ((kD j, w) :: kvs) = (kD j, w) :: putD (kD k) d kvs := by
        rw [putD, if_neg (by rw [eq_kD]; simpa using e)]
      rw [e1, e2]
      refine ⟨.cons q2 h1, ?_, fun i hi => ?_⟩
      · rw [List.map_cons, List.nodup_cons]
        refine ⟨fun hj => ?_, h2⟩
        rcases h3 _ hj with z | z
        · exact e z
        · exact nd.1 z
      · rw [List.map_cons] at hi
        rcases List.mem_cons.mp hi with z | z
        · exact .inr (by rw [z]; exact List.mem_cons_self)
        · rcases h3 _ z with z | z
          · exact .inl z
          · exact .inr (List.mem_cons_of_mem _ z)
theorem rvk_fold {X : L2.Cx} {s : Shared} {W : Wd} : ∀ {L : List PQ} {us : List (Key × V)} {kvs : List (D × D)}, (∀ q ∈ L, q.Ok X W s) → RVk X.K W us kvs → (us.map (·.1)).Nodup → RVk X.K W (mergeK us (L.map fun q => (q.k, q.z))) (L.foldl (fun a q => putD (kD q.k) q.d a) kvs)
  | [], _, _, _, r, _ => r
  | q :: L, _, _, ok, r, nd => by
    obtain ⟨h1, h2, _⟩ := rvk_put (ok q List.mem_cons_self).2.2.2 (k := q.k) r nd
    exact rvk_fold (L := L) (fun p hp => ok p (List.mem_cons_of_mem _ hp)) h1 h2
theorem RVk.len {K : PySem.W.Frag} {W : Wd} : ∀ {us : List (Key × V)} {kvs : List (D × D)}, RVk K W us kvs → us.length = kvs.length
  | _, _, .nil => rfl
  | _, _, .cons _ r => by rw [List.length_cons, List.length_cons, r.len]
section
variable {X : L2.Cx} {rp : D → Option Sg}
theorem kv_of {W : Wd} {s : Shared} : ∀ {L : List PQ}, (∀ q ∈ L, q.Ok X W s) → KV (L.map fun q => (q.k, q.z)) (L.map fun q => (q.k, q.vu))
  | [], _ => .nil
  | q :: L, ok => .cons ⟨rfl, (ok q List.mem_cons_self).2.2.1⟩ (kv_of fun p hp => ok p (List.mem_cons_of_mem _ hp))
theorem b_dict (hc : X.calm = true) : CallR X (.type "dict") (R1 X.K (b1D rp .dict)) := by
  intro pins s σ H xs us Q I rx h
  obtain ⟨W, G, m, v, x, r, rfl, hr, q, e, k⟩ := h
  cases x with
  | tup ds =>
    have e : (dicOf ds).map (fun kvs => (⟨.f, .dic false kvs⟩ : R)) = some r := e
    cases e1 : dicOf ds with
    | none => rw [e1] at e; cases e
    | some kvs =>
      rw [e1] at e
      cases e
      obtain ⟨a, vs, rfl, ha, ra, z⟩ := q.tupN hr
      obtain ⟨u, rfl, ru⟩ := vals1 rx
      cases ru
      obtain ⟨its, rv, pl, hz⟩ := tup_obj I ha
      obtain ⟨L, rfl, rfl, ok, rfl⟩ := pq_of I hr ra rv e1
      have fold := rvk_fold ok RVk.nil (by exact List.nodup_nil)
      rw [List.length_map] at z
      have at_ : ∀ (j : Nat) (ku vu : Value), (L.map fun q => (q.ku, q.vu))[j]? = some (ku, vu) → ∃ q, L[j]? = some q ∧ q ∈ L ∧ q.ku = ku ∧ q.vu = vu := fun j ku vu hj => by
        rw [List.getElem?_map] at hj
        cases e : L[j]? with
        | none => rw [e] at hj; cases hj
        | some q =>
          rw [e] at hj
          cases hj
          exact ⟨q, rfl, List.mem_of_getElem? e, rfl, rfl⟩
      refine PySem.call_dict_pairs (knd := mixKind X.prog X.w) (kvs := L.map fun q => (q.k, q.vu)) (PairArg.tuple a (L.map fun q => Value.ref q.t).toArray (fun j => (L[j]?.map (·.t)).getD 0) (L.map fun q => (q.ku, q.vu))) (I.ok.hd hc) ⟨pl, ?_, fun j ku vu hj => ?_⟩ ⟨?_, fun j ku vu hj => ?_⟩ (by rw [List.length_map]; exact z) fun h' tk hd' kp => ?_
      · rw [List.size_toArray, List.length_map, List.length_map]
      · obtain ⟨q, e, hq, rfl, rfl⟩ := at_ j ku vu hj
        refine ⟨?_, .inl ?_⟩
        · rw [List.getElem?_toArray, List.getElem?_map, e]
          show some (Value.ref q.t) = some (Value.ref ((L[j]?.map (·.t)).getD 0))
          rw [e]; rfl
        · dsimp only
          rw [e]
          exact (ok q hq).1
      · rw [List.length_map, List.length_map]
      · obtain ⟨q, e, hq, rfl, rfl⟩ := at_ j ku vu hj
        exact ⟨q.k, by rw [List.getElem?_map, e]; rfl, (ok q hq).2.1⟩
      · have hm : (s.heap.objs.size == sysModules) = false := beq_eq_false_iff_ne.mpr (Nat.ne_of_gt I.big)
        have ll : (mergeK [] (L.map fun q => (q.k, q.z))).length ≤ sizeLine := by
          refine Nat.le_trans (length_mergeK _ []) ?_
          rw [List.length_nil, Nat.zero_add, List.length_map]
          exact z
        have hf : H s.heap.objs.size = none := I.hok.fresh (Nat.le_refl _)
        obtain ⟨f1, f2, f3⟩ := hr.fresh hf
        have J := I.laid (t' := tk) (fun b o e => kp b o (fun z => nomatch z) e) (Nat.le_refl _) (show ObjOk X.prog X.w (upd H s.heap.objs.size (.dK (mergeK [] (L.map fun q => (q.k, q.z))))) h' s.heap.objs.size (.dK (mergeK [] (L.map fun q => (q.k, q.z)))) from ⟨ll, hm, merged [] (L.map fun q => (q.k, q.vu)), KV.merge (kv_of ok) .nil, hd'⟩)
        refine ⟨.ref s.heap.objs.size, _, J, rfl, k _ _ _ (Wd.Le.refl _) (hr.new hf) ?_⟩
        exact ⟨_, rfl, ⟨_, upd_same, fold, by rw [← fold.len]; exact ll⟩, f1, f2, f3⟩
  | _ => cases e
end
/-! ### d.get(k, x) -/
section
variable {T : Tb} {Nn : Tn} {n : Nat} {N : List Str} {sc : Scope}
theorem se_mget {o e f : PySem.Expr} {apos pos : Pos} {a b c : CE} (ho : SE T Nn n N sc o a) (he : SE T Nn n N sc e b) (hf : SE T Nn n N sc f c) (hb : plainBase o = true) (hl : (apos.endLine == pos.line) = true) (hs : notStar e = true) (hs2 : notStar f = true) :
    SE T Nn n N sc (.Call (.Attribute o "get" apos) [e, f] [] pos) (.mget a b c) := by
  intro E X x'
  obtain ⟨ta, pa, fa⟩ := ho E X x'
  obtain ⟨tb, pb, fb⟩ := he E X x'
  obtain ⟨tc, pc, fc⟩ := hf E X x'
  have m2 : M2 X o "get" apos e f pos := ⟨base_of hb _ _, by rw [star_of hs, star_of hs2]; rfl, hl, by rw [star_of hs, star_of hs2]; rfl⟩
  refine ⟨_, pe_dget2 (by have := x'.hu; omega) pa pb pc m2, fun r m G W sg H Q er hr p => ?_⟩
  have p : PostR Nn X.mg X.K G W ((evE (cxE T n) a r m).bnd fun x m1 => ((M.opt x.d.dicF?) m1).bnd fun kvs m1 => (evE (cxE T n) b r m1).bnd fun y m2 => (evE (cxE T n) c r m2).bnd fun z m3 => ((M.guard (kOk y.d)) m3).bnd fun _ m4 => ((keepM z) m4).bnd fun d m5 => .ok (⟨.v, (lookD y.d kvs).getD d⟩ : R) m5) _ E := Post.toR p
  refine use1 fa er hr p fun x m1 W1 H1 v l1 h1 q1 p1 => ?_
  obtain ⟨kvs, e1, p1⟩ := p1.opt
  have q1' := q1.1
  have ex : x.d = .dic false kvs := by
    cases hx : x.d with
    | dic t ds =>
      rw [hx] at e1
      cases t with
      | false => cases e1; rfl
      | true => cases e1
    | _ => rw [hx] at e1; cases e1
  rw [ex] at q1'
  obtain ⟨a0, us, rfl, ha, rk, z⟩ := q1'.dicK h1
  refine ⟨a0, rfl, .inl ⟨us, .inl ha⟩, ?_⟩
  refine use1 fb (er.mono l1 (Same.refl _)) h1 p1 fun y m2 W2 H2 u l2 h2 q2 p2 => ?_
  refine use1 fc (er.mono (l1.trans l2) (Same.refl _)) h2 p2 fun w m3 W3 H3 t l3 h3 q3 p3 => ?_
  obtain ⟨hk, p3⟩ := p3.gd
  have p3 : PostR Nn X.mg X.K G W3 (((M.opt w.keep) m3).bnd fun d m5 => .ok (⟨.v, (lookD y.d kvs).getD d⟩ : R) m5) _ E := p3
  obtain ⟨d, e2, p3⟩ := p3.opt
  obtain ⟨k, ek, rfl⟩ := q2.1.key hk
  obtain ⟨a1, us1, ea, ha3, rk3, _⟩ := (q1'.mono (l2.trans l3) (Same.refl _)).dicK h3
  cases ea
  rw [ek] at p3
  rcases RVk.look k rk3 with ⟨f1, f2⟩ | ⟨d', zv, f1, f2, f3⟩
  · refine ⟨none, f2 ▸ DGet.k ha3, ?_⟩
    rw [f1] at p3
    exact p3.ok h3 _ (q3.2 d e2).2
  · refine ⟨some zv, f2 ▸ DGet.k ha3, ?_⟩
    rw [f1] at p3
    exact p3.ok h3 _ f3
end
end Dn

/-! DnQ -/
set_option Elab.async false
set_option linter.all false
set_option maxRecDepth 100000
set_option maxHeartbeats 1000000
/-! DnQ: sorted(x) of a list or a tuple of data that are alike. -/
namespace Dn
open PySem PySem.Spec PyProof.Rows L2
section
variable {P : Program} {w : World} {A : Around} {E : Value → Shared → Prop} {s : Shared}
/-- what sorted takes out of a tuple -/
theorem collect_tup {l : Addr} {vs : List Value} {Q : List Value → Shared → Prop} (hl : IsTup s.heap l vs.toArray) (hz : vs.length ≤ sizeLine)
    (h : Q vs { s with heap := (s.heap.push (seqObj "list" #[] 0)).update s.heap.objs.size (Obj.mapSeq (· ++ vs.toArray)) }) : wpAny (model P w) A (collect (.ref l)) Q E s := by
  obtain ⟨o, ho, hc, n, hd⟩ := hl
  have g0 : (s.heap.push (seqObj "list" #[] 0)).get? s.heap.objs.size = some (seqObj "list" #[] 0) := Heap.get?_push_size _ rfl
  have ho2 := Heap.get?_push_of_some (seqObj "list" #[] 0) ho
  have fit : (#[] ++ vs.toArray : Array Value).size ≤ sizeLine + 1 := by
    simp only [Array.size_append, List.size_toArray, List.length_nil]
    omega
  unfold collect
  refine wpAny_bind (wpAny_runValue (codeAny_builtin entry_proto_collect' ?_))
  show wpAny _ _ (newList [] >>= fun L => again (.builtin "list.__iadd__" ⟨[L, .ref l], []⟩)) _ _ s
  refine wpAny_bind (wpAny_newList (wpAny_pure ⟨Code.quiet_builtin _ (by decide +kernel), codeAny_builtin entry_list_iadd' ?_⟩))
  show wpAny _ _ (Builtin.List.listExtendWith (.ref s.heap.objs.size) (.ref l) (.ref s.heap.objs.size)) _ _ { s with heap := s.heap.push (seqObj "list" #[] 0) }
  unfold Builtin.List.listExtendWith
  refine wpAny_bind (wpAny_typeOf (T := "tuple") ⟨o, ho2, hc⟩ ?_)
  rw [if_pos (by rw [show (Value.type "tuple" == Value.type "tuple") = true from rfl]; simp)]
  refine wpAny_bind (listItems_at ho2 hd (wpAny_bind (listItems_at (xs := #[]) (n := 0) g0 rfl ?_)))
  rw [if_neg (by simp)]
  refine wpAny_bind (listUpdate_at (xs := #[]) (n := 0) g0 rfl (wpAny_pure ?_) (Nat.zero_le _) fit)
  show wpAny (model P w) A (load s.heap.objs.size >>= fun o => match o.data with
      | .seq xs _ => pure xs.toList
      | _ => unsupported "internal:collect") Q E { s with heap := (s.heap.push (seqObj "list" #[] 0)).update s.heap.objs.size (Obj.mapSeq (· ++ vs.toArray)) }
  refine wpAny_bind (wpAny_load (get?_update_seq g0 _) ?_)
  have e : ((#[] : Array Value) ++ vs.toArray).toList = vs := by simp
  show wpAny _ _ (pure ((#[] : Array Value) ++ vs.toArray).toList) Q E _
  rw [e]
  exact wpAny_pure h
/-- sorted(t): list.sort on a new list of t's items -/
theorem sorted_tupOf {l : Addr} {vs : List Value} {Q : Value → Shared → Prop} (hl : IsTup s.heap l vs.toArray) (hz : vs.length ≤ sizeLine)
    (body : ∀ E' : Value → Shared → Prop, wpAny (model P w) A.in1.in1 (Builtin.«list.sort» ⟨[.ref (s.heap.objs.size + 1)], []⟩) (fun f s' => f = .done (.ret .none) ∧ Q (.ref (s.heap.objs.size + 1)) s') E' { s with heap := PySem.W.copyHeap s.heap vs }) :
    wpAny (model P w) A (call (.builtin "sorted") [.ref l]) Q E s := by
  refine Calls.call_function_entry kind_sorted plain_sorted entry_sorted (args_sorted1 _) ?_
  unfold Builtin.«sorted»
  refine wpAny_bind (m := checkCount "sorted" 1 1 _) (wpAny_pure (wpAny_bind (collect_tup hl hz (wpAny_bind (wpAny_newList ?_ hz)))))
  have hs : ((s.heap.push (seqObj "list" #[] 0)).update s.heap.objs.size (Obj.mapSeq (· ++ vs.toArray))).objs.size = s.heap.objs.size + 1 := by
    rw [Heap.size_update, size_push']
  show wpAny _ _ _ _ _ { s with heap := PySem.W.copyHeap s.heap vs }
  rw [hs]
  refine wpAny_bind (wpAny_holding (wpAny_call_entry slot_list_sort ⟨_, PySem.W.copyHeap_at s.heap vs, rfl⟩ entry_list_sort (wpAny_mono (body _) ?_ fun _ _ e => e) (args_list_sort _)))
  rintro f s' ⟨rfl, hq⟩
  exact ⟨_, rfl, wpAny_pure ⟨_, rfl, hq⟩⟩
end
/-! ### the order -/
section
open PySem.W
mutual
theorem alike_toP : ∀ a b : D, alikeD a b = true → PySem.W.alike (toP a) (toP b) = true
  | .non, b, h => by cases b <;> first | rfl | cases h
  | .bl _, b, h => by cases b <;> first | rfl | cases h
  | .int _, b, h => by cases b <;> first | rfl | cases h
  | .str _, b, h => by cases b <;> first | rfl | cases h
  | .tup xs, .tup ys, h => by
    simp only [toP, PySem.W.alike]
    exact alikes_toP xs ys (by simpa only [alikeD] using h)
  | .lst xs, .lst ys, h => by
    simp only [toP, PySem.W.alike]
    exact alikes_toP xs ys (by simpa only [alikeD] using h)
  | .tup _, .non, h | .tup _, .bl _, h | .tup _, .int _, h | .tup _, .str _, h | .tup _, .lst _, h | .tup _, .dic _ _, h | .tup _, .ref _, h | .tup _, .scr _, h => by simp [alikeD] at h
  | .lst _, .non, h | .lst _, .bl _, h | .lst _, .int _, h | .lst _, .str _, h | .lst _, .tup _, h | .lst _, .dic _ _, h | .lst _, .ref _, h | .lst _, .scr _, h => by simp [alikeD] at h
  | .dic _ _, b, h => by cases b <;> simp [alikeD] at h
  | .ref _, b, h => by cases b <;> simp [alikeD] at h
  | .scr _, b, h => by cases b <;> simp [alikeD] at h
theorem alikes_toP : ∀ a b : List D, alikeDs a b = true → PySem.W.alikeAll (toPs a) (toPs b) = true
  | [], b, _ => by cases b <;> simp only [toPs, PySem.W.alikeAll]
  | x :: xs, [], h => by simp [alikeDs] at h
  | x :: xs, y :: ys, h => by
    simp only [alikeDs, Bool.and_eq_true] at h
    simp only [toPs, PySem.W.alikeAll, Bool.and_eq_true]
    exact ⟨alike_toP x y h.2, alikes_toP xs ys h.1⟩
end
mutual
theorem lt_toP : ∀ a b : D, alikeD a b = true → a.pure = true → b.pure = true → dataLt (toP a) (toP b) = (ltD a b).getD false
  | .non, b, h, _, _ => by
    cases b with
    | non =>
      have e : ltD .non .non = none := by simp [ltD]
      rw [e]
      show PyProof.Rows.lexLt itemOrd (keyToks (toP .non)) (keyToks (toP .non)) = false
      simp only [toP, keyToks]
      rfl
    | _ => cases h
  | .bl x, b, h, _, _ => by
    cases b with
    | bl y =>
      simp only [toP, dataLt_bool, ltD, Option.getD_some]
      cases x <;> cases y <;> decide
    | _ => cases h
  | .int _, b, h, _, _ => by cases b <;> first | (simp only [toP, dataLt_int, ltD, Option.getD_some]; done) | cases h
  | .str _, b, h, _, _ => by cases b <;> first | (simp only [toP, dataLt_str, ltD, Option.getD_some, S]; done) | cases h
  | .tup xs, .tup ys, h, p, q => by
    simp only [toP, dataLt_tuple, ltD]
    exact lts_toP xs ys (by simpa only [alikeD] using h) (by simpa [D.pure] using p) (by simpa [D.pure] using q)
  | .lst xs, .lst ys, h, p, q => by
    simp only [toP, dataLt_list, ltD]
    exact lts_toP xs ys (by simpa only [alikeD] using h) (by simpa [D.pure] using p) (by simpa [D.pure] using q)
  | .tup _, .non, h, _, _ | .tup _, .bl _, h, _, _ | .tup _, .int _, h, _, _ | .tup _, .str _, h, _, _ | .tup _, .lst _, h, _, _ | .tup _, .dic _ _, h, _, _ | .tup _, .ref _, h, _, _ | .tup _, .scr _, h, _, _ => by simp [alikeD] at h
  | .lst _, .non, h, _, _ | .lst _, .bl _, h, _, _ | .lst _, .int _, h, _, _ | .lst _, .str _, h, _, _ | .lst _, .tup _, h, _, _ | .lst _, .dic _ _, h, _, _ | .lst _, .ref _, h, _, _ | .lst _, .scr _, h, _, _ => by simp [alikeD] at h
  | .dic _ _, b, h, _, _ => by cases b <;> simp [alikeD] at h
  | .ref _, b, h, _, _ => by cases b <;> simp [alikeD] at h
  | .scr _, b, h, _, _ => by cases b <;> simp [alikeD] at h
theorem lts_toP : ∀ a b : List D, alikeDs a b = true → pureAll a = true → pureAll b = true → PyProof.Rows.lexLt itemOrd (keyToksAll (toPs a)) (keyToksAll (toPs b)) = (ltDs a b).getD false
  | [], [], _, _, _ => by simp only [toPs, keyToksAll]; rfl
  | [], y :: ys, _, _, _ => by
    simp only [toPs, keyToksAll, ltDs, Option.getD_some]
    rw [lex_atom (by decide)]
    rfl
  | x :: xs, [], h, _, _ => by simp [alikeDs] at h
  | x :: xs, y :: ys, h, p, q => by
    simp only [alikeDs, Bool.and_eq_true] at h
    simp only [pureAll, Bool.and_eq_true] at p q
    simp only [toPs, ltDs]
    rw [dataLt_cons (alike_toP x y h.2), toP_eqv x y p.1 q.1]
    by_cases e : eqD x y = true
    · rw [if_pos e, if_pos e]; exact lts_toP xs ys h.1 p.2 q.2
    · rw [if_neg e, if_neg e]; exact lt_toP x y h.2 p.1 q.1
end
theorem okSort_iff {ds : List D} (h : okSort ds = true) : (∀ a ∈ ds, a.eqOk = true) ∧ (∀ a ∈ ds, ∀ b ∈ ds, alikeD a b = true) ∧ Sortable (ds.map toP) := by
  unfold okSort at h
  rw [Bool.and_eq_true, Bool.or_eq_true, List.all_eq_true] at h
  obtain ⟨h1, h2⟩ := h
  refine ⟨fun a ha => ?_, fun a ha b hb => ?_, ?_⟩
  · have := h1 a ha; rw [Bool.and_eq_true] at this; exact this.1
  · have := h1 a ha; rw [Bool.and_eq_true, List.all_eq_true] at this; exact this.2 b hb
  · rcases h2 with h2 | h2
    · refine .inl fun d hd => ?_
      obtain ⟨a, ha, rfl⟩ := List.mem_map.mp hd
      have := List.all_eq_true.mp h2 a ha
      split at this
      · rename_i x r
        exact ⟨toP x, toPs r, by simp only [toP, toPs]⟩
      · cases this
    · refine .inr fun d hd => ?_
      obtain ⟨a, ha, rfl⟩ := List.mem_map.mp hd
      have := List.all_eq_true.mp h2 a ha
      have ok : a.eqOk = true := by have := h1 a ha; rw [Bool.and_eq_true] at this; exact this.1
      have pu := (eqOk_iff.mp ok).1
      cases a with
      | tup _ => cases this
      | non => cases this
      | dic _ _ => simp [D.pure] at pu
      | ref _ => simp [D.pure] at pu
      | scr _ => simp [D.pure] at pu
      | _ => exact ⟨by simp [toP], by simp [toP]⟩
theorem le_toP {ds : List D} (h : okSort ds = true) {a b : D} (ha : a ∈ ds) (hb : b ∈ ds) : dataLe false toP a b = leD a b := by
  obtain ⟨h1, h2, _⟩ := okSort_iff h
  rw [dataLe_eq]
  show (!dataLt (toP b) (toP a)) = leD a b
  rw [lt_toP b a (h2 b hb a ha) (eqOk_iff.mp (h1 b hb)).1 (eqOk_iff.mp (h1 a ha)).1]
  rfl
theorem sortT_some {ds r : List D} (h : sortT ds = some r) : okSort ds = true ∧ r = ds.mergeSort leD := by
  unfold sortT at h
  by_cases e : okSort ds = true
  · rw [if_pos e] at h; cases h; exact ⟨e, rfl⟩
  · rw [if_neg e] at h; cases h
end
/-! ### the call -/
section
variable {X : L2.Cx} {pins : List (Addr × Obj)} {σ : L2.St} {H G : Hp} {s : Shared} {W : Wd} {m : Mu}
theorem each_zip {K : PySem.W.Frag} : ∀ {vs : List V} {ds : List D} {us : List Value}, RVs K W vs ds → Vals vs us → PySem.W.EachIs (fun u (b : V × D) => RelV b.1 u) us (vs.zip ds)
  | _, _, _, .nil, .nil => .nil
  | _, _, _, .cons _ t, .cons x xs => .cons x (each_zip t xs)
theorem zip_mem {K : PySem.W.Frag} : ∀ {vs : List V} {ds : List D}, RVs K W vs ds → ∀ b ∈ vs.zip ds, RV K W b.1 b.2 ∧ b.2 ∈ ds
  | _, _, .nil, b, hb => nomatch hb
  | _, _, .cons h t, b, hb => by
    rw [List.zip_cons_cons] at hb
    rcases List.mem_cons.mp hb with rfl | hb
    · exact ⟨h, List.mem_cons_self⟩
    · exact ⟨(zip_mem t b hb).1, List.mem_cons_of_mem _ (zip_mem t b hb).2⟩
theorem zip_snd {K : PySem.W.Frag} : ∀ {vs : List V} {ds : List D}, RVs K W vs ds → (vs.zip ds).map (·.2) = ds
  | _, _, .nil => rfl
  | _, _, .cons _ t => by rw [List.zip_cons_cons, List.map_cons, zip_snd t]
theorem vals_of_each : ∀ {us : List Value} {L : List (V × D)}, PySem.W.EachIs (fun u (b : V × D) => RelV b.1 u) us L → Vals (L.map (·.1)) us
  | _, _, .nil => .nil
  | _, _, .cons h t => .cons h (vals_of_each t)
theorem rvs_of_mem {K : PySem.W.Frag} : ∀ {L : List (V × D)}, (∀ b ∈ L, RV K W b.1 b.2) → RVs K W (L.map (·.1)) (L.map (·.2))
  | [], _ => .nil
  | b :: L, h => .cons (h b List.mem_cons_self) (rvs_of_mem fun c hc => h c (List.mem_cons_of_mem _ hc))
theorem each_reads (I : Inv X pins σ H s) (hr : HR X.K W G H m) : ∀ {vs : List V} {ds : List D} {us : List Value}, RVs X.K W vs ds → Vals vs us → (∀ d ∈ ds, d.pure = true) → PySem.W.EachIs (fun u (b : V × D) => ∃ as, Reads s.heap u (toP b.2) as) us (vs.zip ds)
  | _, _, _, .nil, .nil, _ => .nil
  | _, _, _, .cons (d := d) h t, .cons x xs, p => .cons (Dp.reads I _ _ _ (RV.dp hr.fz d h (p d List.mem_cons_self)) x) (each_reads I hr t xs fun e he => p e (List.mem_cons_of_mem _ he))
/-- sorted(x) -/
theorem cr_sortT (hu : X.A.units + 100 < cLine) : CallR X (.builtin "sorted") (fun xs H Q => ∃ W G m a vs ds, xs = [.ref a] ∧ HR X.K W G H m ∧ RVs X.K W vs ds ∧ okSort ds = true ∧ (SqL X.K H a vs ∨ SqT X.K H a vs) ∧
    ∀ p zs, H p = none → RVs X.K W zs (ds.mergeSort leD) → Q (.ref p) (upd H p (.lst zs))) := by
  rintro pins s σ H xs us Q I rx ⟨W, G, m, a, vs, ds, rfl, hr, ra, ok, hsq, k⟩
  obtain ⟨u, rfl, ru⟩ := vals1 rx
  cases ru
  obtain ⟨h1, h2, h3⟩ := okSort_iff ok
  have lv := ra.length
  -- what is the same for both
  have goal : ∀ (its : List Value), Vals vs its → vs.length ≤ sizeLine → (∀ (S : PySem.W.SortsAt X.prog X.w X.A.in1.in1 { s with heap := PySem.W.sortingHeap (PySem.W.copyHeap s.heap its) (s.heap.objs.size + 1) its } (PySem.W.dataKind (PySem.W.sortingHeap (PySem.W.copyHeap s.heap its) (s.heap.objs.size + 1) its) ((vs.zip ds).map fun b => toP b.2)) its),
      EP X pins σ Q (.ref (s.heap.objs.size + 1)) { s with heap := sortedAll s.heap its (PySem.W.sortVals (PySem.W.dataKind (PySem.W.sortingHeap (PySem.W.copyHeap s.heap its) (s.heap.objs.size + 1) its) ((vs.zip ds).map fun b => toP b.2)) false its its).toArray } →
      wpAny (model X.prog X.w) X.A (call (.builtin "sorted") [.ref a]) (EP X pins σ Q) X.xe s) → wpAny (model X.prog X.w) X.A (call (.builtin "sorted") [.ref a]) (EP X pins σ Q) X.xe s := by
    intro its rv hz fin
    have e := each_zip ra rv
    have er := each_reads I hr ra rv fun d hd => (eqOk_iff.mp (h1 d hd)).1
    have er' : PySem.W.EachIs (fun v (b : V × D) => ∃ as, Reads (PySem.W.sortingHeap (PySem.W.copyHeap s.heap its) (s.heap.objs.size + 1) its) v (toP b.2) as) its (vs.zip ds) := er.mono fun _ _ ⟨as, r⟩ => ⟨as, PyProof.Rows.Reads.keeps (fun _ _ => PySem.W.sorting_copy_old) r⟩
    have hal : PySem.W.AllAlike ((vs.zip ds).map fun b => toP b.2) := by
      intro d hd d' hd'
      obtain ⟨b, hb, rfl⟩ := List.mem_map.mp hd
      obtain ⟨b', hb', rfl⟩ := List.mem_map.mp hd'
      exact alike_toP _ _ (h2 _ (zip_mem ra b hb).2 _ (zip_mem ra b' hb').2)
    have hk : PySem.W.Sortable ((vs.zip ds).map fun b => toP b.2) := by
      have : ((vs.zip ds).map fun b => toP b.2) = ds.map toP := by
        rw [← zip_snd ra, List.map_map, zip_snd ra]; rfl
      rw [this]; exact h3
    have dep : ∀ d, d ∈ ((vs.zip ds).map fun b => toP b.2) → X.A.in1.in1.units + d.depth < cLine := by
      intro d hd
      obtain ⟨b, hb, rfl⟩ := List.mem_map.mp hd
      have := (eqOk_iff.mp (h1 _ (zip_mem ra b hb).2)).2
      rw [toP_depth]
      show X.A.units + 1 + 1 + _ < cLine
      omega
    refine fin (PySem.W.SortsAt.data (PySem.W.each_map (R := fun v d => ∃ as, Reads (PySem.W.sortingHeap (PySem.W.copyHeap s.heap its) (s.heap.objs.size + 1) its) v d as) (fun b : V × D => toP b.2) er') hal hk dep) ?_
    have out := PySem.W.sortVals_data (R := fun u (b : V × D) => RelV b.1 u) (enc := fun b : V × D => toP b.2) false e er' hal
    generalize PySem.W.sortVals (PySem.W.dataKind (PySem.W.sortingHeap (PySem.W.copyHeap s.heap its) (s.heap.objs.size + 1) its) ((vs.zip ds).map fun b => toP b.2)) false its its = os at out
    have pm := List.mergeSort_perm (vs.zip ds) (PySem.W.dataLe false fun b : V × D => toP b.2)
    have snd : ((vs.zip ds).mergeSort (PySem.W.dataLe false fun b : V × D => toP b.2)).map (·.2) = ds.mergeSort leD := by
      rw [List.map_mergeSort (r := PySem.W.dataLe false fun b : V × D => toP b.2) (s := leD) (f := fun b : V × D => b.2) fun x hx y hy => (le_toP ok (zip_mem ra x hx).2 (zip_mem ra y hy).2 : PySem.W.dataLe false (fun b : V × D => toP b.2) x y = leD x.2 y.2), zip_snd ra]
    generalize (vs.zip ds).mergeSort (PySem.W.dataLe false fun b : V × D => toP b.2) = L at out pm snd
    have rz := rvs_of_mem (L := L) fun b hb => (zip_mem ra b (pm.mem_iff.mp hb)).1
    rw [snd] at rz
    obtain ⟨c, hc⟩ := sortedAll_at s.heap its os.toArray
    have hf : H (s.heap.objs.size + 1) = none := I.hok.fresh (Nat.le_succ _)
    have vo := vals_of_each out
    have zl : (L.map (·.1)).length ≤ sizeLine := by
      rw [List.length_map, pm.length_eq, List.length_zip, ← lv]
      omega
    exact ⟨.ref _, _, I.laid (t' := s.toks) (fun b o z => sortedAll_old z) (Nat.le_succ _) (show ObjOk X.prog X.w (upd H (s.heap.objs.size + 1) (.lst (L.map (·.1)))) _ _ (.lst (L.map (·.1))) from ⟨zl, os, c, vo, hc⟩), rfl, k _ _ hf rz⟩
  rcases hsq with hs | hs
  · obtain ⟨its, rv, pl, hz⟩ := I.list hs
    exact goal its rv hz fun S h => PySem.W.sorted_vals pl.isList S (by rw [← rv.length]; exact hz) h
  · obtain ⟨its, rv, pl, hz⟩ := I.tuple hs
    have hz2 : its.length ≤ sizeLine := by rw [← rv.length]; exact hz
    exact goal its rv hz fun S h => sorted_tupOf pl hz2 fun _ => PySem.W.list_sort_vals (s := { s with heap := PySem.W.copyHeap s.heap its }) (PySem.W.copyHeap_at s.heap its) S hz2 ⟨rfl, h⟩
end
end Dn

/-! DnA -/
set_option Elab.async false
set_option linter.all false
set_option maxRecDepth 100000
set_option maxHeartbeats 1000000
/-! DnA: list(x). -/
namespace Dn
open PySem PySem.Spec PyProof.Rows L2

section
variable {prog : Program} {w : World} {A : Around} {E : Value → Shared → Prop} {s : Shared} {x : Str} {t : Tok}
theorem hint_str {Q : Bool → Shared → Prop} (h : Q false s) : wpAny (model prog w) A (Builtin.List.listLengthHint (.str x t)) Q E s := by
  unfold Builtin.List.listLengthHint
  refine wpAny_bind (wpAny_specialOf (typeIs_str s x t) PySem.F.slot_str_len.lookup ?_)
  generalize hid : ("str.__len__" : String) = id0
  wp_delta
  rw [show splitId id0 = some ("str", "__len__") from by subst hid; decide +kernel]
  subst hid
  refine wpAny_bind (wpAny_isInstance (T := "str") (b := true) (typeIs_str s x t) (by rw [isSubtype_type]; kernel_rfl) ?_)
  refine wpAny_ite_split (fun hab => absurd hab (by decide)) (fun _ => ?_)
  refine wpAny_ite_split (fun _ => ?_) (fun hab => absurd (by decide +kernel) hab)
  refine wpAny_bind (wpAny_typeOf (typeIs_str s x t) ?_)
  exact wpAny_pure h
theorem ext_str {R : Result → Shared → Prop} (hh : A.handled = none) (S : Addr) (res : Value) (c₀ : Nat) (hS : s.heap.get? S = some { cls := .type "list", data := .seq #[] c₀ }) (hn : x.cps.size ≤ sizeLine)
    (hR : ∀ h' tk acc' c', (∀ b o, b ≠ S → s.heap.get? b = some o → h'.get? b = some o) → h'.get? S = some { cls := .type "list", dict := none, data := .seq acc' c', slots := #[] } → ItemsOf (SignAt x) acc' x.cps.size → R (.ok (.ret res)) { s with heap := h', toks := tk }) :
    wpAny (model prog w) A.in1 (Builtin.List.listExtendWith (.ref S) (.str x t) res)
      (fun fin s' => match fin with | .done f => R (.ok f) s' | .again c' => c'.quiet = true ∧ codeAny (model prog w) A c' R s') (fun e s' => R (.error e) s') s := by
  have hSI : S ≠ s.heap.objs.size := Nat.ne_of_lt (Heap.lt_size hS)
  unfold Builtin.List.listExtendWith
  refine wpAny_bind (wpAny_typeOf (T := "str") (typeIs_str s x t) ?_)
  have h1 : Builtin.List.listSameRef (.ref S) (.str x t) = false := rfl
  have h2 : (Value.type "str" == Value.type "list") = false := by decide
  have h3 : (Value.type "str" == Value.type "tuple") = false := by decide
  simp only [h1, h2, h3, Bool.or_false, Bool.false_eq_true, if_false]
  refine wpAny_bind (wpAny_pyIter_str fun oI St hW st => ?_)
  have W := hW A.in1 hh
  have hSf : S ∉ [s.heap.objs.size] := by simpa using hSI
  have key : ∀ (h : Heap) (c₁ tk : Nat), St 0 h → (∀ b o, b ≠ S → s.heap.get? b = some o → h.get? b = some o) →
      h.get? S = some { cls := .type "list", data := .seq #[] c₁ } → codeAny (model prog w) A (.builtin "list.extend.loop" ⟨[.ref S, .ref s.heap.objs.size, res], []⟩) R { s with heap := h, toks := tk } := by
    intro h c₁ tk hst hk hS₁
    refine codeAny_extend_loopS W.toS hn S hSf res x.cps.size 0 _ #[] c₁ rfl (Nat.zero_le _) hst hS₁ (ItemsOf.nil _) fun s' acc' c' hm hS' hacc => ?_
    rw [Moved.eq_with hm]
    refine hR s'.heap s'.toks acc' c' (fun b o hb e => hm.heap b o (fun hmem => ?_) (hk b o hb e)) hS' hacc
    rcases List.mem_cons.mp hmem with e' | hmem
    · exact hb e'
    · exact absurd (Heap.lt_size e) (by rw [List.mem_singleton.mp hmem]; exact Nat.lt_irrefl _)
  have hS₁ := Heap.get?_push_of_some oI hS
  refine wpAny_bind (wpAny_holding (hint_str ?_))
  refine wpAny_ite_split (fun _ => ?_) (fun _ => wpAny_pure ⟨plainId_quiet PySem.F.plain_extend_loop _, key _ c₀ _ st (fun b o _ e => Heap.get?_push_of_some _ e) hS₁⟩)
  refine wpAny_bind (wpAny_rule ?_)
  refine wpAny_bind ?_
  show wpAny _ _ (updateSeq S (·.push .none) >>= fun _ => updateSeq S (·.pop)) _ _ _
  refine wpAny_bind (wpAny_updateSeq hS₁ rfl ?_)
  have hS₂ := Heap.get?_update_self (Obj.mapSeq (·.push Value.none)) hS₁ rfl
  refine wpAny_updateSeq (hz := by seq_fits) hS₂ rfl ?_
  have hS₃ := Heap.get?_update_self (Obj.mapSeq (·.pop)) hS₂ rfl
  refine wpAny_pure ⟨plainId_quiet PySem.F.plain_extend_loop _, key _ _ _ ?_ (fun b o hb e => ?_) hS₃⟩
  · refine W.frame 0 _ _ st fun b hb o e => ?_
    have hbS : b ≠ S := fun h => hSf (h ▸ hb)
    exact (Heap.get?_update_other _ _ (Ne.symm hbS)).trans ((Heap.get?_update_other _ _ (Ne.symm hbS)).trans e)
  · exact (Heap.get?_update_other _ _ (Ne.symm hb)).trans ((Heap.get?_update_other _ _ (Ne.symm hb)).trans (Heap.get?_push_of_some _ e))
theorem init_str {R : Result → Shared → Prop} (hh : A.handled = none) (S : Addr) (hS : s.heap.get? S = some { cls := .type "list", data := .seq #[] }) (hn : x.cps.size ≤ sizeLine)
    (hR : ∀ h' tk acc' c', (∀ b o, b ≠ S → s.heap.get? b = some o → h'.get? b = some o) → h'.get? S = some { cls := .type "list", dict := none, data := .seq acc' c', slots := #[] } → ItemsOf (SignAt x) acc' x.cps.size → R (.ok (.ret .none)) { s with heap := h', toks := tk }) :
    wpAny (model prog w) A.in1 (Builtin.«list.__init__» ⟨[.ref S, .str x t], []⟩)
      (fun fin s' => match fin with | .done f => R (.ok f) s' | .again c' => c'.quiet = true ∧ codeAny (model prog w) A c' R s') (fun e s' => R (.error e) s') s := by
  show wpAny _ _ (do let old ← Builtin.List.listItems (.ref S); Builtin.List.listUpdate (.ref S) (fun _ => #[]); letGo old.toList.reverse; Builtin.List.listExtendWith (.ref S) (.str x t) .none) _ _ s
  refine wpAny_bind ?_
  unfold Builtin.List.listItems
  refine wpAny_bind (wpAny_seqItems hS rfl (wpAny_pure ?_))
  show wpAny _ _ (updateSeq S (fun _ => #[]) >>= fun _ => letGo (#[] : Array Value).toList.reverse >>= fun _ => Builtin.List.listExtendWith (.ref S) (.str x t) .none) _ _ s
  refine wpAny_bind (wpAny_updateSeq hS rfl ?_)
  have hS₂ := Heap.get?_update_self (Obj.mapSeq (fun _ => (#[] : Array Value))) hS rfl
  have oth : ∀ b o, b ≠ S → s.heap.get? b = some o → (s.heap.update S (Obj.mapSeq (fun _ => (#[] : Array Value)))).get? b = some o :=
    fun b o hb e => (Heap.get?_update_other _ _ (Ne.symm hb)).trans e
  refine wpAny_bind (wpAny_letGo ?_)
  exact ext_str hh S .none _ hS₂ hn fun h' tk acc' c' hk hS' hacc => hR h' tk acc' c' (fun b o hb e => hk b o hb (oth b o hb e)) hS' hacc
theorem call_list_str {Q : Value → Shared → Prop} (hh : A.handled = none) (hn : x.cps.size ≤ sizeLine)
    (hQ : ∀ h' tk acc' c', (∀ b o, s.heap.get? b = some o → h'.get? b = some o) → h'.get? s.heap.objs.size = some { cls := .type "list", dict := none, data := .seq acc' c', slots := #[] } → ItemsOf (SignAt x) acc' x.cps.size → Q (.ref s.heap.objs.size) { s with heap := h', toks := tk }) :
    wpAny (model prog w) A (call (.type "list") [.str x t]) Q E s := by
  refine callType_codes (Q₁ := fun obj s₁ => obj = .ref s.heap.objs.size ∧ s₁ = { s with heap := s.heap.push { cls := .type "list", data := .seq #[] } }) PySem.F.called_list (PySem.F.typeCall_list_1 _) PySem.F.entry_list_init
    (code_list_new _ ⟨rfl, rfl⟩) fun obj s₁ h₁ => ?_
  obtain ⟨rfl, rfl⟩ := h₁
  have hS : (s.heap.push { cls := .type "list", data := .seq #[] }).get? s.heap.objs.size = some { cls := .type "list", data := .seq #[] } := Heap.get?_push_size _ rfl
  refine ⟨⟨_, hS, rfl⟩, PySem.F.args_list_init_2 _ _, init_str (A := A.in1) hh _ hS hn fun h' tk acc' c' hk hS' hacc => ?_⟩
  exact ⟨rfl, hQ h' tk acc' c' (fun b o e => hk b o (Nat.ne_of_lt (Heap.lt_size e)) (Heap.get?_push_of_some _ e)) hS' hacc⟩
end
section
variable {T : Tb} {Nn : Tn} {n : Nat} {N : List Str} {sc : Scope} {E : XK} {X : L2.Cx} {G : Hp} {W : Wd} {sg : L2.St} {H : Hp} {m : Mu} {r : Env}
theorem b_list (hc : X.calm = true) : CallR X (.type "list") (R1 X.K fun d => d.items.map fun ds => ⟨.f, .lst ds⟩) := by
  intro pins s σ H xs us Q I rx h
  obtain ⟨W, G, m, v, x, r, rfl, hr, q, e, k⟩ := h
  cases x with
  | lst ds =>
    cases e
    obtain ⟨a, vs, rfl, ha, ra, z⟩ := q.lst hr
    refine call_list_of pins s σ H _ us Q I rx ⟨a, vs, rfl, .inl (.inl (.inl ha)), fun l hl => ?_⟩
    obtain ⟨h2, q2⟩ := new_lst hr hl ra z
    exact k _ _ _ (Wd.Le.refl _) h2 q2
  | tup ds =>
    cases e
    obtain ⟨a, vs, rfl, ha, ra, z⟩ := q.tup hr
    refine call_list_of pins s σ H _ us Q I rx ⟨a, vs, rfl, .inr ha, fun l hl => ?_⟩
    obtain ⟨h2, q2⟩ := new_lst hr hl ra z
    exact k _ _ _ (Wd.Le.refl _) h2 q2
  | str t =>
    cases e
    obtain ⟨rfl, tx⟩ := q.str
    obtain ⟨u, rfl, tk, rfl⟩ := vals1 rx
    have hz : (S t).cps.size ≤ sizeLine := by simpa [S] using tx.1
    refine call_list_str (I.ok.hd hc) hz fun h' tk' acc c' kp e hi => ?_
    have hi : ItemsOf (SignAt (S t)) acc t.length := by simpa [S] using hi
    have hf : H s.heap.objs.size = none := I.hok.fresh (Nat.le_refl _)
    obtain ⟨h2, q2⟩ := new_lst (K := X.K) hr hf (RVs.signs tx) (by rw [List.length_map]; exact tx.1)
    refine ⟨.ref s.heap.objs.size, _, I.laid (t' := tk') kp (Nat.le_refl _) (show ObjOk X.prog X.w _ h' _ (.lst (t.map fun c => V.str (S [c]))) from ⟨by rw [List.length_map]; exact tx.1, acc.toList, c', signs_vals hi, by rw [Array.toArray_toList]; exact e⟩), rfl, k _ _ _ (Wd.Le.refl _) h2 q2⟩
  | _ => cases e
theorem se_lsti {p pos : Pos} {e : PySem.Expr} {c : CE} (hg : sc.names.lookup ("list" : Str) = some .globalImplicit) (h : SE T Nn n N sc e c) (hs : notStar e = true) : SE T Nn n N sc (.Call (.Name "list" p) [e] [] pos) (.lsti (.val c)) := by
  intro E X x'
  obtain ⟨t, pe, fa⟩ := h E X x'
  refine ⟨_, pe_callTy (b_list x'.calm) (x'.gl hg) (x'.base.free _ (by decide)) (by decide +kernel) (pa_cons pe pa_nil (star_of hs _ _)) (by decide) (by decide) (star_of hs _ _) rfl, fun r m G W sg H Q er hr p => ?_⟩
  have p : PostR Nn X.mg X.K G W (((evE (cxE T n) c r m).bnd fun x m1 => (M.opt x.d.items) m1).bnd fun ds m2 => .ok (⟨.f, .lst ds⟩ : R) m2) _ E := Post.toR p
  rw [bnd_bnd] at p
  refine use1 fa er hr p fun x m1 W1 H1 v l1 h1 q1 p1 => ?_
  obtain ⟨ds, e1, p1⟩ := p1.opt
  exact ⟨W1, G, m1, v, x.d, _, rfl, h1, q1.1, by show Option.map _ x.d.items = _; rw [e1]; rfl, fun W' H' z l h q => (p1.mono l).ok h z q⟩
end
end Dn

/-! DnB -/
set_option Elab.async false
set_option linter.all false
set_option maxRecDepth 100000
set_option maxHeartbeats 1000000
/-! DnB: repr. -/
namespace Dn
open PySem PySem.Spec PyProof.Rows L2

/-! ### its signs -/
def okCh (x : Str) : Prop := ∀ c ∈ x.cps.toList, c < 1114112
theorem okC_app {x y : Str} (h : okCh x) (k : okCh y) : okCh (x ++ y) := fun c hc => by
  have : (x ++ y).cps.toList = x.cps.toList ++ y.cps.toList := TL.tl_append x y
  rw [this] at hc
  rcases List.mem_append.mp hc with z | z
  · exact h c z
  · exact k c z
theorem okC_of (s : String) : okCh (Str.ofString s) := fun c hc => by
  have hc : c ∈ TL.tl (Str.ofString s) := hc
  rw [TL.tl_ofString] at hc
  obtain ⟨x, _, rfl⟩ := List.mem_map.mp hc
  have := x.valid
  show x.val.toNat < 1114112
  rcases this with h | ⟨_, h⟩ <;> (have : x.val.toNat = x.val.toNat := rfl; omega)
theorem okC_join (sep : Str) (hs : okCh sep) : ∀ ts : List Str, (∀ t ∈ ts, okCh t) → okCh (Str.join sep ts)
  | [], _ => fun c hc => by simp [Str.join, Str.empty] at hc
  | [t], h => h t (by simp)
  | t :: u :: r, h => okC_app (okC_app (h t (by simp)) hs) (okC_join sep hs (u :: r) fun x hx => h x (by simp [hx]))
theorem okC_from : ∀ (ts : List Str) (k : Nat) (acc : Str), okCh acc → (∀ t ∈ ts, okCh t) → okCh (textFrom k acc ts)
  | [], _, acc, h, _ => h
  | t :: r, k, acc, h, ht => okC_from r (k + 1) _ (okC_app (okC_app h (okC_of _)) (ht t (by simp))) fun x hx => ht x (by simp [hx])
theorem repr_asc : ((List.range 127).all fun c => !asc c || ((Builtin.Str.reprChar 39 c).all (fun x => decide (x < 1114112)) && (Builtin.Str.reprChar 34 c).all (fun x => decide (x < 1114112)))) = true := by decide +kernel
theorem okC_repr {s : Sg} (h : s.all asc = true) : okCh (reprText (S s)) := by
  have hq : reprQuote (S s) = 39 ∨ reprQuote (S s) = 34 := by
    unfold reprQuote
    split
    · exact .inr rfl
    · exact .inl rfl
  have hc : ∀ c ∈ s, ∀ x ∈ Builtin.Str.reprChar (reprQuote (S s)) c, x < 1114112 := fun c hm x hx => by
    have h1 := List.all_eq_true.mp h c hm
    unfold asc at h1
    rw [decide_eq_true_eq] at h1
    have h2 := List.all_eq_true.mp repr_asc c (by rw [List.mem_range]; exact h1)
    have h3 : asc c = true := by unfold asc; simp [h1]
    rw [h3] at h2
    simp only [Bool.not_true, Bool.false_or, Bool.and_eq_true, List.all_eq_true, decide_eq_true_eq] at h2
    rcases hq with q | q
    · rw [q] at hx; exact h2.1 x hx
    · rw [q] at hx; exact h2.2 x hx
  have fold : ∀ (l : List Nat) (acc : Array Nat), (∀ c ∈ l, ∀ x ∈ Builtin.Str.reprChar (reprQuote (S s)) c, x < 1114112) → (∀ x ∈ acc.toList, x < 1114112) → ∀ x ∈ (l.foldl (fun out c => out ++ (Builtin.Str.reprChar (reprQuote (S s)) c).toArray) acc).toList, x < 1114112 := by
    intro l
    induction l with
    | nil => exact fun acc _ h => h
    | cons c r ih =>
      intro acc h1 h2
      rw [List.foldl_cons]
      refine ih _ (fun k hk => h1 k (by simp [hk])) fun x hx => ?_
      have hx : x ∈ acc.toList ++ Builtin.Str.reprChar (reprQuote (S s)) c := by simpa using hx
      rcases List.mem_append.mp hx with z | z
      · exact h2 x z
      · exact h1 c (by simp) x z
  intro x hx
  unfold reprText at hx
  have e : (S s).cps.foldl (fun out c => out ++ (Builtin.Str.reprChar (reprQuote (S s)) c).toArray) #[reprQuote (S s)] = s.foldl (fun out c => out ++ (Builtin.Str.reprChar (reprQuote (S s)) c).toArray) #[reprQuote (S s)] := by simp [S]
  have hx : x ∈ (s.foldl (fun out c => out ++ (Builtin.Str.reprChar (reprQuote (S s)) c).toArray) #[reprQuote (S s)]).toList ++ [reprQuote (S s)] := by
    rw [← e]
    simpa using hx
  have hq2 : reprQuote (S s) < 1114112 := by rcases hq with q | q <;> rw [q] <;> decide
  rcases List.mem_append.mp hx with z | z
  · refine fold s _ hc (fun y hy => ?_) x z
    rw [show y = reprQuote (S s) from by simpa using hy]; exact hq2
  · rw [List.mem_singleton.mp z]; exact hq2
mutual
theorem okC_shown : ∀ d : D, shB d = true → okCh (toQ d).shown
  | .non, _ => okC_of _
  | .bl b, _ => by cases b <;> exact okC_of _
  | .int i, _ => okC_of _
  | .str s, h => okC_repr h
  | .tup ds, h => okC_app (okC_app (okC_of _) (okC_join _ (okC_of _) _ (okC_showns ds h))) (okC_of _)
  | .lst ds, h => okC_app (okC_from _ _ _ (okC_of _) (okC_showns ds h)) (okC_of _)
  | .dic t kvs, h => okC_app (okC_app (okC_of _) (okC_join _ (okC_of _) _ (fun t h => by cases h))) (okC_of _)
  | .ref _, h => by cases h
  | .scr _, h => by cases h
theorem okC_showns : ∀ ds : List D, shB.shBs ds = true → ∀ t ∈ PyData.shownAll (toQs ds), okCh t
  | [], _, t, ht => by cases ht
  | d :: ds, h, t, ht => by
    have h : (shB d && shB.shBs ds) = true := h
    rw [Bool.and_eq_true] at h
    rcases List.mem_cons.mp (show t ∈ (toQ d).shown :: PyData.shownAll (toQs ds) from ht) with rfl | ht
    · exact okC_shown d h.1
    · exact okC_showns ds h.2 t ht
end
mutual
theorem shB_ok : ∀ d : D, shB d = true → (toQ d).depth ≤ d.depth + 1
  | .non, _ => by decide
  | .bl b, _ => by show 0 ≤ _; omega
  | .int i, h => by show 0 ≤ _; omega
  | .str s, h => by show 0 ≤ _; omega
  | .tup ds, h => by
    have h3 := shBs_ok ds h
    show PyData.depthAll (toQs ds) + 1 ≤ depthAll ds + 1 + 1; omega
  | .lst ds, h => by
    have h3 := shBs_ok ds h
    show PyData.depthAll (toQs ds) + 1 ≤ depthAll ds + 1 + 1; omega
  | .dic t kvs, h => by show PyData.depthKv [] + 1 ≤ _; show 1 ≤ 0 + 1; omega
  | .ref _, h => by cases h
  | .scr _, h => by cases h
theorem shBs_ok : ∀ ds : List D, shB.shBs ds = true → PyData.depthAll (toQs ds) ≤ depthAll ds + 1
  | [], _ => by show 0 ≤ _; omega
  | d :: ds, h => by
    have h : (shB d && shB.shBs ds) = true := h
    rw [Bool.and_eq_true] at h
    have a3 := shB_ok d h.1
    have b3 := shBs_ok ds h.2
    show Nat.max (toQ d).depth (PyData.depthAll (toQs ds)) ≤ Nat.max d.depth (depthAll ds) + 1
    have x1 : d.depth ≤ Nat.max d.depth (depthAll ds) := Nat.le_max_left _ _
    have x2 : depthAll ds ≤ Nat.max d.depth (depthAll ds) := Nat.le_max_right _ _
    exact Nat.max_le.mpr ⟨by omega, by omega⟩
end
theorem pairs_nil {prog : Program} {w : World} {K : Type} [DecidableEq K] {knd : KeyKind prog w K} {l : List DictEntry} (h : PySem.Pairs knd l []) : l = [] := by
  cases h; rfl
section
variable {X : L2.Cx} {pins : List (Addr × Obj)} {σ : L2.St} {H G : Hp} {s : Shared} {W : Wd} {m : Mu}
/-- a value's text is told of -/
def RpOk (P : Program) (w : World) (h : Heap) (u : Value) (d : PyData) : Prop := (∃ as, Reads h u d as) ∧ ∃ bs, ReadAtMost h d.depth bs ∧ ReprK P w bs h d.depth u d.shown
def RpsOk (P : Program) (w : World) (h : Heap) (us : List Value) (ds : List PyData) : Prop := (∃ as, ReadsAll h us ds as) ∧ ∃ bs, ReadAtMost h (PyData.depthAll ds) bs ∧ ReprAllK P w bs h (PyData.depthAll ds) us (PyData.shownAll ds)
theorem rp_list {P : Program} {w : World} {h : Heap} {a : Addr} {o : Obj} {vs : Array Value} {n : Nat} {xs : List PyData} (h1 : h.get? a = some o) (h2 : o.cls = .type "list") (h3 : o.data = .seq vs n) (r : RpsOk P w h vs.toList xs) : RpOk P w h (.ref a) (.list xs) := by
  obtain ⟨⟨as, r1⟩, bs, r2, r3⟩ := r
  have q : Reads h (.ref a) (.list xs) _ := .list h1 h2 h3 r1
  have no : a ∉ bs := not_mem_of_deeper q (by simp only [PyData.depth]; omega) r2
  refine ⟨⟨_, q⟩, a :: bs, ReadAtMost.cons q (by simp only [PyData.depth]; omega) r2, ?_⟩
  simp only [PyData.depth, PyData.shown]
  obtain ⟨l⟩ := vs
  cases l with
  | nil =>
    have r1 : ReadsAll h [] xs as := r1
    cases r1
    simp only [PyData.shownAll, listText_nil]
    exact ReprK.listEmpty h1 h2 h3
  | cons x l => exact ReprK.list h1 h2 h3 no (by simpa using r3.length_eq) (fun i y e => r3.item i y (by simpa using e))
theorem rp_tuple {P : Program} {w : World} {h : Heap} {a : Addr} {o : Obj} {vs : Array Value} {n : Nat} {xs : List PyData} (h1 : h.get? a = some o) (h2 : o.cls = .type "tuple") (h3 : o.data = .seq vs n) (r : RpsOk P w h vs.toList xs) : RpOk P w h (.ref a) (.tuple xs) := by
  obtain ⟨⟨as, r1⟩, bs, r2, r3⟩ := r
  have q : Reads h (.ref a) (.tuple xs) _ := .tuple h1 h2 h3 r1
  have no : a ∉ bs := not_mem_of_deeper q (by simp only [PyData.depth]; omega) r2
  refine ⟨⟨_, q⟩, a :: bs, ReadAtMost.cons q (by simp only [PyData.depth]; omega) r2, ?_⟩
  simp only [PyData.depth, PyData.shown]
  exact ReprK.tuple h1 h2 h3 no r3
theorem rp_dict {P : Program} {w : World} {h : Heap} {a : Addr} {o : Obj} {es : Array DictEntry} {n : Nat} (h1 : h.get? a = some o) (h2 : o.cls = .type "dict") (h3 : o.data = .dict es n) (he : es.toList = []) (lo : (a == sysModules) = false) : RpOk P w h (.ref a) (.dict []) := by
  have q : Reads h (.ref a) (.dict []) _ := .dict (kvs := []) h1 h2 h3 (by rw [he]; exact ReadsAll.nil) (by rw [he]; exact ReadsAll.nil)
  refine ⟨⟨_, q⟩, [a], ReadAtMost.cons (n := 0) q (Nat.zero_le _) (fun b hb => by cases hb), ?_⟩
  simp only [PyData.depth, PyData.shown, PyData.shownKv_eq]
  refine ReprK.dict h1 h2 h3 lo (show a ∉ ([] : List Addr) by simp) ?_
  rw [he]
  exact ReprEntriesK.of_two [] [] [] .nil .nil
theorem dict_emp (I : Inv X pins σ H s) {a : Addr} (h : H a = some (.dK [])) : RpOk X.prog X.w s.heap (.ref a) (.dict []) := by
  obtain ⟨z, lo, vs, rk, hd⟩ := (show ObjOk X.prog X.w H s.heap a (.dK []) from I.hok _ _ h)
  cases rk
  obtain ⟨o, es, ep, ho, hex, hdat, _, hp, _⟩ := hd
  exact rp_dict ho hex.1 hdat (pairs_nil hp) lo
mutual
theorem rv_repr (I : Inv X pins σ H s) (hr : HR X.K W G H m) : ∀ (d : D) (v : V) (u : Value), shB d = true → RV X.K W v d → RelV v u → (toQ d).shown.length ≤ sizeLine → RpOk X.prog X.w s.heap u (toQ d)
  | .non, _, _, _, h, r, _ => by cases h; cases r; exact ⟨⟨_, Reads.none⟩, [], fun _ h => (nomatch h), .of_is ReprIs.none _ _ _⟩
  | .bl b, _, _, _, h, r, _ => by cases h; cases r; exact ⟨⟨_, Reads.bool b⟩, [], fun _ h => (nomatch h), by simp only [toQ, PyData.shown]; exact .of_is (ReprIs.bool b) _ _ _⟩
  | .int i, _, _, hs, h, r, _ => by cases h; obtain ⟨t, rfl⟩ := r; exact ⟨⟨_, Reads.int i t⟩, [], fun _ h => (nomatch h), by simp only [toQ, PyData.shown]; exact .of_is (ReprIs.int t (by simpa [shB] using hs)) _ _ _⟩
  | .str x, _, _, _, h, r, z => by cases h; obtain ⟨t, rfl⟩ := r; exact ⟨⟨_, Reads.str _ t⟩, [], fun _ h => (nomatch h), by simp only [toQ, PyData.shown]; exact .of_is (ReprIs.str _ t (by simpa only [toQ, PyData.shown] using z)) _ _ _⟩
  | .tup ds, _, _, hs, h, r, z => by
    cases h with
    | tup h1 h2 h3 =>
      cases r
      obtain ⟨its, rv, ⟨o, ho, hc, n, hd⟩, _⟩ := I.tuple (Same.seqT hr.fz h1.sq)
      exact rp_tuple ho hc hd (rvs_repr I hr ds _ its hs h2 rv fun t ht => Nat.le_trans (tupleText_mem_le ht) (by simpa only [toQ, PyData.shown] using z))
  | .lst ds, _, _, hs, h, r, z => by
    cases h with
    | lst h1 h2 h3 =>
      cases r
      obtain ⟨its, rv, ⟨o, n, ho, hc, _, hd⟩, _⟩ := I.list (.inl (.inl (hr.fz _ _ h1)))
      exact rp_list ho hc hd (rvs_repr I hr ds _ its hs h2 rv fun t ht => Nat.le_trans (listText_mem_le ht) (by simpa only [toQ, PyData.shown] using z))
  | .dic t kvs, _, _, hs, h, r, _ => by
    have hs : (!t && kvs.isEmpty) = true := hs
    rw [Bool.and_eq_true, Bool.not_eq_true'] at hs
    obtain ⟨rfl, hk⟩ := hs
    have : kvs = [] := List.isEmpty_iff.mp hk
    subst this
    cases h with
    | dicK h1 h2 h3 =>
      cases r
      cases h2
      exact dict_emp I (hr.fz _ _ h1)
  | .ref _, _, _, h, _, _, _ => by cases h
  | .scr _, _, _, h, _, _, _ => by cases h
theorem rvs_repr (I : Inv X pins σ H s) (hr : HR X.K W G H m) : ∀ (ds : List D) (vs : List V) (us : List Value), shB.shBs ds = true → RVs X.K W vs ds → Vals vs us → (∀ t ∈ PyData.shownAll (toQs ds), t.length ≤ sizeLine) → RpsOk X.prog X.w s.heap us (toQs ds)
  | [], _, _, _, h, r, _ => by cases h; cases r; exact ⟨⟨_, ReadsAll.nil⟩, [], fun _ h => (nomatch h), .nil⟩
  | d :: ds, _, _, hs, h, r, z => by
    have hs : (shB d && shB.shBs ds) = true := hs
    rw [Bool.and_eq_true] at hs
    cases h with
    | cons h1 h2 =>
      cases r with
      | cons r1 r2 =>
        obtain ⟨⟨as, q1⟩, b1, a1, k1⟩ := rv_repr I hr d _ _ hs.1 h1 r1 (z _ (by simp only [toQs, PyData.shownAll]; exact List.mem_cons_self ..))
        obtain ⟨⟨cs, q2⟩, b2, a2, k2⟩ := rvs_repr I hr ds _ _ hs.2 h2 r2 fun t ht => z t (by simp only [toQs, PyData.shownAll]; exact List.mem_cons_of_mem _ ht)
        refine ⟨⟨_, ReadsAll.cons q1 q2⟩, b1 ++ b2, (a1.mono ?_).append (a2.mono ?_), ?_⟩
        · simp only [toQs, PyData.depthAll]; exact Nat.le_max_left _ _
        · simp only [toQs, PyData.depthAll]; exact Nat.le_max_right _ _
        · simp only [toQs, PyData.depthAll, PyData.shownAll]
          exact .cons ((k1.more fun b hb => List.mem_append_left _ hb).level_le (Nat.le_max_left _ _)) (k2.more_le (fun b hb => List.mem_append_right _ hb) (Nat.le_max_right _ _))
end
/-- a box's text: the call -/
theorem rp_call {E : Value → Shared → Prop} {A : Around} {a : Addr} {Q : Value → Shared → Prop} (I : Inv X pins σ H s) (hr : HR X.K W G H m) {d : D} {v : V} (hb : isBox d = true) (hs : shB d = true) (q : RD X.K W G v d) (ru : RelV v (.ref a)) (hz : (toQ d).shown.length ≤ sizeLine) (hg : A.guards = some []) (hu : A.units + ((toQ d).depth + 2) < cLine)
    (hQ : ∀ h' u tk, (∀ b o, s.heap.get? b = some o → h'.get? b = some o) → Q (.str (toQ d).shown u) { s with heap := h', toks := tk }) : wpAny (model X.prog X.w) A (call (.builtin "repr") [.ref a]) Q E s := by
  have lst : ∀ (its : List Value) (o : Obj) (n : Nat) (ds : List D), s.heap.get? a = some o → o.cls = .type "list" → o.data = .seq its.toArray n → RpsOk X.prog X.w s.heap its (toQs ds) → d = .lst ds → wpAny (model X.prog X.w) A (call (.builtin "repr") [.ref a]) Q E s := fun its o n ds h1 h2 h3 r e => by
    subst e
    obtain ⟨⟨as, r1⟩, bs, r2, r3⟩ := r
    have qq : Reads s.heap (.ref a) (.list (toQs ds)) _ := .list h1 h2 h3 r1
    have no : a ∉ bs := not_mem_of_deeper qq (by simp only [PyData.depth]; omega) r2
    simp only [toQ, PyData.depth] at hu
    simp only [toQ, PyData.shown] at hQ hz
    refine call_repr_slot (by omega) ⟨o, h1, h2⟩ F.slot_list_repr.toG ?_
    cases its with
    | nil =>
      have r1 : ReadsAll s.heap [] (toQs ds) as := r1
      generalize toQs ds = z at *
      cases r1
      simp only [PyData.shownAll, listText_nil] at hQ
      exact call_list_repr_empty ⟨o, h1, h2⟩ h1 h3 ⟨_, _, rfl, hQ s.heap _ _ fun _ _ e => e⟩
    | cons x l => exact call_list_reprK h1 h2 h3 no (by simpa using r3.length_eq) (fun i y e => r3.item i y (by simpa using e)) hg (fun b _ => Clear.nil b) (by show A.units + 1 + _ < cLine; omega) (fun _ _ e => e) (fun h' u tk hk => ⟨_, _, rfl, hQ h' u tk hk⟩) hz
  cases d with
  | tup ds =>
    rcases q with q | ⟨_, _, q⟩
    · cases q with
      | tup h1 h2 h3 =>
        cases ru
        obtain ⟨its, rv, ⟨o, ho, hc, n, hd⟩, _⟩ := I.tuple (Same.seqT hr.fz h1.sq)
        obtain ⟨⟨as, r1⟩, bs, r2, r3⟩ := rvs_repr I hr ds _ its hs h2 rv fun t ht => Nat.le_trans (tupleText_mem_le ht) (by simpa only [toQ, PyData.shown] using hz)
        have qq : Reads s.heap (.ref a) (.tuple (toQs ds)) _ := .tuple ho hc hd r1
        have no : a ∉ bs := not_mem_of_deeper qq (by simp only [PyData.depth]; omega) r2
        simp only [toQ, PyData.depth] at hu
        simp only [toQ, PyData.shown] at hQ hz
        exact call_repr_slot (by omega) ⟨o, ho, hc⟩ F.slot_tuple_repr (call_tuple_reprK ho hc hd no r3 hg (fun b _ => Clear.nil b) (by show A.units + 1 + _ < cLine; omega) (fun _ _ e => e) (fun h' u tk hk => ⟨_, _, rfl, hQ h' u tk hk⟩) hz)
    · exact q.elim
  | lst ds =>
    rcases q with q | ⟨b, rfl, vs, ga, ra, z⟩
    · cases q with
      | lst h1 h2 h3 =>
        cases ru
        obtain ⟨its, rv, ⟨o, n, ho, hc, _, hd⟩, _⟩ := I.list (.inl (.inl (hr.fz _ _ h1)))
        exact lst its o n ds ho hc hd (rvs_repr I hr ds _ its hs h2 rv fun t ht => Nat.le_trans (listText_mem_le ht) (by simpa only [toQ, PyData.shown] using hz)) rfl
    · cases ru
      obtain ⟨its, rv, ⟨o, n, ho, hc, _, hd⟩, _⟩ := I.list (X := X) (a := a) (xs := vs) (.inl (.inl (hr.gd _ _ ga)))
      exact lst its o n ds ho hc hd (rvs_repr I hr ds _ its hs ra rv fun t ht => Nat.le_trans (listText_mem_le ht) (by simpa only [toQ, PyData.shown] using hz)) rfl
  | dic t kvs =>
    have hs : (!t && kvs.isEmpty) = true := hs
    rw [Bool.and_eq_true, Bool.not_eq_true'] at hs
    obtain ⟨rfl, hk⟩ := hs
    have : kvs = [] := List.isEmpty_iff.mp hk
    subst this
    have hd : ∃ b, v = .ref b ∧ H b = some (.dK []) := by
      rcases q with q | ⟨b, rfl, us, ga, ra, _⟩
      · cases q with
        | dicK h1 h2 h3 => cases h2; exact ⟨_, rfl, hr.fz _ _ h1⟩
      · cases ra; exact ⟨b, rfl, hr.gd _ _ ga⟩
    obtain ⟨b, rfl, hb⟩ := hd
    cases ru
    obtain ⟨z, lo, vs, rk, hd⟩ := (show ObjOk X.prog X.w H s.heap a (.dK []) from I.hok _ _ hb)
    cases rk
    obtain ⟨o, es, ep, ho, hex, hdat, _, hp, _⟩ := hd
    have he := pairs_nil hp
    simp only [toQ, PyData.depth] at hu
    simp only [toQ, PyData.shown, PyData.shownKv_eq] at hQ hz
    have ent : ReprEntriesK X.prog X.w [] s.heap 0 es.toList (List.zipWith (fun k v : Str => k ++ ": " ++ v) (PyData.shownAll ([].map (fun p : PyData × PyData => p.1))) (PyData.shownAll ([].map (fun p : PyData × PyData => p.2)))) := by
      rw [he]
      exact ReprEntriesK.of_two [] [] [] .nil .nil
    exact call_repr_slot (by omega) ⟨o, ho, hex.1⟩ F.slot_dict_repr (call_dict_reprK ho hex.1 hdat lo (by simp) ent hg (fun b _ => Clear.nil b) (by show A.units + 1 + (0 + 1) < cLine; omega) (fun _ _ e => e) (fun h' u tk hk => ⟨_, _, rfl, hQ h' u tk hk⟩) hz)
  | _ => cases hb
theorem b_repr (hu : X.A.units + 100 < cLine) (hg : X.A.guards = some []) : CallR X (.builtin "repr") (R1 X.K (b1D rpD .repr)) := by
  intro pins s σ H xs us Q I rx h
  obtain ⟨W, G, m, v, x, r, rfl, hr, q, e, k⟩ := h
  obtain ⟨u, rfl, ru⟩ := vals1 rx
  have e : ((rpD x).bind fun s => if s.length ≤ big then some (⟨.v, .str s⟩ : R) else none) = some r := e
  obtain ⟨t, e1, e2⟩ := Option.bind_eq_some_iff.mp e
  unfold rpD at e1
  by_cases hc : (shB x && decide (x.depth ≤ 60) && decide ((toQ x).shown.length ≤ 16777216)) = true
  · rw [if_pos hc] at e1
    cases e1
    rw [Bool.and_eq_true, Bool.and_eq_true, decide_eq_true_eq, decide_eq_true_eq] at hc
    obtain ⟨⟨hs, hdp⟩, hz⟩ := hc
    have hlen : (toQ x).shown.cps.toList.length ≤ big := by
      show _ ≤ 16777216
      simpa [Str.length] using hz
    rw [if_pos hlen] at e2
    cases e2
    have w3 := shB_ok x hs
    have es : (toQ x).shown = S (toQ x).shown.cps.toList := by simp [S]
    have fin : ∀ (s' : Shared) (u : Tok), Inv X pins σ H s' → EP X pins σ Q (.str (toQ x).shown u) s' := fun s' u I' => by
      refine ⟨.str (toQ x).shown, H, I', ⟨_, rfl⟩, ?_⟩
      rw [es]
      exact k W H _ (Wd.Le.refl _) hr (.str _ ⟨by rw [sizeLine_eq]; exact hlen, okC_shown x hs⟩)
    by_cases hb : isBox x = true
    · have hd : ∃ a, u = .ref a := by
        have bx : ∃ a, v = .ref a := by
          rcases q with q | ⟨a, rfl, _⟩
          · cases x with
            | tup ds => cases q; exact ⟨_, rfl⟩
            | lst ds => cases q; exact ⟨_, rfl⟩
            | dic t kvs => cases q <;> exact ⟨_, rfl⟩
            | _ => cases hb
          · exact ⟨a, rfl⟩
        obtain ⟨a, rfl⟩ := bx
        cases ru
        exact ⟨a, rfl⟩
      obtain ⟨a, rfl⟩ := hd
      exact rp_call I hr hb hs q ru (by rw [sizeLine_eq]; exact hz) hg (by omega) fun h' u tk2 kp => fin _ u (I.kept (t' := tk2) kp)
    · cases x with
      | non =>
        have ev := q.non
        subst ev
        cases ru
        exact PySem.P.repr_of_none (fin _ _ (I.tok _))
      | bl b =>
        have ev := q.bl
        subst ev
        cases ru
        exact PySem.P.repr_of_bool (by cases b <;> exact fin _ _ (I.tok _))
      | int i =>
        have ev := q.int
        subst ev
        obtain ⟨t, rfl⟩ := ru
        exact PySem.P.repr_of_int (by simpa [shB] using hs) (fin _ _ (I.tok _))
      | str z =>
        obtain ⟨ev, _⟩ := q.str
        subst ev
        obtain ⟨t, rfl⟩ := ru
        exact PySem.P.repr_of_str (fin _ _ (I.tok _)) (by rw [sizeLine_eq]; exact hz)
      | ref _ => cases hs
      | scr _ => cases hs
      | _ => exact absurd rfl hb
  · rw [if_neg hc] at e1; cases e1
end
end Dn

/-! DnV -/
set_option Elab.async false
set_option linter.all false
set_option maxRecDepth 100000
set_option maxHeartbeats 1000000
/-! DnV: sets of texts. -/
namespace Dn
open PySem PySem.Spec PyProof.Rows L2

def txt (e : Int × Value) : Str := match e.2 with | .str k _ => k | _ => Str.empty
def TxE (w : World) (e : Int × Value) : Prop := ∃ k u, e = (hashStr w k, Value.str k u)
/-- at a: a set of the texts l, each once -/
def TxSet (w : World) (h : Heap) (a : Addr) (l : List Str) : Prop :=
  ∃ (o : Obj) (es : Array (Int × Value)) (ep : Nat) (t : SetTable), h.get? a = some o ∧ o.ExactSet ∧ o.data = .set es ep t ∧ (∀ e ∈ es.toList, TxE w e) ∧ (es.toList.map txt).Perm l ∧ l.Nodup ∧
    t.fits es.size = true ∧ Ris t.place.toList ∧ (w.params.followText "set-order" = true ∨ t.led = true)
section
variable {P : Program} {w : World} {A : Around} {E : Value → Shared → Prop} {s : Shared} {a : Addr} {l : List Str}
theorem TxE.is {e : Int × Value} (h : TxE w e) (k : Str) : (strKind P w).is k e.2 = true ↔ txt e = k := by
  obtain ⟨k0, u, rfl⟩ := h
  show Value.isStrOf k (.str k0 u) = true ↔ k0 = k
  simp [Value.isStrOf]
theorem tx_elems {es : List (Int × Value)} (h : ∀ e ∈ es, TxE w e) : ElemsOf (strKind P w) es := fun e he => by
  obtain ⟨k, u, rfl⟩ := h e he
  exact ⟨⟨k, by show Value.isStrOf k (.str k u) = true; simp [Value.isStrOf], rfl⟩, rfl⟩
theorem TxSet.mono {h h' : Heap} (R : TxSet w h a l) (k : ∀ o, h.get? a = some o → h'.get? a = some o) : TxSet w h' a l := by
  obtain ⟨o, es, ep, t, ho, q⟩ := R
  exact ⟨o, es, ep, t, k o ho, q⟩
theorem TxSet.size {h : Heap} (R : TxSet w h a l) : ∃ o es ep t, h.get? a = some o ∧ o.ExactSet ∧ o.data = .set es ep t ∧ es.size = l.length ∧ t.fits es.size = true := by
  obtain ⟨o, es, ep, t, ho, hx, hd, _, p, _, f, _⟩ := R
  exact ⟨o, es, ep, t, ho, hx, hd, by rw [← p.length_eq, List.length_map, Array.length_toList], f⟩
/-- what a write to a set leaves there -/
theorem put_get {h : Heap} {o : Obj} {es e2 : Array (Int × Value)} {ep : Nat} {t t2 : SetTable} (q1 : h.get? a = some o) (q2 : o.data = .set es ep t) : (h.update a (Obj.putSet e2 t2)).get? a = some { o with data := .set e2 (ep + 1) t2 } := by
  have z := Heap.get?_update_self (Obj.putSet e2 t2) q1 (by rw [putSet_of e2 t2 q2]; rfl)
  rwa [putSet_of e2 t2 q2] at z
/-- the store behind a new member, and a new table where it is full -/
theorem tx_store {gw : Bool → Sem Unit} (hgw : ∀ (b : Bool) (s1 : Shared) (R1 : Unit → Shared → Prop), R1 () s1 → wpAny (model P w) A (gw b) R1 E s1) {o : Obj} {es : Array (Int × Value)} {ep : Nat} {t : SetTable} (q1 : s.heap.get? a = some o) (qx : o.ExactSet) (q2 : o.data = .set es ep t) {e1 : Array (Int × Value)} {t1 : SetTable} {l1 : List Str} (g1 : ∀ e ∈ e1.toList, TxE w e) (p1 : (e1.toList.map txt).Perm l1) (n1 : l1.Nodup) (z1 : e1.size < scanBound) (f1 : t1.fits e1.size = true) (r1 : Ris t1.place.toList) (d1 : w.params.followText "set-order" = true ∨ t1.led = true) {wd : Bool} {R : Option Bool → Shared → Prop} (k : ∀ h2, Heap.SameBut a s.heap h2 → TxSet w h2 a l1 → R (some true) { s with heap := h2 }) :
    wpAny (model P w) A (do storeSet a e1 t1; if (!wd && t1.tooFull) = true then (do gw (relayAll t1 e1 (SetTable.grown e1.size)).2.2; storeSet a (relayAll t1 e1 (SetTable.grown e1.size)).1 (relayAll t1 e1 (SetTable.grown e1.size)).2.1; pure (some true)) else pure (some true)) R E s := by
  have v1 := put_get (e2 := e1) (t2 := t1) q1 q2
  refine wpAny_bind (wpAny_storeSet_of q1 q2 ?_ (fits_of_scanBound z1))
  by_cases c : (!wd && t1.tooFull) = true
  · rw [if_pos c]
    have a1 := relayAll_perm t1 e1 (SetTable.grown e1.size)
    have a2 := relayAll_fits t1 e1 (SetTable.grown e1.size)
    have a3 := relayAll_ris t1 e1 (SetTable.grown e1.size)
    have a4 := relayAll_led t1 e1 (SetTable.grown e1.size)
    have a5 : (relayAll t1 e1 (SetTable.grown e1.size)).1.size < scanBound := by
      have := a1.length_eq
      rw [Array.length_toList, Array.length_toList] at this
      omega
    have v2 := put_get (e2 := (relayAll t1 e1 (SetTable.grown e1.size)).1) (t2 := (relayAll t1 e1 (SetTable.grown e1.size)).2.1) v1 rfl
    refine wpAny_bind (hgw _ _ _ (wpAny_bind (wpAny_storeSet_of v1 rfl (wpAny_pure (k _ ((Heap.SameBut.update s.heap a _).trans (Heap.SameBut.update _ a _)) ?_)) (fits_of_scanBound a5))))
    exact ⟨_, _, _, _, v2, qx, rfl, fun e he => g1 e (a1.mem_iff.mp he), (a1.map txt).trans p1, n1, a2, a3, d1.imp_right fun z => a4.trans z⟩
  · rw [if_neg c]
    exact wpAny_pure (k _ (Heap.SameBut.update s.heap a _) ⟨_, _, _, _, v1, qx, rfl, g1, p1, n1, f1, r1, d1⟩)
/-- a text is added -/
theorem tx_add {k : Str} {u : Tok} {Q : Bool → Shared → Prop} (R : TxSet w s.heap a l) (room : l.length + 1 < scanBound) (hQ : ∀ h2 b, Heap.SameBut a s.heap h2 → TxSet w h2 a (if k ∈ l then l else k :: l) → Q b { s with heap := h2 }) : wpAny (model P w) A (setAddHashed a (.str k u) (hashStr w k)) Q E s := by
  obtain ⟨o, es, ep, t, q1, qx, q2, g, p, nd, f, r, d⟩ := R
  have len : es.size = l.length := by rw [← p.length_eq, List.length_map, Array.length_toList]
  have el : ElemsOf (strKind P w) es.toList := tx_elems g
  have ks : (strKind P w).is k (.str k u) = true := by show Value.isStrOf k (.str k u) = true; simp [Value.isStrOf]
  unfold setAddHashed setAddHashedIn
  refine wpAny_holding (wpAny_bind (wpAny_setState_of q1 q2 f ?_))
  dsimp only
  rw [byScan_of (knd := strKind P w) rfl (by omega) el, if_pos rfl]
  unfold setAddByScan
  refine wpAny_bind (wpAny_bind (wpAny_rule (wpAny_bind (wpAny_setScan_of (knd := strKind P w) ks q1 q2 f el ?_))))
  cases e1 : es.toList.findIdx? (fun e => (strKind P w).is k e.2) with
  | some j =>
    obtain ⟨hj, pj, _⟩ := List.findIdx?_eq_some_iff_getElem.mp e1
    have kl : k ∈ l := by
      refine p.mem_iff.mp (List.mem_map.mpr ⟨es.toList[j], List.getElem_mem hj, ?_⟩)
      exact ((g _ (List.getElem_mem hj)).is (P := P) k).mp pj
    have z := hQ s.heap false (Heap.SameBut.refl a s.heap)
    rw [if_pos kl] at z
    exact wpAny_pure (wpAny_pure (z ⟨o, es, ep, t, q1, qx, q2, g, p, nd, f, r, d⟩))
  | none =>
    have kl : k ∉ l := fun hk => by
      obtain ⟨e, he, ee⟩ := List.mem_map.mp (p.mem_iff.mpr hk)
      have z := List.findIdx?_eq_none_iff.mp e1 e he
      rw [((g e he).is (P := P) k).mpr ee] at z
      cases z
    dsimp only
    have b1 := layNew_perm t es (hashStr w k) (.str k u)
    have b2 := layNew_fits t es (hashStr w k) (.str k u)
    have b3 := layNew_ris t es (hashStr w k) (.str k u) r
    have b4 := layNew_led t es (hashStr w k) (.str k u)
    have hgw : ∀ (b : Bool) (s1 : Shared) (R1 : Unit → Shared → Prop), R1 () s1 → wpAny (model P w) A (match b with | true => rule "set.scan.the-table-gave-way" | false => pure ()) R1 E s1 := fun b s1 R1 z => by cases b <;> first | exact wpAny_pure z | exact wpAny_rule z
    show wpAny (model P w) A _ _ E s
    have hh : (strKind P w).hash k = hashStr w k := rfl
    generalize layNew t es (hashStr w k) (.str k u) = Z at b1 b2 b3 b4 ⊢
    obtain ⟨e1', t1, wd, gave⟩ := Z
    dsimp only at b1 b2 b3 b4 ⊢
    rw [Array.toList_push] at b1
    have c1 := b1.trans (List.perm_append_singleton _ _)
    have c2 : ∀ e ∈ e1'.toList, TxE w e := fun e he => (List.mem_cons.mp (c1.mem_iff.mp he)).elim (fun z => ⟨k, u, z⟩) (g e)
    have c3 : (e1'.toList.map txt).Perm (k :: l) := (c1.map txt).trans (p.cons k)
    have c4 : (k :: l).Nodup := List.nodup_cons.mpr ⟨kl, nd⟩
    have c5 : e1'.size < scanBound := by
      have := c1.length_eq
      rw [Array.length_toList, List.length_cons, Array.length_toList] at this
      omega
    have c6 : w.params.followText "set-order" = true ∨ t1.led = true := d.imp_right fun z => b4.trans z
    have fin : ∀ h2, Heap.SameBut a s.heap h2 → TxSet w h2 a (k :: l) → Q true { s with heap := h2 } := fun h2 sb z => by
      have y := hQ h2 true sb
      rw [if_neg kl] at y
      exact y z
    refine wpAny_bind (hgw _ _ _ ?_)
    by_cases hp : t1.plain = true
    · rw [if_pos hp]
      refine wpAny_bind ?_
      rw [hashByValue_scannable 8 (x := Value.str k u) rfl]
      refine wpAny_pure ?_
      refine tx_store ?_ q1 qx q2 c2 c3 c4 c5 ?_ ?_ ?_ ?_
      · intro b s1 R1 z; cases b <;> first | exact wpAny_pure z | exact wpAny_rule z
      · first | (split <;> first | exact b2 | exact SetTable.fits_plain_off b2) | exact b2
      · first | (split <;> exact b3) | exact b3
      · first | (split <;> exact c6) | exact c6
      · intro h2 sb z; exact wpAny_pure (fin h2 sb z)
    · rw [if_neg hp]
      refine wpAny_bind (wpAny_pure ?_)
      simp only [↓reduceIte]
      refine tx_store ?_ q1 qx q2 c2 c3 c4 c5 b2 b3 c6 ?_
      · intro b s1 R1 z; cases b <;> first | exact wpAny_pure z | exact wpAny_rule z
      · intro h2 sb z; exact wpAny_pure (fin h2 sb z)
end
section
variable {P : Program} {w : World} {A : Around} {I : Addr} {fp wr : List Addr} {G : Array GenState → Array GenState → Prop} {n : Nat} {Pv : Nat → Value → Prop} {St : Nat → Shared → Prop} {R : Result → Shared → Prop}
/-- the members told one by one -/
def Upto (val : Nat → Str) (i : Nat) (l : List Str) : Prop := (∀ x, x ∈ l ↔ ∃ j, j < i ∧ val j = x) ∧ l.length ≤ i
theorem Upto.next {val : Nat → Str} {i : Nat} {l : List Str} (h : Upto val i l) : Upto val (i + 1) (if val i ∈ l then l else val i :: l) := by
  obtain ⟨h1, h2⟩ := h
  have key : ∀ x, (x = val i ∨ x ∈ l) ↔ ∃ j, j < i + 1 ∧ val j = x := fun x => by
    rw [h1 x]
    constructor
    · rintro (rfl | ⟨j, hj, e⟩)
      · exact ⟨i, Nat.lt_succ_self _, rfl⟩
      · exact ⟨j, Nat.lt_succ_of_lt hj, e⟩
    · rintro ⟨j, hj, e⟩
      rcases Nat.lt_succ_iff_lt_or_eq.mp hj with z | z
      · exact .inr ⟨j, z, e⟩
      · rw [z] at e; exact .inl e.symm
  by_cases c : val i ∈ l
  · rw [if_pos c]
    refine ⟨fun x => ?_, Nat.le_succ_of_le h2⟩
    rw [← key x]
    exact ⟨.inr, fun z => z.elim (fun e => e ▸ c) id⟩
  · rw [if_neg c]
    refine ⟨fun x => ?_, by rw [List.length_cons]; omega⟩
    rw [← key x, List.mem_cons]
/-- the loop that fills a set -/
theorem tx_loop (W : WalksS P w A.in1 I fp wr G n Pv St) (S : Addr) (hS : S ∉ fp) (val : Nat → Str) (hv : ∀ i v, Pv i v → ∃ u, v = .str (val i) u) (hb : n + 1 < scanBound) : ∀ (k i : Nat) (s : Shared) (l : List Str), n - i = k → i ≤ n → St i s → TxSet w s.heap S l → Upto val i l →
    (∀ s2 l2, Moved (S :: wr) G s s2 → TxSet w s2.heap S l2 → Upto val n l2 → R (.ok (.ret .none)) s2) → codeAny (model P w) A (.builtin "set.update.loop" ⟨[.ref S, .ref I], []⟩) R s
  | 0, i, s, l, hk, hi, st, T, up, fin => by
    have e : i = n := by omega
    subst e
    refine codeAny_builtin PyProof.Rows.F.entry_set_update_loop ?_
    rw [Around.under_plainId PyProof.Rows.F.plain_set_update_loop _]
    show wpAny _ A.in1 (pyNext (.ref I) >>= _) _ _ s
    refine wpAny_bind (W.done s _ _ st fun s2 mv => ?_)
    exact wpAny_pure (fin s2 l (mv.mono fun b q => List.mem_cons_of_mem _ q) (T.mono fun o z => mv.heap S o (fun q => hS (W.sub _ q)) z) up)
  | k + 1, i, s, l, hk, hi, st, T, up, fin => by
    have lt : i < n := by omega
    refine codeAny_builtin PyProof.Rows.F.entry_set_update_loop ?_
    rw [Around.under_plainId PyProof.Rows.F.plain_set_update_loop _]
    show wpAny _ A.in1 (pyNext (.ref I) >>= _) _ _ s
    refine wpAny_bind (W.item i s _ _ lt st fun v s2 pv st2 mv => ?_)
    obtain ⟨u, rfl⟩ := hv i v pv
    have T2 := T.mono (h' := s2.heap) fun o z => mv.heap S o (fun q => hS (W.sub _ q)) z
    refine wpAny_bind (wpAny_holding ?_)
    unfold setAdd
    refine wpAny_holding (wpAny_bind ((strKind P w).pyHash (k := val i) (by show Value.isStrOf (val i) (.str (val i) u) = true; simp [Value.isStrOf]) ?_))
    have room : l.length + 1 < scanBound := by have := up.2; omega
    refine tx_add (s := { s2 with toks := s2.toks + 1 }) T2 room fun h2 b sb T3 => wpAny_pure ⟨plainId_quiet PyProof.Rows.F.plain_set_update_loop _, ?_⟩
    refine tx_loop W S hS val hv hb k (i + 1) _ _ (by omega) lt (W.frame _ s2 _ _ st2 (Nat.le_succ _) fun c q o z => (sb.2 c (fun (y : c = S) => hS (y ▸ q))).trans z) T3 up.next fun s3 l3 mv3 T4 up4 => ?_
    refine fin s3 l3 (Moved.trans W.gtrans ((mv.mono fun c q => List.mem_cons_of_mem _ q).then_heap (Nat.le_succ _) fun c o q z => ?_) mv3) T4 up4
    exact (sb.2 c (fun (y : c = S) => q (by rw [y]; exact List.mem_cons_self))).trans z
end
/-- what a set is made of: its iterator stands at once -/
def SrcOk (P : Program) (w : World) (h : Heap) (src : Value) (n : Nat) (val : Nat → Str) : Prop :=
  ∀ (A : Around) (E : Value → Shared → Prop) (s : Shared) (Q : Value → Shared → Prop), (∀ b o, h.get? b = some o → s.heap.get? b = some o) → h.objs.size ≤ s.heap.objs.size →
    (∀ (o : Obj) (fp : List Addr) (Pv : Nat → Value → Prop) (St : Nat → Heap → Prop), (∀ A2 : Around, A2.handled = none → Walks P w A2 s.heap.objs.size fp [s.heap.objs.size] n Pv St) → (∀ b ∈ fp, b = s.heap.objs.size ∨ b < h.objs.size) →
      (∀ i v, Pv i v → ∃ u, v = .str (val i) u) → St 0 (s.heap.push o) → Q (.ref s.heap.objs.size) { s with heap := s.heap.push o }) → wpAny (model P w) A (pyIter src) Q E s
section
variable {P : Program} {w : World} {A : Around} {E : Value → Shared → Prop} {s : Shared}
theorem src_list {l : Addr} {items : Array Value} {xs : List Str} (hl : s.heap.IsList l items) (hi : StrsAre items.toList xs) : SrcOk P w s.heap (.ref l) items.size fun i => xs.getD i Str.empty := by
  intro A E s2 Q kp sz k
  obtain ⟨o, ho, r⟩ := hl
  have hl2 : s2.heap.IsList l items := ⟨o, kp _ _ ho, r⟩
  have lt := Heap.lt_size ho
  refine wpAny_pyIter_list hl2 (k _ [s2.heap.objs.size, l] _ _ (fun A2 h2 => Walks.list h2 _ l (Nat.ne_of_lt (Nat.lt_of_lt_of_le lt sz)) items) (fun b hb => ?_) (fun i v z => SS.strs_at hi i v (by rw [Array.getElem?_toList]; exact z)) ⟨⟨_, Heap.get?_push_size _ rfl, rfl, rfl⟩, hl2.push _⟩)
  simp only [List.mem_cons, List.not_mem_nil, or_false] at hb
  rcases hb with rfl | rfl
  · exact .inl rfl
  · exact .inr lt
theorem src_tuple {l : Addr} {items : Array Value} {xs : List Str} (hl : s.heap.IsTuple l items) (hi : StrsAre items.toList xs) : SrcOk P w s.heap (.ref l) items.size fun i => xs.getD i Str.empty := by
  intro A E s2 Q kp sz k
  obtain ⟨o, ho, r⟩ := hl
  have hl2 : s2.heap.IsTuple l items := ⟨o, kp _ _ ho, r⟩
  have lt := Heap.lt_size ho
  refine wpAny_pyIter_tuple hl2 (k _ [s2.heap.objs.size, l] _ _ (fun A2 h2 => Walks.tuple h2 _ l (Nat.ne_of_lt (Nat.lt_of_lt_of_le lt sz)) items) (fun b hb => ?_) (fun i v z => SS.strs_at hi i v (by rw [Array.getElem?_toList]; exact z)) ⟨⟨_, Heap.get?_push_size _ rfl, rfl, rfl⟩, hl2.push _⟩)
  simp only [List.mem_cons, List.not_mem_nil, or_false] at hb
  rcases hb with rfl | rfl
  · exact .inl rfl
  · exact .inr lt
theorem src_str {x : Str} {u : Tok} : SrcOk P w s.heap (.str x u) x.cps.size fun i => ⟨#[x.cps.getD i 0]⟩ := by
  intro A E s2 Q kp sz k
  refine wpAny_pyIter_str fun o St W st => k o [s2.heap.objs.size] _ St W (fun b hb => .inl (by simpa using hb)) (fun i v z => ?_) st
  obtain ⟨c, u, e, rfl⟩ := z
  refine ⟨u, ?_⟩
  have : x.cps.getD i 0 = c := by simp [Array.getD_eq_getD_getElem?, e]
  show _ = Value.str ⟨#[x.cps.getD i 0]⟩ u
  rw [this]
/-- the new set, its order's word kept -/
theorem tx_new (src : Value) {Q1 : Value → Shared → Prop} (h : Q1 (.ref s.heap.objs.size) { s with heap := s.heap.push { cls := .type "set", dict := none, data := .set #[] 0 (.fresh 0 0 (!w.params.followText "set-order")) } }) : codeAny (model P w) A (.call (.builtin "set.__new__") ⟨[.type "set", src], []⟩) (wants Q1 E) s := by
  refine codeAny_of_tree ?_
  show wpAny _ A.in1 (checkBuiltinCall "set.__new__" ⟨[.type "set", src], []⟩ >>= fun _ => again (.builtin "set.__new__" ⟨[.type "set", src], []⟩)) _ _ s
  refine wpAny_bind (wpAny_of_eq (F.newCall_set_1 src) (wpAny_pure ⟨plainId_quiet F.plain_set_new _, codeAny_builtin F.entry_set_new ?_⟩))
  rw [Around.under_plainId F.plain_set_new _]
  unfold Builtin.«set.__new__» Builtin.Frozenset.newClass
  have sub := sub_set_self
  obtain ⟨hp, g, d, tk, os⟩ := s
  dsimp only
  wp_walk
  refine wpAny_askSetting (wpAny_pure ?_)
  dsimp only
  simp only [newObj]
  exact wpAny_bind (wpAny_alloc (wpAny_pure (wpAny_pure h)))
theorem tx_fresh {h : Heap} (w : World) : TxSet w (h.push { cls := .type "set", dict := none, data := .set #[] 0 (.fresh 0 0 (!w.params.followText "set-order")) }) h.objs.size [] :=
  ⟨_, #[], 0, _, Heap.get?_push_size _ rfl, ⟨rfl, rfl, rfl⟩, rfl, fun e he => by simp at he, by simp, List.nodup_nil, by rfl, List.Pairwise.nil, by
    show _ ∨ (!w.params.followText "set-order") = true
    cases w.params.followText "set-order" <;> simp⟩
/-- a set is filled from what it is made of -/
theorem tx_from {src : Value} {T : String} {n : Nat} {val : Nat → Str} {S : Addr} {h0 : Heap} {Q : Unit → Shared → Prop} (hh : A.handled = none) (so : SrcOk P w h0 src n val) (kp : ∀ b o, h0.get? b = some o → s.heap.get? b = some o) (hS : S = h0.objs.size) (sz : s.heap.objs.size = h0.objs.size + 1)
    (ty : s.TypeIs src T) (u1 : isSubtype (.type T) (.type "set") = pure false) (u2 : isSubtype (.type T) (.type "frozenset") = pure false) (u3 : (Value.type T == Value.type "dict") = false) (hb : n + 1 < scanBound) (T0 : TxSet w s.heap S [])
    (h : ∀ (h2 : Heap) (tk : Nat) (l : List Str), TxSet w h2 S l → Upto val n l → (∀ b o, h0.get? b = some o → h2.get? b = some o) → Q () { s with heap := h2, toks := tk }) : wpAny (model P w) A (Builtin.Frozenset.updateFrom "set.__init__" S src) Q E s := by
  unfold Builtin.Frozenset.updateFrom
  have w1 : ∀ {Q1 : Bool → Shared → Prop}, Q1 false s → wpAny (model P w) A (Builtin.Frozenset.isAnySet src) Q1 E s := fun {Q1} z => by
    unfold Builtin.Frozenset.isAnySet
    refine wpAny_bind (wpAny_isInstance ty u1 ?_)
    exact wpAny_isInstance ty u2 z
  refine wpAny_bind (w1 ?_)
  simp only [Bool.false_eq_true, if_false]
  refine wpAny_bind (wpAny_typeOf ty ?_)
  simp only [u3, Bool.false_eq_true, if_false]
  refine wpAny_bind (so A E s _ kp (by omega) fun o fp Pv St W fps hv st => ?_)
  have nS : S ∉ fp := fun q => by
    rcases fps S q with z | z
    · rw [hS, sz] at z
      exact absurd z (Nat.ne_of_lt (Nat.lt_succ_self _))
    · rw [hS] at z
      exact absurd z (Nat.lt_irrefl _)
  have T1 : TxSet w (s.heap.push o) S [] := T0.mono fun o2 z => Heap.get?_push_of_some _ z
  refine wpAny_bind (wpAny_runValue ?_)
  refine tx_loop ((W A.in1 hh).toS) S nS val hv hb n 0 _ [] (by omega) (Nat.zero_le _) st T1 ⟨fun x => by simp, Nat.le_refl _⟩ fun s2 l mv T2 up => ?_
  have hm := mv.heap
  have eg : s2.gens = s.gens := mv.gens
  have ed : s2.drawn = s.drawn := mv.drawn
  have eo : s2.os = s.os := mv.os
  have e : s2 = { s with heap := s2.heap, toks := s2.toks } := by
    cases s2; cases s
    simp only at eg ed eo
    rw [eg, ed, eo]
  show wpAny _ _ (pure ()) _ _ s2
  refine wpAny_pure ?_
  rw [e]
  refine h s2.heap s2.toks l T2 up fun b o2 z => ?_
  have lt := Heap.lt_size z
  refine hm b o2 (fun q => ?_) (Heap.get?_push_of_some _ (kp b o2 z))
  simp only [List.mem_cons, List.not_mem_nil, or_false] at q
  rcases q with q | q
  · rw [q, hS] at lt
    exact Nat.lt_irrefl _ lt
  · rw [q, sz] at lt
    exact absurd lt (Nat.not_lt_of_le (Nat.le_succ _))
set_option maxHeartbeats 4000000 in
/-- set(src) -/
theorem call_tx {src : Value} {T : String} {n : Nat} {val : Nat → Str} {Q : Value → Shared → Prop} (hh : A.handled = none) (so : SrcOk P w s.heap src n val)
    (ty : ∀ s2 : Shared, (∀ b o, s.heap.get? b = some o → s2.heap.get? b = some o) → s2.TypeIs src T) (u1 : isSubtype (.type T) (.type "set") = pure false) (u2 : isSubtype (.type T) (.type "frozenset") = pure false) (u3 : (Value.type T == Value.type "dict") = false) (hb : n + 1 < scanBound)
    (h : ∀ (h2 : Heap) (tk : Nat) (l : List Str), TxSet w h2 s.heap.objs.size l → Upto val n l → (∀ b o, s.heap.get? b = some o → h2.get? b = some o) → Q (.ref s.heap.objs.size) { s with heap := h2, toks := tk }) : wpAny (model P w) A (call (.type "set") [src]) Q E s := by
  have ct := F.typeCall_set_1 src
  obtain ⟨c, tl, mro⟩ := F.called_set.mro
  have mk := F.called_set.made
  have sb := F.called_set.sub
  have nt := F.called_set.notType
  have cc := F.called_set.canCreate
  refine wpAny_call (codeAny_of_tree ?_)
  show wpAny _ _ (callAny (.type "set") _) _ _ _
  refine wpAny_pure ⟨Code.quiet_builtin _ (by decide +kernel), codeAny_builtin F.entry_type_call ?_⟩
  rw [Around.under_plain (weight_type_call_type "set" [src] []) rfl]
  repeat (any_goals (first | assumption | wp_step))
  refine codeAny_mono (tx_new src (E := E) (Q1 := fun v s1 => v = .ref s.heap.objs.size ∧ s1 = { s with heap := s.heap.push { cls := .type "set", dict := none, data := .set #[] 0 (.fresh 0 0 (!w.params.followText "set-order")) } }) ⟨rfl, rfl⟩) fun r s1 hr => ?_
  cases r with
  | error e => exact hr
  | ok fl =>
    cases fl with
    | ret v =>
      obtain ⟨rfl, rfl⟩ := hr
      have g0 : (s.heap.push { cls := .type "set", dict := none, data := .set #[] 0 (.fresh 0 0 (!w.params.followText "set-order")) }).get? s.heap.objs.size = some { cls := .type "set", dict := none, data := .set #[] 0 (.fresh 0 0 (!w.params.followText "set-order")) } := Heap.get?_push_size _ rfl
      have hT : Shared.TypeIs { s with heap := s.heap.push { cls := .type "set", dict := none, data := .set #[] 0 (.fresh 0 0 (!w.params.followText "set-order")) } } (.ref s.heap.objs.size) "set" := ⟨_, g0, rfl⟩
      have li := F.called_set.init.lookup
      have bi := F.called_set.init.bind (.ref s.heap.objs.size)
      repeat (any_goals (first | assumption | wp_step))
      refine codeAny_mono (codeAny_call_builtin (R := wants (fun r s2 => r = .none ∧ Q (.ref s.heap.objs.size) s2) E) F.called_set.init.plain F.entry_set_init (check_set_init_1 hT ?_)) fun r2 s2 hr2 => ?_
      · unfold Builtin.«set.__init__» noKeywords
        generalize hU : Builtin.Frozenset.updateFrom = UF
        wp_walk
        subst hU
        refine tx_from (T := T) (S := s.heap.objs.size) (h0 := s.heap) (by simp [hh]) so (fun b o z => Heap.get?_push_of_some _ z) rfl (by rw [Heap.size_push]) (ty _ fun b o z => Heap.get?_push_of_some _ z) u1 u2 u3 hb (tx_fresh w) fun h2 tk l a1 a2 a3 => ?_
        show wpAny _ _ (ret Value.none) _ _ _
        exact wpAny_pure ⟨rfl, h h2 tk l a1 a2 a3⟩
      · cases r2 with
        | error e => exact hr2
        | ok fl2 =>
          cases fl2 with
          | ret r =>
            obtain ⟨rfl, hq⟩ := hr2
            repeat (any_goals (first | assumption | wp_step))
          | _ => exact hr2.elim
    | _ => exact hr.elim
/-- the members of a set, in a list -/
theorem txt_strs {es : List (Int × Value)} : ∀ {vs : List Value}, (∀ v ∈ vs, ∃ k u, v = Value.str k u) → StrsAre vs (vs.map fun v => txt (0, v))
  | [], _ => .nil
  | v :: r, h => by
    obtain ⟨k, u, rfl⟩ := h v List.mem_cons_self
    exact .cons k u (txt_strs (es := es) fun x hx => h x (List.mem_cons_of_mem _ hx))
/-- sorted(a set of texts) -/
theorem sorted_tx {a : Addr} {l : List Str} {Q : Value → Shared → Prop} (R : TxSet w s.heap a l) (hh : A.handled = none) (hb : l.length < scanBound)
    (hQ : ∀ (s2 : Shared) (p : Addr) (out : Array Value) (c : Nat) (ss : List Str), (∀ b o, s.heap.get? b = some o → s2.heap.get? b = some o) → s2.gens = s.gens → s2.os = s.os → s.heap.objs.size ≤ p → s2.heap.get? p = some (seqObj "list" out c) → StrsAre out.toList ss → ss.Perm l → sortedS ss = true → Q (.ref p) s2) :
    wpAny (model P w) A (call (.builtin "sorted") [.ref a]) Q E s := by
  obtain ⟨o, es, ep, t, q1, qx, q2, g, pm, nd, f, r, d⟩ := R
  have len : es.size = l.length := by rw [← pm.length_eq, List.length_map, Array.length_toList]
  refine Calls.call_function_entry kind_sorted plain_sorted entry_sorted (args_sorted1 _) ?_
  unfold Builtin.«sorted»
  refine wpAny_bind (m := checkCount "sorted" 1 1 _) (wpAny_pure ?_)
  refine wpAny_bind (collect_set (A := A.in1) hh ⟨o, q1, qx.1, q2⟩ f (by omega) r d fun s1 vs k1 zz g1 o1 pv => ?_)
  have lv : vs.length = l.length := by rw [pv.length_eq, List.length_map, Array.length_toList, len]
  have sv : StrsAre vs (vs.map fun v => txt (0, v)) := txt_strs (es := []) fun v hv => by
    obtain ⟨e, he, rfl⟩ := List.mem_map.mp (pv.mem_iff.mp hv)
    obtain ⟨k, u, rfl⟩ := g e he
    exact ⟨k, u, rfl⟩
  have pl : (vs.map fun v => txt (0, v)).Perm l := by
    refine List.Perm.trans ?_ pm
    have := pv.map fun v => txt (0, v)
    rw [List.map_map] at this
    exact this
  have small : vs.length ≤ sizeLine := by rw [lv]; exact fits_of_scanBound hb
  refine wpAny_bind (wpAny_newList ?_ small)
  have gl : (s1.heap.push (seqObj "list" vs.toArray 0)).get? s1.heap.objs.size = some (seqObj "list" vs.toArray 0) := Heap.get?_push_size _ rfl
  refine wpAny_bind (wpAny_holding (wpAny_call_entry slot_list_sort ⟨_, gl, rfl⟩ entry_list_sort (list_sort_treeKAny strKind_oneLt gl sv.keysOf (fun v1 v2 rest e => keyKind_strs (by rw [← e]; exact sv)) small fun st b1 b2 => ⟨_, rfl, ?_⟩) (args_list_sort _)))
  obtain ⟨ss, c1, c2, c3⟩ := sorted_out_str sv b1 b2
  obtain ⟨c, hc⟩ := sortedHeap_at (vs := vs) (out := (arrOf st).map (·.2)) gl
  refine wpAny_pure ⟨_, rfl, hQ _ s1.heap.objs.size _ c ss (fun b u z => ?_) g1 o1 zz hc c1 (c2.trans pl) c3⟩
  have y := k1 b u z
  have lt := Heap.lt_size y
  show (sortedHeap (s1.heap.push (seqObj "list" vs.toArray 0)) s1.heap.objs.size vs _).get? b = some u
  rw [sortedHeap_old (Nat.ne_of_lt lt) (by rw [size_push']; exact Nat.lt_succ_of_lt lt)]
  exact Heap.get?_push_of_some _ y
end
end Dn

/-! DnG -/
set_option Elab.async false
set_option linter.all false
set_option maxRecDepth 100000
set_option maxHeartbeats 1000000
/-! DnG: sets of tuples of texts. -/
namespace Dn
open PySem PySem.Spec PyProof.Rows L2
/-- the tuple at a has the texts k -/
abbrev Tq (P : Program) (w : World) (h : Heap) (k : List Str) (a : Addr) : Prop := IsTupleKey (strKind P w) h k a
abbrev hq (P : Program) (w : World) (k : List Str) : Int := tupleKeyHash (strKind P w) k
section
variable {P : Program} {w : World} {A : Around} {E : Value → Shared → Prop} {s : Shared}
theorem q_items {k : List Str} {vs : List Value} (h : ItemsAre (strKind P w) k vs) : ∀ v ∈ vs, ∃ x t, v = Value.str x t := by
  induction h with
  | nil => exact fun v hv => nomatch hv
  | cons h1 _ ih =>
    intro v hv
    rcases List.mem_cons.mp hv with rfl | hv
    · obtain ⟨t, e⟩ := Value.isStrOf_shape h1
      exact ⟨_, t, e⟩
    · exact ih v hv
theorem q_class (n : Nat) (x : Str) (t : Tok) : ofAClassStatement n (.str x t) = pure false := by
  cases n <;> rfl
theorem q_byval (n : Nat) (x : Str) (t : Tok) : hashByValue n (.str x t) = pure false := by
  cases n <;> rfl
/-- such a tuple is of no class statement -/
theorem q_noclass {k : List Str} {b : Addr} {Q : Bool → Shared → Prop} (hk : Tq P w s.heap k b) (h : Q false s) : wpAny (model P w) A (ofAClassStatement 8 (.ref b)) Q E s := by
  have hT := hk.typeIs
  obtain ⟨o, items, n, ho, _, hd, hi⟩ := hk
  have hv := q_items hi
  unfold ofAClassStatement
  refine wpAny_bind (wpAny_typeOf hT ?_)
  dsimp only
  rw [show (("tuple" : String) == "tuple") = true from by decide]
  simp only [if_true, Bool.not_true, Bool.false_eq_true, if_false]
  try refine wpAny_bind (wpAny_pure ?_)
  try simp only [Bool.not_true, Bool.false_eq_true, if_false]
  show wpAny _ _ (seqItems? (.ref b) >>= _) _ _ s
  refine wpAny_bind (wpAny_seqItems ho hd ?_)
  dsimp only
  refine wpAny_bind ?_
  rw [← Array.forIn_toList]
  generalize items.toList = l at hv
  induction l with
  | nil => exact wpAny_pure (wpAny_pure h)
  | cons v r ih =>
    obtain ⟨x, t, rfl⟩ := hv v (by simp)
    rw [List.forIn_cons, q_class]
    refine wpAny_bind (wpAny_bind (wpAny_pure ?_))
    simp only [Bool.false_eq_true, if_false]
    exact wpAny_pure (ih fun u hu => hv u (by simp [hu]))
/-- its hash is told by value or not -/
theorem q_hashby {k : List Str} {b : Addr} {Q : Bool → Shared → Prop} (hk : Tq P w s.heap k b) (h : ∀ z, Q z s) : wpAny (model P w) A (hashByValue 8 (.ref b)) Q E s := by
  have hT := hk.typeIs
  obtain ⟨o, items, n, ho, _, hd, hi⟩ := hk
  have hv := q_items hi
  unfold hashByValue
  refine wpAny_bind (wpAny_specialOf hT PySem.F.slot_tuple_hash.lookup ?_)
  show wpAny _ _ (seqItems? (.ref b) >>= _) _ _ s
  refine wpAny_bind (wpAny_seqItems ho hd ?_)
  refine wpAny_bind ?_
  show wpAny _ _ (forIn items _ _) _ _ s
  rw [← Array.forIn_toList]
  generalize items.toList = l at hv
  cases l with
  | nil => exact wpAny_pure (wpAny_pure (h true))
  | cons v r =>
    obtain ⟨x, t, rfl⟩ := hv v (by simp)
    rw [List.forIn_cons, q_byval]
    refine wpAny_bind (wpAny_bind (wpAny_pure ?_))
    simp only [Bool.not_false, if_true]
    exact wpAny_pure (wpAny_pure (wpAny_pure (h false)))
/-- a search among such tuples shows nothing -/
theorem q_seen {k : List Str} {b : Addr} {Q : Bool → Shared → Prop} (hk : Tq P w s.heap k b) (h : Q false s) : ∀ {ys : List Value}, (∀ y ∈ ys, ∃ k' c, y = Value.ref c ∧ Tq P w s.heap k' c) → wpAny (model P w) A (searchCouldBeSeen (.ref b) ys) Q E s := by
  intro ys hy
  unfold searchCouldBeSeen
  refine wpAny_bind ?_
  induction ys with
  | nil => exact wpAny_pure (wpAny_pure h)
  | cons y r ih =>
    obtain ⟨k', c, rfl, hc⟩ := hy y (by simp)
    have ih := ih fun u hu => hy u (by simp [hu])
    rw [List.forIn_cons]
    dsimp only
    by_cases z : (b == c || (carriedByValue (.ref b) && carriedByValue (.ref c))) = true
    · refine wpAny_bind (wp_if_pos z ?_)
      exact wpAny_pure ih
    · refine wpAny_bind (wp_if_neg z ?_)
      refine wpAny_bind (wpAny_eqIsQuiet_tuple hk ?_)
      simp only [Bool.not_true, Bool.false_eq_true, if_false]
      refine wpAny_bind (wpAny_eqIsQuiet_tuple hc ?_)
      simp only [Bool.not_true, Bool.false_eq_true, if_false]
      refine wpAny_bind (q_noclass hk ?_)
      simp only [Bool.false_eq_true, if_false]
      refine wpAny_bind (q_noclass hc ?_)
      simp only [Bool.false_eq_true, if_false]
      exact wpAny_pure ih
/-- what a set of such tuples is: its rows in the table's order -/
def qRows (P : Program) (w : World) (L : List (Addr × List Str)) : List (Int × Value) := L.map fun p => (hq P w p.2, Value.ref p.1)
structure QSet (P : Program) (w : World) (h : Heap) (a : Addr) (L : List (Addr × List Str)) (es : Array (Int × Value)) (ep : Nat) (t : SetTable) : Prop where
  at_ : ∃ o, h.get? a = some o ∧ o.ExactSet ∧ o.data = .set es ep t
  rows : es.toList = qRows P w L
  tab : TabOk t (L.map fun p => hq P w p.2)
  once : (L.map (·.2)).Nodup
  keys : ∀ p ∈ L, Tq P w h p.2 p.1
  led : w.params.followText "set-order" = true ∨ t.led = true
  free : L.length * 5 < t.mask * 3
  few : L.length < 64
variable {a : Addr} {L : List (Addr × List Str)} {es : Array (Int × Value)} {ep : Nat} {t : SetTable}
theorem QSet.len (R : QSet P w s.heap a L es ep t) : es.size = L.length := by
  have h := congrArg List.length R.rows
  rwa [Array.length_toList, qRows, List.length_map] at h
theorem QSet.row (R : QSet P w s.heap a L es ep t) {i : Nat} {p : Addr × List Str} (h : L[i]? = some p) : es[i]? = some (hq P w p.2, Value.ref p.1) := by
  rw [← Array.getElem?_toList, R.rows, qRows, List.getElem?_map, h]; rfl
theorem QSet.place (R : QSet P w s.heap a L es ep t) : t.place.size = L.length := by
  have h := R.tab.sz
  rwa [List.length_map] at h
theorem QSet.fits (R : QSet P w s.heap a L es ep t) : t.fits es.size = true := by
  have h1 := R.place
  have h2 := R.len
  have h3 := R.free
  unfold SetTable.fits SetTable.fill
  rw [R.tab.dm, Bool.and_eq_true, beq_iff_eq, decide_eq_true_eq]
  exact ⟨by omega, by show t.place.size + 0 ≤ t.mask; omega⟩
theorem QSet.stays (R : QSet P w s.heap a L es ep t) : ¬ t.gaveWay = true := by
  unfold SetTable.gaveWay
  rw [mask_odd R.tab.mok]
  decide
end
end Dn

/-! DnH -/
set_option Elab.async false
set_option linter.all false
set_option maxRecDepth 100000
set_option maxHeartbeats 1000000
/-! DnH: the search in a set of tuples of texts. -/
namespace Dn
open PySem PySem.Spec PyProof.Rows L2
section
variable {P : Program} {w : World} {A : Around} {E : Value → Shared → Prop} {s : Shared}
variable {a : Addr} {L : List (Addr × List Str)} {es : Array (Int × Value)} {ep : Nat} {t : SetTable}
/-- where a search for the hash h begins -/
abbrev beg (t : SetTable) (h : Int) : SetTable.Probe := runAt t.mask (SetTable.bits h % (t.mask + 1)) (SetTable.bits h)
theorem nodummy (m : Nat) : ∀ (n : Nat) (p : SetTable.Probe), p.dummy = none → (nth m p n).dummy = none
  | 0, p, h => h
  | n + 1, p, h => nodummy m n (adv m p) (by unfold adv; split <;> exact h)
theorem QSet.search (R : QSet P w s.heap a L es ep t) {x : Addr} {k : List Str} (hx : Tq P w s.heap k x) (hu : A.units < cLine) {K : Nat} (hK1 : K < 10 * SetTable.turns t.mask)
    (hK : way t.mask (hq P w k) K ∉ t.place.toList) (hb : ∀ c, c < K → way t.mask (hq P w k) c ∈ t.place.toList) {Q : SetFound → Shared → Prop}
    (hin : k ∈ L.map (·.2) → Q (.there none) s) (hout : k ∉ L.map (·.2) → Q (.free (way t.mask (hq P w k) K) false) s) :
    ∀ (f c : Nat) (st : Option SetTable.Probe), st.getD (t.probeStart (hq P w k)) = nth t.mask (beg t (hq P w k)) c → c ≤ K → K - c < f →
      (∀ (c' i : Nat) (p : Addr × List Str), c' < c → t.place.toList[i]? = some (way t.mask (hq P w k) c') → L[i]? = some p → p.2 ≠ k) →
      wpAny (model P w) A (setSearchFrom a (.ref x) (hq P w k) true f st) Q E s
  | 0, c, st, _, _, hf, _ => absurd hf (Nat.not_lt_zero _)
  | f + 1, c, st, hst, hc, hf, hp => by
    obtain ⟨o, ho, hex, hd⟩ := R.at_
    rw [setSearchFrom_succ]
    refine wpAny_bind (wpAny_setState_of ho hd R.fits ?_)
    dsimp only
    refine wp_if_neg R.stays ?_
    try refine wpAny_bind (wpAny_pure ?_)
    have on : ∀ q, (nth t.mask (nth t.mask (beg t (hq P w k)) c) q).j = way t.mask (hq P w k) (c + q) := fun q => congrArg SetTable.Probe.j (nth_add t.mask c _ q).symm
    have hashes : ∀ (i : Nat) p, L[i]? = some p → (es[i]?.map (·.1)).getD 0 = hq P w p.2 := fun i p h => by rw [R.row h]; rfl
    have inL : ∀ {i j : Nat}, t.place.toList[i]? = some j → i < L.length := fun {i j} h => by
      have h1 := (List.getElem?_eq_some_iff.mp h).1
      rw [Array.length_toList, R.place] at h1
      exact h1
    rcases go_spec t R.tab.ris R.tab.dm (fun i => (es[i]?.map (·.1)).getD 0) (hq P w k) (10 * SetTable.turns t.mask) (K - c) (nth t.mask (beg t (hq P w k)) c) (nodummy _ c _ rfl) (by omega)
      (fun q hq' => by rw [on]; exact hb (c + q) (by omega)) (by rw [on, show c + (K - c) = K by omega]; exact hK) with ⟨q, i, hq', hi, hh, hno, hpr⟩ | ⟨hno, hpr⟩
    · have e : t.probe (fun i => (es[i]?.map (·.1)).getD 0) (hq P w k) (st.getD (t.probeStart (hq P w k))) = some (.candidate (way t.mask (hq P w k) (c + q)) i (nth t.mask (beg t (hq P w k)) (c + (q + 1)))) := by
        rw [hst, ← on, nth_add t.mask c _ (q + 1)]
        exact hpr
      rw [e]
      dsimp only
      rw [on] at hi
      have il := inL hi
      have hL : L[i]? = some L[i] := List.getElem?_eq_getElem il
      have hm : L[i] ∈ L := List.getElem_mem il
      generalize L[i] = p at hL hm
      have hpk := R.keys p hm
      have rest : wpAny (model P w) A (searchRest a (.ref x) (hq P w k) true f es t (way t.mask (hq P w k) (c + q)) i (nth t.mask (beg t (hq P w k)) (c + (q + 1)))) Q E s := by
        unfold searchRest
        rw [R.row hL]
        dsimp only
        refine wpAny_bind (wpAny_holding (wpAny_eqBool_tuple hu hpk hx ?_))
        refine wpAny_bind (wpAny_setState_of ho hd R.fits ?_)
        dsimp only
        by_cases hk : p.2 = k
        · refine wp_if_pos (by simp [hk]) ?_
          exact wpAny_pure (hin (List.mem_map.mpr ⟨p, hm, hk⟩))
        · refine wp_if_neg (by simp [hk]) ?_
          try refine wpAny_bind (wpAny_pure ?_)
          rw [sameMem]
          dsimp only
          have live := slot_live R.tab.ris hi
          simp only [if_true, live, R.row hL]
          refine wpAny_bind (wpAny_isSame_ref_self (wpAny_bind (wpAny_pure ?_)))
          simp only [if_true]
          refine wp_if_neg (by simp [hk]) ?_
          refine QSet.search R hx hu hK1 hK hb hin hout f (c + (q + 1)) _ rfl (by omega) (by omega) fun c' i' p' hc' hi' hL' => ?_
          rcases Nat.lt_or_ge c' c with z | z
          · exact hp c' i' p' z hi' hL'
          · rcases Nat.lt_or_ge c' (c + q) with y | y
            · intro e'
              refine hno (c' - c) i' (by omega) (by rw [on, show c + (c' - c) = c' by omega]; exact hi') ?_
              exact (hashes i' p' hL').trans (congrArg (hq P w) e')
            · have ec : c' = c + q := by omega
              subst ec
              have l2 := slot_live R.tab.ris hi'
              rw [live] at l2
              injection l2 with l2
              subst l2
              rw [hL] at hL'
              cases hL'
              exact hk
      by_cases hl : t.led = true
      · refine wp_if_neg (by simp [hl]) ?_
        try refine wpAny_bind (wpAny_pure ?_)
        exact rest
      · refine wp_if_pos (by simp [hl]) ?_
        refine wpAny_bind (q_seen hx ?_ (fun y hy => ?_))
        · refine wp_if_neg (by decide) ?_
          try refine wpAny_bind (wpAny_pure ?_)
          exact rest
        · obtain ⟨r, hr, rfl⟩ := List.mem_map.mp hy
          have hr2 : r ∈ es.toList := by
            have : r ∈ es ∧ r.1 = hq P w k := by simpa using hr
            simpa using this.1
          rw [R.rows] at hr2
          obtain ⟨p2, hp2, rfl⟩ := List.mem_map.mp hr2
          exact ⟨p2.2, p2.1, rfl, R.keys p2 hp2⟩
    · have e : t.probe (fun i => (es[i]?.map (·.1)).getD 0) (hq P w k) (st.getD (t.probeStart (hq P w k))) = some (.empty (way t.mask (hq P w k) K) none) := by
        have e2 : way t.mask (hq P w k) K = (nth t.mask (nth t.mask (beg t (hq P w k)) c) (K - c)).j := by rw [on, show c + (K - c) = K by omega]
        rw [hst, e2]
        exact hpr
      rw [e]
      dsimp only
      refine wpAny_pure (hout fun hm => ?_)
      obtain ⟨p0, h0, hk0⟩ := List.mem_map.mp hm
      obtain ⟨i0, hi0, rfl⟩ := List.getElem_of_mem h0
      have hL0 : L[i0]? = some L[i0] := List.getElem?_eq_getElem hi0
      have il : i0 < t.place.toList.length := by rw [Array.length_toList, R.place]; exact hi0
      have hj : t.place.toList[i0]? = some t.place.toList[i0] := List.getElem?_eq_getElem il
      have hh0 : (L.map fun p => hq P w p.2)[i0]? = some (hq P w k) := by rw [List.getElem?_map, hL0, ← hk0]; rfl
      obtain ⟨c', h1, h2⟩ := R.tab.before hK hh0 hj
      rw [← h2] at hj
      rcases Nat.lt_or_ge c' c with z | z
      · exact hp c' i0 _ z hj hL0 hk0
      · refine hno (c' - c) i0 (by omega) (by rw [on, show c + (c' - c) = c' by omega]; exact hj) ?_
        exact (hashes i0 _ hL0).trans (congrArg (hq P w) hk0)
end
end Dn

/-! DnI -/
set_option Elab.async false
set_option linter.all false
set_option maxRecDepth 100000
set_option maxHeartbeats 1000000
/-! DnI: a tuple of texts is added. -/
namespace Dn
open PySem PySem.Spec PyProof.Rows L2
theorem rng_pick {α : Type} : ∀ L : List α, (List.range L.length).filterMap (fun i => L[i]?) = L
  | [] => rfl
  | x :: r => by
    rw [List.length_cons, List.range_succ_eq_map, List.filterMap_cons_some (f := fun i => (x :: r)[i]?) (a := 0) (b := x) rfl, List.filterMap_map]
    congr 1
    exact rng_pick r
theorem pick_map {α β : Type} (L : List α) (g : α → β) (d : β) : ∀ o : List Nat, (∀ i ∈ o, i < L.length) → (o.filterMap fun i => L[i]?).map g = o.map fun i => (L.map g).getD i d
  | [], _ => rfl
  | i :: o, h => by
    have hi := h i (by simp)
    rw [List.filterMap_cons_some (List.getElem?_eq_getElem hi), List.map_cons, List.map_cons, pick_map L g d o fun j hj => h j (by simp [hj])]
    congr 1
    rw [List.getD_eq_getElem?_getD, List.getElem?_map, List.getElem?_eq_getElem hi]; rfl
theorem put_in {α : Type} (L : List α) (p : Nat) (x : α) : (L.take p ++ x :: L.drop p).Perm (x :: L) := by
  refine List.perm_middle.trans ?_
  rw [List.take_append_drop]
section
variable {P : Program} {w : World} {A : Around} {E : Value → Shared → Prop} {s : Shared}
variable {a : Addr} {L : List (Addr × List Str)} {es : Array (Int × Value)} {ep : Nat} {t : SetTable}
theorem Tq.apart {h h' : Heap} {k : List Str} {b : Addr} {o : Obj} (hb : Tq P w h k b) (ho : h.get? a = some o) (hd : o.data = .set es ep t) (hs : Heap.SameBut a h h') : Tq P w h' k b := by
  obtain ⟨o', items, n, ho', hc, hd', hi⟩ := hb
  have ne : b ≠ a := by
    rintro rfl
    rw [ho] at ho'
    cases ho'
    rw [hd] at hd'
    cases hd'
  exact ⟨o', items, n, (hs.2 b ne).trans ho', hc, hd', hi⟩
theorem qrow_at (hr : es.toList = qRows P w L) (i : Nat) : es[i]? = (L[i]?).map fun p => (hq P w p.2, Value.ref p.1) := by
  rw [← Array.getElem?_toList, hr, qRows, List.getElem?_map]
/-- the larger table -/
theorem q_relay {o : Obj} (ho : s.heap.get? a = some o) (hex : o.ExactSet) (hd : o.data = .set es ep t) (hr : es.toList = qRows P w L) (hp : t.place.size = es.size) (hdm : t.dummies = #[]) (hfl : es.size ≤ t.mask)
    (nd : (L.map (·.2)).Nodup) (ks : ∀ p ∈ L, Tq P w s.heap p.2 p.1) (ld : w.params.followText "set-order" = true ∨ t.led = true) (few : L.length < 64) {wanted M : Nat}
    (hw : SetTable.sizeAbove wanted - 1 = M) (hM : MaskOk M) (hw2 : SetTable.sizeAbove wanted ≤ 128) (hn : L.length * 5 < M * 3) {Q : Unit → Shared → Prop}
    (hQ : ∀ h' L' es' ep' t', Heap.SameBut a s.heap h' → QSet P w h' a L' es' ep' t' → L'.Perm L → Q () { s with heap := h' }) : wpAny (model P w) A (setRelay a wanted) Q E s := by
  have len : es.size = L.length := by
    have h := congrArg List.length hr
    rwa [Array.length_toList, qRows, List.length_map] at h
  have fits : t.fits es.size = true := by
    unfold SetTable.fits SetTable.fill
    rw [hdm, Bool.and_eq_true, beq_iff_eq, decide_eq_true_eq]
    exact ⟨hp, by show t.place.size + 0 ≤ t.mask; omega⟩
  obtain ⟨t', order, e, pm, T, em, el, _, _⟩ := relaid_ok t (hs := es.map (·.1)) (wanted := wanted) hw hM (by rw [Array.size_map, len]; omega)
  rw [Array.size_map, len] at pm
  have inL : ∀ i ∈ order.toList, i < L.length := fun i hi => List.mem_range.mp (pm.mem_iff.mp hi)
  have pL : (order.toList.filterMap fun i => L[i]?).Perm L := by
    have := pm.filterMap fun i => L[i]?
    rwa [rng_pick] at this
  have rows2 : (order.filterMap (es[·]?)).toList = qRows P w (order.toList.filterMap fun i => L[i]?) := by
    have e1 : (order.filterMap (es[·]?)).toList = order.toList.filterMap fun i => es[i]? := by simp
    rw [e1, qRows, List.map_filterMap]
    congr 1
    funext i
    exact qrow_at hr i
  have hash2 : (order.toList.map fun i => (es.map (·.1)).getD i 0) = (order.toList.filterMap fun i => L[i]?).map fun p => hq P w p.2 := by
    rw [pick_map L (fun p => hq P w p.2) 0 order.toList inL]
    refine List.map_congr_left fun i hi => ?_
    have hi2 : i < es.size := by rw [len]; exact inL i hi
    have e1 : (es.map (·.1))[i]? = (L.map fun p => hq P w p.2)[i]? := by
      rw [Array.getElem?_map, qrow_at hr i, List.getElem?_map, Option.map_map]; rfl
    rw [List.getD_eq_getElem?_getD, ← e1]
    simp [Array.getD_eq_getD_getElem?]
  rw [hash2] at T
  generalize order.toList.filterMap (fun i => L[i]?) = L2 at pL rows2 T
  have sz2 : (order.filterMap (es[·]?)).size = es.size := by
    have h := congrArg List.length rows2
    rw [Array.length_toList, qRows, List.length_map, pL.length_eq] at h
    rw [h, len]
  rw [setRelay_eq]
  refine wpAny_bind (wpAny_setState_of ho hd fits ?_)
  dsimp only
  refine wp_if_neg (by rw [sizeLine_eq]; omega) ?_
  try refine wpAny_bind (wpAny_pure ?_)
  rw [e]
  dsimp only
  refine wpAny_bind ?_
  refine wp_if_neg (by rw [sz2]; simp) ?_
  try refine wpAny_bind (wpAny_pure ?_)
  refine wpAny_pure ?_
  dsimp only
  refine wpAny_storeSet_of ho hd ?_ (by rw [sz2, len, sizeLine_eq]; omega)
  have sb : Heap.SameBut a s.heap (s.heap.update a (Obj.putSet (order.filterMap (es[·]?)) t')) := Heap.SameBut.update ..
  refine hQ _ L2 (order.filterMap (es[·]?)) (ep + 1) t' sb ?_ pL
  exact ⟨⟨_, store_at ho hd, ⟨hex.1, hex.2.1, hex.2.2⟩, rfl⟩, rows2, T, (pL.map (·.2)).nodup_iff.mpr nd, fun p hp => (ks p (pL.mem_iff.mp hp)).apart ho hd sb, by rw [el]; exact ld, by rw [pL.length_eq, em]; exact hn, by rw [pL.length_eq]; exact few⟩
/-- a tuple of texts is added -/
theorem QSet.add (R : QSet P w s.heap a L es ep t) {x : Addr} {k : List Str} (hx : Tq P w s.heap k x) (hu : A.units < cLine) (hfew : L.length + 1 < 64) {Q : Bool → Shared → Prop}
    (hQ : ∀ b h' L' es' ep' t', Heap.SameBut a s.heap h' → QSet P w h' a L' es' ep' t' → (k ∈ L.map (·.2) → L' = L) → (k ∉ L.map (·.2) → L'.Perm ((x, k) :: L)) → Q b { s with heap := h' }) :
    wpAny (model P w) A (setAddHashed a (.ref x) (hq P w k)) Q E s := by
  obtain ⟨o, ho, hex, hd⟩ := R.at_
  have len := R.len
  have room := R.free
  obtain ⟨K, hK1, hK, hb⟩ := R.tab.first (by rw [List.length_map]; omega) (hq P w k)
  have hK2 : K < 100000 := by
    have : 10 * SetTable.turns t.mask ≤ 1420 := by
      unfold SetTable.turns
      rcases R.tab.mok with e | e | e <;> omega
    omega
  unfold setAddHashed
  refine wpAny_holding ?_
  rw [show (100000 : Nat) = 99999 + 1 from rfl, setAddHashedIn_succ]
  refine wpAny_bind (wpAny_setState_of ho hd R.fits ?_)
  dsimp only
  refine wp_if_neg (by simp [byScan, Value.scannable]) ?_
  try refine wpAny_bind (wpAny_pure ?_)
  refine wpAny_bind ?_
  unfold setSearch
  refine R.search hx hu hK1 hK hb (fun hm => ?_) (fun hm => ?_) 100000 0 none rfl (Nat.zero_le _) (by omega) (fun c' i p hc => absurd hc (Nat.not_lt_zero _))
  · dsimp only
    exact wpAny_pure (hQ false s.heap L es ep t (Heap.SameBut.refl a s.heap) R (fun _ => rfl) fun z => absurd hm z)
  · dsimp only
    refine wpAny_bind (wpAny_setState_of ho hd R.fits ?_)
    dsimp only
    obtain ⟨q1, q2, q3, q4, q5, _, _, _, q9⟩ := R.tab.put hK hb
    generalize hpt : t.put (way t.mask (hq P w k) K) = pt at q1 q3 q4 q5 q9 ⊢
    obtain ⟨t1, p⟩ := pt
    dsimp only at q1 q3 q4 q5 q9 ⊢
    subst q1
    have rows1 : (SetTable.insertAt es (SetTable.below t.place (way t.mask (hq P w k) K)) (hq P w k, Value.ref x)).toList = qRows P w (L.take (SetTable.below t.place (way t.mask (hq P w k) K)) ++ (x, k) :: L.drop (SetTable.below t.place (way t.mask (hq P w k) K))) := by
      rw [SetTable.toList_insertAt, R.rows, qRows, qRows, List.map_append, List.map_cons, List.map_take, List.map_drop]
    generalize SetTable.below t.place (way t.mask (hq P w k) K) = p at q2 q3 rows1 ⊢
    have pm := put_in L p (x, k)
    have ln : (L.take p ++ (x, k) :: L.drop p).length = L.length + 1 := pm.length_eq
    have hs1 : (L.take p ++ (x, k) :: L.drop p).map (fun p => hq P w p.2) = (L.map fun p => hq P w p.2).take p ++ hq P w k :: (L.map fun p => hq P w p.2).drop p := by
      rw [List.map_append, List.map_cons, List.map_take, List.map_drop]
    rw [← hs1] at q3
    have nd1 : ((L.take p ++ (x, k) :: L.drop p).map (·.2)).Nodup := (pm.map (·.2)).nodup_iff.mpr (List.nodup_cons.mpr ⟨hm, R.once⟩)
    have sz1 : (SetTable.insertAt es p (hq P w k, Value.ref x)).size = L.length + 1 := by
      have h := congrArg List.length rows1
      rwa [Array.length_toList, qRows, List.length_map, ln] at h
    generalize SetTable.insertAt es p (hq P w k, Value.ref x) = es1 at rows1 sz1 ⊢
    generalize L.take p ++ (x, k) :: L.drop p = L1 at pm ln q3 nd1 rows1
    have go : ∀ t2 : SetTable, t2.place = t1.place → t2.dummies = t1.dummies → t2.mask = t1.mask → t2.led = t1.led →
        wpAny (model P w) A (do
          storeSet a es1 t2
          if (!false && t2.tooFull) = true then
            (do
              setRelay a (SetTable.grown (es.size + 1))
              pure true)
          else pure true) Q E s := fun t2 g1 g2 g3 g4 => by
      have T2 : TabOk t2 (L1.map fun p => hq P w p.2) := ⟨by rw [g1]; exact q3.ris, by rw [g2]; exact q3.dm, by rw [g1]; exact q3.sz, by rw [g3]; exact q3.mok, by rw [g1, g3]; exact q3.bd, by rw [g1, g3]; exact q3.reach⟩
      have fl : t2.tooFull = decide ((L.length + 1) * 5 ≥ t.mask * 3) := by
        have e : t2.fill = t1.fill := by unfold SetTable.fill; rw [g1, g2]
        unfold SetTable.tooFull
        rw [e, g3, q9, q4, List.length_map]
      refine wpAny_bind (wpAny_storeSet_of ho hd ?_ (by rw [sz1, sizeLine_eq]; omega))
      have sb : Heap.SameBut a s.heap (s.heap.update a (Obj.putSet es1 t2)) := Heap.SameBut.update ..
      have ho1 := store_at (es' := es1) (t' := t2) ho hd
      generalize s.heap.update a (Obj.putSet es1 t2) = h1 at sb ho1 ⊢
      have ks1 : ∀ p ∈ L1, Tq P w h1 p.2 p.1 := fun p hp => by
        rcases List.mem_cons.mp (pm.mem_iff.mp hp) with e | hp
        · rw [e]; exact hx.apart ho hd sb
        · exact (R.keys p hp).apart ho hd sb
      have ld1 : w.params.followText "set-order" = true ∨ t2.led = true := by rw [g4, q5]; exact R.led
      by_cases hf : t2.tooFull = true
      · refine wp_if_pos (by simp [hf]) (wpAny_bind ?_)
        have full : (L.length + 1) * 5 ≥ t.mask * 3 := by rw [fl, decide_eq_true_eq] at hf; exact hf
        rw [len]
        have pl2 : t2.place.size = es1.size := by rw [T2.sz, List.length_map, ln, sz1]
        have both : (t.mask = 7 ∧ L.length = 4) ∨ (t.mask = 31 ∧ L.length = 18) := by
          rcases R.tab.mok with e | e | e <;> rw [e] at full room
          · exact .inl ⟨e, by omega⟩
          · exact .inr ⟨e, by omega⟩
          · omega
        have lay : ∀ M, SetTable.sizeAbove (SetTable.grown (L.length + 1)) - 1 = M → MaskOk M → SetTable.sizeAbove (SetTable.grown (L.length + 1)) ≤ 128 → (L.length + 1) * 5 < M * 3 →
            wpAny (model P w) A (setRelay a (SetTable.grown (L.length + 1))) (fun _ s' => wpAny (model P w) A (pure true) Q E s') E { s with heap := h1 } := fun M m1 m2 m3 m4 => by
          refine q_relay (s := { s with heap := h1 }) ho1 ⟨hex.1, hex.2.1, hex.2.2⟩ rfl rows1 pl2 T2.dm (by rw [sz1, g3, q4]; rcases both with ⟨e, e2⟩ | ⟨e, e2⟩ <;> omega) nd1 ks1 ld1 (by rw [ln]; exact hfew) m1 m2 m3 (by rw [ln]; exact m4) ?_
          intro h2 L2 es2 ep2 t3 sb2 R2 pm2
          exact wpAny_pure (hQ true h2 L2 es2 ep2 t3 (sb.trans sb2) R2 (fun z => absurd z hm) fun _ => pm2.trans pm)
        rcases both with ⟨_, e2⟩ | ⟨_, e2⟩
        · exact lay 31 (by rw [e2, size_20]) (.inr (.inl rfl)) (by rw [e2, size_20]; decide) (by omega)
        · exact lay 127 (by rw [e2, size_76]) (.inr (.inr rfl)) (by rw [e2, size_76]; decide) (by omega)
      · refine wp_if_neg (by simp [hf]) (wpAny_pure (hQ true h1 L1 es1 (ep + 1) t2 sb ⟨⟨_, ho1, ⟨hex.1, hex.2.1, hex.2.2⟩, rfl⟩, rows1, T2, nd1, ks1, ld1, ?_, by rw [ln]; exact hfew⟩ (fun z => absurd z hm) fun _ => pm))
        rw [fl, decide_eq_true_eq] at hf
        rw [ln, g3, q4]
        omega
    by_cases hp1 : t1.plain = true
    · refine wp_if_pos hp1 (wpAny_bind (q_hashby hx fun z => ?_))
      cases z
      · exact go _ rfl rfl rfl rfl
      · exact go t1 rfl rfl rfl rfl
    · refine wp_if_neg hp1 (wpAny_bind (wpAny_pure ?_))
      exact go t1 rfl rfl rfl rfl
end
end Dn

/-! DnJ -/
set_option Elab.async false
set_option linter.all false
set_option maxRecDepth 100000
set_option maxHeartbeats 1000000
/-! DnJ: a set of the tuples of texts of a tuple. -/
namespace Dn
open PySem PySem.Spec PyProof.Rows L2
section
variable {P : Program} {w : World} {A : Around} {E : Value → Shared → Prop} {s : Shared}
theorem Tq.keep {h h' : Heap} {k : List Str} {b : Addr} (x : Tq P w h k b) (kp : ∀ c o, h.get? c = some o → h'.get? c = some o) : Tq P w h' k b := by
  obtain ⟨o, items, n, ho, r⟩ := x
  exact ⟨o, items, n, kp b o ho, r⟩
theorem QSet.keep {h h' : Heap} {a : Addr} {L : List (Addr × List Str)} {es : Array (Int × Value)} {ep : Nat} {t : SetTable} (R : QSet P w h a L es ep t) (ha : ∀ o, h.get? a = some o → h'.get? a = some o) (hk : ∀ p ∈ L, Tq P w h' p.2 p.1) : QSet P w h' a L es ep t := by
  obtain ⟨o, ho, r⟩ := R.at_
  exact ⟨⟨o, ha o ho, r⟩, R.rows, R.tab, R.once, hk, R.led, R.free, R.few⟩
theorem q_fresh {h : Heap} {a : Addr} (ho : h.get? a = some { cls := .type "set", dict := none, data := .set #[] 0 (.fresh 0 0 (!w.params.followText "set-order")) }) : QSet P w h a [] #[] 0 (.fresh 0 0 (!w.params.followText "set-order")) where
  at_ := ⟨_, ho, ⟨rfl, rfl, rfl⟩, rfl⟩
  rows := rfl
  tab := ⟨List.Pairwise.nil, rfl, rfl, .inl rfl, fun x hx => (by cases hx), fun i h j hi => (by simp at hi)⟩
  once := List.nodup_nil
  keys := fun p hp => (by cases hp)
  led := by
    show _ ∨ (!w.params.followText "set-order") = true
    cases w.params.followText "set-order" <;> simp
  free := by show 0 * 5 < 7 * 3; decide
  few := by show 0 < 64; decide
/-- the members are the first i of the source -/
structure Upq (ad : Nat → Addr) (val : Nat → List Str) (i : Nat) (L : List (Addr × List Str)) : Prop where
  of : ∀ p ∈ L, ∃ j, j < i ∧ p = (ad j, val j)
  all : ∀ j, j < i → val j ∈ L.map (·.2)
  len : L.length ≤ i
theorem Upq.same {ad : Nat → Addr} {val : Nat → List Str} {i : Nat} {L : List (Addr × List Str)} (h : Upq ad val i L) (hm : val i ∈ L.map (·.2)) : Upq ad val (i + 1) L where
  of := fun p hp => let ⟨j, h1, h2⟩ := h.of p hp; ⟨j, by omega, h2⟩
  all := fun j hj => by
    rcases Nat.lt_succ_iff_lt_or_eq.mp hj with z | z
    · exact h.all j z
    · rw [z]; exact hm
  len := by have := h.len; omega
theorem Upq.more {ad : Nat → Addr} {val : Nat → List Str} {i : Nat} {L L' : List (Addr × List Str)} (h : Upq ad val i L) (pm : L'.Perm ((ad i, val i) :: L)) : Upq ad val (i + 1) L' where
  of := fun p hp => by
    rcases List.mem_cons.mp (pm.mem_iff.mp hp) with e | hp
    · exact ⟨i, by omega, e⟩
    · obtain ⟨j, h1, h2⟩ := h.of p hp
      exact ⟨j, by omega, h2⟩
  all := fun j hj => by
    rw [(pm.map (·.2)).mem_iff, List.map_cons]
    rcases Nat.lt_succ_iff_lt_or_eq.mp hj with z | z
    · exact List.mem_cons_of_mem _ (h.all j z)
    · rw [z]; exact List.mem_cons_self
  len := by rw [pm.length_eq, List.length_cons]; have := h.len; omega
end
section
variable {P : Program} {w : World} {A : Around} {I : Addr} {fp wr : List Addr} {G : Array GenState → Array GenState → Prop} {n : Nat} {Pv : Nat → Value → Prop} {St : Nat → Shared → Prop} {R : Result → Shared → Prop}
/-- the loop that fills such a set -/
theorem q_loop (W : WalksS P w A.in1 I fp wr G n Pv St) (S : Addr) (hS : S ∉ fp) (ad : Nat → Addr) (val : Nat → List Str) (hv : ∀ i v, Pv i v → v = .ref (ad i)) (hu : A.in1.units < cLine) (hn : n < 60)
    (h0 : Heap) (hk : ∀ i, i < n → Tq P w h0 (val i) (ad i)) (hS0 : h0.get? S = none) (hw0 : ∀ b ∈ wr, h0.get? b = none) : ∀ (k i : Nat) (s : Shared) (L : List (Addr × List Str)) (es : Array (Int × Value)) (ep : Nat) (t : SetTable), n - i = k → i ≤ n → St i s →
    (∀ b o, h0.get? b = some o → s.heap.get? b = some o) → QSet P w s.heap S L es ep t → Upq ad val i L →
    (∀ s2 L2 es2 ep2 t2, Moved (S :: wr) G s s2 → QSet P w s2.heap S L2 es2 ep2 t2 → Upq ad val n L2 → R (.ok (.ret .none)) s2) → codeAny (model P w) A (.builtin "set.update.loop" ⟨[.ref S, .ref I], []⟩) R s
  | 0, i, s, L, es, ep, t, hk', hi, st, kp, T, up, fin => by
    have e : i = n := by omega
    subst e
    refine codeAny_builtin PyProof.Rows.F.entry_set_update_loop ?_
    rw [Around.under_plainId PyProof.Rows.F.plain_set_update_loop _]
    show wpAny _ A.in1 (pyNext (.ref I) >>= _) _ _ s
    refine wpAny_bind (W.done s _ _ st fun s2 mv => ?_)
    have kp2 : ∀ b o, h0.get? b = some o → s2.heap.get? b = some o := fun b o z => mv.heap b o (fun q => by rw [hw0 b q] at z; cases z) (kp b o z)
    refine wpAny_pure (fin s2 L es ep t (mv.mono fun b q => List.mem_cons_of_mem _ q) (T.keep (fun o z => mv.heap S o (fun q => hS (W.sub _ q)) z) fun p hp => ?_) up)
    obtain ⟨j, hj, rfl⟩ := up.of p hp
    exact (hk j hj).keep kp2
  | k + 1, i, s, L, es, ep, t, hk', hi, st, kp, T, up, fin => by
    have lt : i < n := by omega
    refine codeAny_builtin PyProof.Rows.F.entry_set_update_loop ?_
    rw [Around.under_plainId PyProof.Rows.F.plain_set_update_loop _]
    show wpAny _ A.in1 (pyNext (.ref I) >>= _) _ _ s
    refine wpAny_bind (W.item i s _ _ lt st fun v s2 pv st2 mv => ?_)
    obtain rfl := hv i v pv
    have kp2 : ∀ b o, h0.get? b = some o → s2.heap.get? b = some o := fun b o z => mv.heap b o (fun q => by rw [hw0 b q] at z; cases z) (kp b o z)
    have T2 : QSet P w s2.heap S L es ep t := T.keep (fun o z => mv.heap S o (fun q => hS (W.sub _ q)) z) fun p hp => by
      obtain ⟨j, hj, rfl⟩ := up.of p hp
      exact (hk j (by omega)).keep kp2
    have hx : Tq P w s2.heap (val i) (ad i) := (hk i lt).keep kp2
    refine wpAny_bind (wpAny_holding ?_)
    unfold setAdd
    refine wpAny_holding (wpAny_bind (wpAny_pyHash_tuple hu hx ?_))
    refine QSet.add (s := { s2 with toks := s2.toks + ((val i).length + 1) }) T2 hx hu (by have := up.len; omega) fun b h2 L2 es2 ep2 t2 sb T3 c1 c2 => wpAny_pure ⟨plainId_quiet PyProof.Rows.F.plain_set_update_loop _, ?_⟩
    have up2 : Upq ad val (i + 1) L2 := by
      by_cases c : val i ∈ L.map (·.2)
      · rw [c1 c]; exact up.same c
      · exact up.more (c2 c)
    have kp3 : ∀ b o, h0.get? b = some o → h2.get? b = some o := fun b o z => (sb.2 b (fun y => by rw [y, hS0] at z; cases z)).trans (kp2 b o z)
    refine q_loop W S hS ad val hv hu hn h0 hk hS0 hw0 k (i + 1) _ L2 es2 ep2 t2 (by omega) lt (W.frame _ s2 _ _ st2 (Nat.le_add_right _ _) fun c q o z => (sb.2 c (fun (y : c = S) => hS (y ▸ q))).trans z) kp3 T3 up2 fun s3 L3 es3 ep3 t3 mv3 T4 up4 => ?_
    refine fin s3 L3 es3 ep3 t3 (Moved.trans W.gtrans ((mv.mono fun c q => List.mem_cons_of_mem _ q).then_heap (Nat.le_add_right _ _) fun c o q z => ?_) mv3) T4 up4
    exact (sb.2 c (fun (y : c = S) => q (by rw [y]; exact List.mem_cons_self))).trans z
end
end Dn

/-! DnK -/
set_option Elab.async false
set_option linter.all false
set_option maxRecDepth 100000
set_option maxHeartbeats 1000000
/-! DnK: set(x) of a tuple of tuples of texts. -/
namespace Dn
open PySem PySem.Spec PyProof.Rows L2
section
variable {P : Program} {w : World} {A : Around} {E : Value → Shared → Prop} {s : Shared}
/-- such a set is filled from a tuple -/
theorem q_from {l : Addr} {items : Array Value} {ad : Nat → Addr} {val : Nat → List Str} {S : Addr} {h0 : Heap} {Q : Unit → Shared → Prop} (hh : A.handled = none) (hu : A.in1.units < cLine) (hl : h0.IsTuple l items) (hit : ∀ (i : Nat) (v : Value), items[i]? = some v → v = Value.ref (ad i)) (hk : ∀ i, i < items.size → Tq P w h0 (val i) (ad i)) (hn : items.size < 60)
    (kp : ∀ b o, h0.get? b = some o → s.heap.get? b = some o) (hS : S = h0.objs.size) (sz : s.heap.objs.size = h0.objs.size + 1) (g0 : s.heap.get? S = some { cls := .type "set", dict := none, data := .set #[] 0 (.fresh 0 0 (!w.params.followText "set-order")) })
    (h : ∀ (h2 : Heap) (tk : Nat) L es ep t, QSet P w h2 S L es ep t → Upq ad val items.size L → (∀ b o, h0.get? b = some o → h2.get? b = some o) → Q () { s with heap := h2, toks := tk }) : wpAny (model P w) A (Builtin.Frozenset.updateFrom "set.__init__" S (.ref l)) Q E s := by
  obtain ⟨o, ho, hc, r⟩ := hl
  have ty : s.TypeIs (.ref l) "tuple" := ⟨o, kp _ _ ho, hc⟩
  have hl2 : s.heap.IsTuple l items := ⟨o, kp _ _ ho, hc, r⟩
  have lt := Heap.lt_size ho
  unfold Builtin.Frozenset.updateFrom
  have w1 : ∀ {Q1 : Bool → Shared → Prop}, Q1 false s → wpAny (model P w) A (Builtin.Frozenset.isAnySet (.ref l)) Q1 E s := fun {Q1} z => by
    unfold Builtin.Frozenset.isAnySet
    refine wpAny_bind (wpAny_isInstance ty F.sub_tuple_set ?_)
    exact wpAny_isInstance ty F.sub_tuple_frozenset z
  refine wpAny_bind (w1 ?_)
  simp only [Bool.false_eq_true, if_false]
  refine wpAny_bind (wpAny_typeOf ty ?_)
  simp only [show (Value.type "tuple" == Value.type "dict") = false from by decide, Bool.false_eq_true, if_false]
  refine wpAny_bind (wpAny_pyIter_tuple hl2 ?_)
  refine wpAny_bind (wpAny_runValue ?_)
  have gone : ∀ b, h0.objs.size ≤ b → h0.get? b = none := fun b hb => by
    cases q : h0.get? b with
    | none => rfl
    | some o => exact absurd (Heap.lt_size q) (Nat.not_lt_of_le hb)
  have nS : S ∉ [s.heap.objs.size, l] := by
    simp only [List.mem_cons, List.not_mem_nil, or_false, not_or]
    refine ⟨fun z => ?_, fun z => ?_⟩
    · rw [hS, sz] at z
      exact absurd z (Nat.ne_of_lt (Nat.lt_succ_self _))
    · rw [← z, hS] at lt
      exact Nat.lt_irrefl _ lt
  refine q_loop ((Walks.tuple (A := A.in1) hh _ l (Nat.ne_of_lt (by rw [sz]; exact Nat.lt_succ_of_lt lt)) items).toS) S nS ad val hit hu hn h0 hk (gone _ (by rw [hS]; exact Nat.le_refl _)) (fun b hb => gone b (by rw [List.mem_singleton.mp hb, sz]; exact Nat.le_succ _)) items.size 0 _ [] #[] 0 _ (by omega) (Nat.zero_le _)
    ⟨⟨_, Heap.get?_push_size _ rfl, rfl, rfl⟩, hl2.push _⟩ (fun b o e => Heap.get?_push_of_some _ (kp b o e)) (q_fresh (Heap.get?_push_of_some _ g0)) ⟨fun p hp => (nomatch hp), fun j hj => absurd hj (Nat.not_lt_zero _), Nat.le_refl _⟩ fun s2 L es ep t mv T2 up => ?_
  have hm := mv.heap
  have eg : s2.gens = s.gens := mv.gens
  have ed : s2.drawn = s.drawn := mv.drawn
  have eo : s2.os = s.os := mv.os
  have e : s2 = { s with heap := s2.heap, toks := s2.toks } := by
    cases s2; cases s
    simp only at eg ed eo
    rw [eg, ed, eo]
  show wpAny _ _ (pure ()) _ _ s2
  refine wpAny_pure ?_
  rw [e]
  refine h s2.heap s2.toks L es ep t T2 up fun b o2 z => ?_
  have lt := Heap.lt_size z
  refine hm b o2 (fun q => ?_) (Heap.get?_push_of_some _ (kp b o2 z))
  simp only [List.mem_cons, List.not_mem_nil, or_false] at q
  rcases q with q | q
  · rw [q, hS] at lt
    exact Nat.lt_irrefl _ lt
  · rw [q, sz] at lt
    exact absurd lt (Nat.not_lt_of_le (Nat.le_succ _))
set_option maxHeartbeats 4000000 in
/-- set(src) -/
theorem call_q {l : Addr} {items : Array Value} {ad : Nat → Addr} {val : Nat → List Str} {Q : Value → Shared → Prop} (hh : A.handled = none) (hu : A.units + 10 < cLine) (hl : s.heap.IsTuple l items) (hit : ∀ (i : Nat) (v : Value), items[i]? = some v → v = Value.ref (ad i)) (hk : ∀ i, i < items.size → Tq P w s.heap (val i) (ad i)) (hn : items.size < 60)
    (h : ∀ (h2 : Heap) (tk : Nat) L es ep t, QSet P w h2 s.heap.objs.size L es ep t → Upq ad val items.size L → (∀ b o, s.heap.get? b = some o → h2.get? b = some o) → Q (.ref s.heap.objs.size) { s with heap := h2, toks := tk }) : wpAny (model P w) A (call (.type "set") [.ref l]) Q E s := by
  have hu3 : A.units + 3 < cLine := by omega
  have ct := F.typeCall_set_1 (.ref l)
  obtain ⟨c, tl, mro⟩ := F.called_set.mro
  have mk := F.called_set.made
  have sb := F.called_set.sub
  have nt := F.called_set.notType
  have cc := F.called_set.canCreate
  refine wpAny_call (codeAny_of_tree ?_)
  show wpAny _ _ (callAny (.type "set") _) _ _ _
  refine wpAny_pure ⟨Code.quiet_builtin _ (by decide +kernel), codeAny_builtin F.entry_type_call ?_⟩
  rw [Around.under_plain (weight_type_call_type "set" [.ref l] []) rfl]
  repeat (any_goals (first | assumption | wp_step))
  refine codeAny_mono (tx_new (.ref l) (E := E) (Q1 := fun v s1 => v = .ref s.heap.objs.size ∧ s1 = { s with heap := s.heap.push { cls := .type "set", dict := none, data := .set #[] 0 (.fresh 0 0 (!w.params.followText "set-order")) } }) ⟨rfl, rfl⟩) fun r s1 hr => ?_
  cases r with
  | error e => exact hr
  | ok fl =>
    cases fl with
    | ret v =>
      obtain ⟨rfl, rfl⟩ := hr
      have g0 : (s.heap.push { cls := .type "set", dict := none, data := .set #[] 0 (.fresh 0 0 (!w.params.followText "set-order")) }).get? s.heap.objs.size = some { cls := .type "set", dict := none, data := .set #[] 0 (.fresh 0 0 (!w.params.followText "set-order")) } := Heap.get?_push_size _ rfl
      have hT : Shared.TypeIs { s with heap := s.heap.push { cls := .type "set", dict := none, data := .set #[] 0 (.fresh 0 0 (!w.params.followText "set-order")) } } (.ref s.heap.objs.size) "set" := ⟨_, g0, rfl⟩
      have li := F.called_set.init.lookup
      have bi := F.called_set.init.bind (.ref s.heap.objs.size)
      repeat (any_goals (first | assumption | wp_step))
      refine codeAny_mono (codeAny_call_builtin (R := wants (fun r s2 => r = .none ∧ Q (.ref s.heap.objs.size) s2) E) F.called_set.init.plain F.entry_set_init (check_set_init_1 hT ?_)) fun r2 s2 hr2 => ?_
      · unfold Builtin.«set.__init__» noKeywords
        generalize hU : Builtin.Frozenset.updateFrom = UF
        wp_walk
        subst hU
        refine q_from (S := s.heap.objs.size) (h0 := s.heap) (by simp [hh]) hu3 hl hit hk hn (fun b o z => Heap.get?_push_of_some _ z) rfl (by rw [Heap.size_push]) g0 fun h2 tk L es ep t a1 a2 a3 => ?_
        show wpAny _ _ (ret Value.none) _ _ _
        exact wpAny_pure ⟨rfl, h h2 tk L es ep t a1 a2 a3⟩
      · cases r2 with
        | error e => exact hr2
        | ok fl2 =>
          cases fl2 with
          | ret r =>
            obtain ⟨rfl, hq⟩ := hr2
            repeat (any_goals (first | assumption | wp_step))
          | _ => exact hr2.elim
    | _ => exact hr.elim
end
end Dn

/-! DnX -/
set_option Elab.async false
set_option linter.all false
set_option maxRecDepth 100000
set_option maxHeartbeats 1000000
/-! DnX: len(set(x)) of a tuple of tuples of texts. -/
namespace Dn
open PySem PySem.Spec PyProof.Rows L2
theorem mem_dedupK {x : List Sg} : ∀ {l : List (List Sg)}, x ∈ dedupK l ↔ x ∈ l
  | [] => Iff.rfl
  | y :: r => by
    unfold dedupK
    by_cases h : y ∈ r
    · rw [if_pos h, mem_dedupK, List.mem_cons]
      constructor
      · exact fun z => .inr z
      · rintro (rfl | z)
        · exact h
        · exact z
    · rw [if_neg h, List.mem_cons, List.mem_cons, mem_dedupK]
theorem nodup_dedupK : ∀ l : List (List Sg), (dedupK l).Nodup
  | [] => List.nodup_nil
  | y :: r => by
    unfold dedupK
    by_cases h : y ∈ r
    · rw [if_pos h]; exact nodup_dedupK r
    · rw [if_neg h]
      exact List.nodup_cons.mpr ⟨fun z => h (mem_dedupK.mp z), nodup_dedupK r⟩
theorem dedupK_len : ∀ l : List (List Sg), (dedupK l).length ≤ l.length
  | [] => Nat.le_refl _
  | y :: r => by
    have := dedupK_len r
    unfold dedupK
    split
    · simp; omega
    · simp; omega
/-- a set of which the size alone is kept -/
def SzO (a : Addr) (n : Nat) : HO := .ext fun h => ∃ o es ep t, h.get? a = some o ∧ o.ExactSet ∧ o.data = .set es ep t ∧ es.size = n ∧ t.fits es.size = true
theorem szO_new {w : World} {P : Program} {H : Hp} {h : Heap} {a : Addr} {o : Obj} {es : Array (Int × Value)} {ep : Nat} {t : SetTable} (ho : h.get? a = some o) (hx : o.ExactSet) (hd : o.data = .set es ep t) (hf : t.fits es.size = true) : ObjOk P w H h a (SzO a es.size) := by
  exact ⟨⟨o, es, ep, t, ho, hx, hd, rfl, hf⟩, ⟨o, ho⟩, fun h1 h2 p k => let ⟨o, es, ep, t, ho, r⟩ := p; ⟨o, es, ep, t, k o ho, r⟩⟩
theorem items_strs {P : Program} {w : World} : ∀ {k : List Str} {us : List Value}, StrsAre us k → ItemsAre (strKind P w) k us
  | _, _, .nil => .nil
  | _, _, .cons x t r => .cons (show Value.isStrOf x (.str x t) = true by simp [Value.isStrOf]) (items_strs r)
theorem S_inj' : ∀ {a b : List Sg}, a.map S = b.map S → a = b
  | [], [], _ => rfl
  | [], _ :: _, h => nomatch h
  | _ :: _, [], h => nomatch h
  | x :: a, y :: b, h => by
    rw [List.map_cons, List.map_cons] at h
    injection h with h1 h2
    rw [S_inj h1, S_inj' h2]
section
variable {X : L2.Cx} {pins : List (Addr × Obj)} {σ : L2.St} {H G : Hp} {s : Shared} {W : Wd} {m : Mu}
theorem tq_of (I : Inv X pins σ H s) (hr : HR X.K W G H m) {v : V} {xs : List D} {k : List Sg} (q : RV X.K W v (.tup xs)) (e : strs? xs = some k) : ∃ a, v = .ref a ∧ Tq X.prog X.w s.heap (k.map S) a := by
  obtain ⟨a, vs, rfl, ha, ra, z⟩ := RD.tup hr (.inl q)
  obtain ⟨e1, _⟩ := RVs.of_strs_d ra e
  subst e1
  obtain ⟨its, rv, pl, hz⟩ := I.tuple ha
  obtain ⟨o, ho, hc, n, hd⟩ := pl
  exact ⟨a, rfl, o, its.toArray, n, ho, hc, hd, by simpa using items_strs (strsAre_of rv)⟩
theorem tqs_of (I : Inv X pins σ H s) (hr : HR X.K W G H m) : ∀ {ds : List D} {vs : List V} {us : List Value} {ks : List (List Sg)}, RVs X.K W vs ds → Vals vs us → tups? ds = some ks → ∃ ps : List (Addr × List Str), us = ps.map (fun p => Value.ref p.1) ∧ ps.map (·.2) = ks.map (·.map S) ∧ ∀ p ∈ ps, Tq X.prog X.w s.heap p.2 p.1
  | [], _, _, _, .nil, .nil, e => by cases e; exact ⟨[], rfl, rfl, fun p hp => nomatch hp⟩
  | d :: r, _, _, ks, .cons h t, .cons x y, e => by
    cases d with
    | tup xs =>
      have e : ((strs? xs).bind fun k => (tups? r).map (k :: ·)) = some ks := e
      cases e1 : strs? xs with
      | none => rw [e1] at e; cases e
      | some k =>
        rw [e1] at e
        have e : (tups? r).map (k :: ·) = some ks := e
        cases e2 : tups? r with
        | none => rw [e2] at e; cases e
        | some ks' =>
          rw [e2] at e
          cases e
          obtain ⟨a, rfl, hk⟩ := tq_of I hr h e1
          obtain ⟨ps, rfl, e4, hps⟩ := tqs_of I hr t y e2
          cases x
          refine ⟨(a, k.map S) :: ps, rfl, by rw [List.map_cons, List.map_cons, e4], fun p hp => ?_⟩
          rcases List.mem_cons.mp hp with rfl | hp
          · exact hk
          · exact hps p hp
    | _ => cases e
/-- set(..) of tuples of texts -/
def rSz (K : PySem.W.Frag) : List V → Hp → VK → Prop := fun vs H Q => ∃ W G m v ds ks, vs = [v] ∧ HR K W G H m ∧ RD K W G v (.tup ds) ∧ tups? ds = some ks ∧ ks.length < 60 ∧ ∀ p, H p = none → Q (.ref p) (upd H p (SzO p (dedupK ks).length))
theorem cr_sz (hc : X.calm = true) (hu : X.A.units + 10 < cLine) : CallR X (.type "set") (rSz X.K) := by
  intro pins s σ H xs us Q I r h
  obtain ⟨W, G, m, v, ds, ks, rfl, hr, q, ex, hl, k⟩ := h
  have hn : H s.heap.objs.size = none := I.hok.fresh (Nat.le_refl _)
  obtain ⟨a, vs, rfl, ha, ra, z⟩ := q.tup hr
  cases r with
  | cons rx rt =>
    cases rt
    cases rx
    obtain ⟨its, rv, pl, hz⟩ := I.tuple ha
    obtain ⟨ps, rfl, e2, hps⟩ := tqs_of I hr ra rv ex
    have el : ps.length = ks.length := by have := congrArg List.length e2; rwa [List.length_map, List.length_map] at this
    have sz : ((ps.map fun p => Value.ref p.1).toArray).size = ps.length := by rw [List.size_toArray, List.length_map]
    have at_ : ∀ i (h : i < ps.length), ps.getD i (0, []) = ps[i] := fun i h => by rw [List.getD_eq_getElem?_getD, List.getElem?_eq_getElem h]; rfl
    refine call_q (items := (ps.map fun p => Value.ref p.1).toArray) (ad := fun i => (ps.getD i (0, [])).1) (val := fun i => (ps.getD i (0, [])).2) (I.ok.hd hc) hu (show s.heap.IsTuple a (ps.map fun p => Value.ref p.1).toArray from pl) (fun i v hv => ?_) (fun i hi => ?_) (by rw [sz, el]; exact hl) fun h2 tk L es ep t R up kp => ?_
    · rw [List.getElem?_toArray, List.getElem?_map] at hv
      cases e : ps[i]? with
      | none => rw [e] at hv; cases hv
      | some p =>
        rw [e] at hv
        cases hv
        dsimp only
        rw [List.getD_eq_getElem?_getD, e]; rfl
    · rw [sz] at hi
      show Tq X.prog X.w s.heap (ps.getD i (0, [])).2 (ps.getD i (0, [])).1
      rw [at_ i hi]
      exact hps _ (List.getElem_mem hi)
    · rw [sz] at up
      obtain ⟨o, ho, hx, hd⟩ := R.at_
      have len := QSet.len (s := { s with heap := h2 }) R
      have fit := QSet.fits (s := { s with heap := h2 }) R
      have pm : (L.map (·.2)).Perm ((dedupK ks).map (·.map S)) := by
        refine (List.perm_ext_iff_of_nodup R.once ?_).mpr fun x => ?_
        · exact (List.pairwise_map).mpr ((nodup_dedupK ks).imp fun {a b} h e => h (S_inj' e))
        · have h1 : x ∈ (dedupK ks).map (·.map S) ↔ x ∈ ks.map (·.map S) := by
            simp only [List.mem_map, mem_dedupK]
          rw [h1, ← e2]
          constructor
          · intro hx
            obtain ⟨p, hp, rfl⟩ := List.mem_map.mp hx
            obtain ⟨j, hj, rfl⟩ := up.of p hp
            show (ps.getD j (0, [])).2 ∈ _
            rw [at_ j hj]
            exact List.mem_map.mpr ⟨_, List.getElem_mem hj, rfl⟩
          · intro hx
            obtain ⟨p, hp, rfl⟩ := List.mem_map.mp hx
            obtain ⟨j, hj, rfl⟩ := List.getElem_of_mem hp
            have := up.all j hj
            have this : (ps.getD j (0, [])).2 ∈ L.map (·.2) := this
            rwa [at_ j hj] at this
      have e3 : es.size = (dedupK ks).length := by
        have := pm.length_eq
        rw [List.length_map, List.length_map] at this
        rw [len, this]
      have ob : ObjOk X.prog X.w H h2 s.heap.objs.size (SzO s.heap.objs.size es.size) := szO_new ho hx hd fit
      rw [e3] at ob
      exact ⟨.ref s.heap.objs.size, upd H s.heap.objs.size (SzO s.heap.objs.size (dedupK ks).length), I.laid (t' := tk) kp (Nat.le_refl _) ob, rfl, k _ hn⟩
/-- len of it -/
def rLenSz : List V → Hp → VK → Prop := fun vs H Q => ∃ a n, vs = [V.ref a] ∧ H a = some (SzO a n) ∧ n < 4000 ∧ Q (.int (n : Nat)) H
theorem cr_lenSz : CallR X (.builtin "len") rLenSz := by
  intro pins s σ H xs us Q I r h
  obtain ⟨a, n, rfl, ha, hl, q⟩ := h
  obtain ⟨o, es, ep, t, ho, hx, hd, hz, hf⟩ := (I.hok a _ ha).1
  rw [Vals.ref1 r]
  refine call_len_set ho hx hd hf (by rw [hz]; omega) ⟨.int n, H, I.tok _, ⟨_, by rw [hz]⟩, q⟩
end
end Dn

/-! DnW -/
set_option Elab.async false
set_option linter.all false
set_option maxRecDepth 100000
set_option maxHeartbeats 1000000
/-! DnW: sorted(..), len(set(..)), sorted(set(..)). -/
namespace Dn
open PySem PySem.Spec PyProof.Rows L2

/-- a set of texts, over the layer -/
def TxO (w : World) (a : Addr) (l : List Str) : HO := .ext fun h => TxSet w h a l
theorem txO_new {w : World} {P : Program} {H : Hp} {h : Heap} {a : Addr} {l : List Str} (R : TxSet w h a l) : ObjOk P w H h a (TxO w a l) := by
  have ⟨o, _, _, _, ho, _⟩ := R
  exact ⟨R, ⟨o, ho⟩, fun h1 h2 p k => TxSet.mono p k⟩
theorem lt_cps : ∀ x y : List Nat, ltCps x y = decide (x < y)
  | [], [] => rfl
  | [], _ :: _ => by simp [ltCps]
  | _ :: _, [] => by simp [ltCps]
  | a :: r, b :: t => by
    show (decide (a < b) || (a == b && ltCps r t)) = _
    rw [lt_cps r t]
    by_cases h1 : a < b
    · simp [h1, List.cons_lt_cons_iff]
    · by_cases h2 : a = b
      · subst h2; simp [List.cons_lt_cons_iff]
      · simp [h1, h2, List.cons_lt_cons_iff]
theorem rising_map : ∀ (r : List Sg) (p : Sg), risingS (S p) (r.map S) = true → (p :: r).Pairwise (· ≤ ·)
  | [], p, _ => List.pairwise_singleton _ _
  | x :: r, p, h => by
    have h : (!ltCps (S x).cps.toList (S p).cps.toList && risingS (S x) (r.map S)) = true := h
    rw [Bool.and_eq_true, lt_cps] at h
    have h2 := rising_map r x h.2
    have h1 : p ≤ x := by
      have := h.1
      simp [S] at this
      exact List.not_lt.mp (of_decide_eq_false this)
    refine List.pairwise_cons.mpr ⟨fun z hz => ?_, h2⟩
    rcases List.mem_cons.mp hz with rfl | hz
    · exact h1
    · exact List.le_trans h1 ((List.pairwise_cons.mp h2).1 z hz)
theorem sorted_map {r : List Sg} (h : sortedS (r.map S) = true) : r.Pairwise (· ≤ ·) := by
  cases r with
  | nil => exact List.Pairwise.nil
  | cons x r => exact rising_map r x h
theorem perm_S {l : List Str} {r : List Sg} (h : l.Perm (r.map S)) : ∃ q : List Sg, l = q.map S ∧ q.Perm r := by
  refine ⟨l.map fun x => x.cps.toList, ?_, ?_⟩
  · rw [List.map_map]
    have : ∀ x ∈ l, (S ∘ fun x : Str => x.cps.toList) x = x := fun x hx => by
      obtain ⟨y, _, rfl⟩ := List.mem_map.mp (h.mem_iff.mp hx)
      simp [S]
    exact ((List.map_congr_left this).trans (List.map_id _)).symm
  · have := h.map fun x : Str => x.cps.toList
    rw [List.map_map] at this
    have e : (fun x : Str => x.cps.toList) ∘ S = id := by funext x; simp [S]
    rw [e, List.map_id] at this
    exact this
/-- what sorted hands back -/
theorem sorted_is {ss : List Str} {r : List Sg} (p : ss.Perm (r.map S)) (h : sortedS ss = true) : ss = (sortS r).map S := by
  obtain ⟨q, rfl, pq⟩ := perm_S p
  rw [sorted_uniq (pq.trans (sortS_perm r).symm) (sorted_map h) (sortS_sorted r)]

section
variable {K : PySem.W.Frag} {W : Wd} {G H : Hp} {m : Mu} {v : V} {d : D}
theorem strsI_ok {x : D} {ss : List Sg} (h : x.strsI = some ss) (q : RD K W G v x) : ∀ s ∈ ss, txtOk s := by
  cases x with
  | str s =>
    cases h
    obtain ⟨_, t1, t2⟩ := q.str
    intro y hy
    obtain ⟨c, hc, rfl⟩ := List.mem_map.mp hy
    exact ⟨small_line (show 1 ≤ 1000 by decide), fun z hz => by rw [show z = c by simpa using hz]; exact t2 c hc⟩
  | tup ds =>
    rcases q with q | ⟨_, _, q⟩
    · cases q with
      | tup _ r _ => exact (RVs.of_strs_d r h).2
    · exact q.elim
  | lst ds =>
    rcases q with q | ⟨a, _, vs, _, r, _⟩
    · cases q with
      | lst _ r _ => exact (RVs.of_strs_d r h).2
    · exact (RVs.of_strs_d r h).2
  | _ => cases h
theorem strs_ok : ∀ {ss : List Sg}, (∀ s ∈ ss, txtOk s) → RVs K W ((ss.map S).map V.str) (ss.map D.str) := fun {ss} h => RVs.of_strs K ss h
end

/-- set(..) -/
def rTx (K : PySem.W.Frag) (w : World) : List V → Hp → VK → Prop := fun vs H Q => ∃ W G m v x ss, vs = [v] ∧ HR K W G H m ∧ RD K W G v x ∧ x.strsI = some ss ∧ ss.length < 4000 ∧ ∀ p l, H p = none → l.Perm ((dedupS ss).map S) → Q (.ref p) (upd H p (TxO w p l))
section
variable {X : L2.Cx}
theorem mem_val {ss : List Sg} {l : List Str} {n : Nat} {val : Nat → Str} (nd : l.Nodup) (up : Upto val n l) (hn : n = ss.length) (hv : ∀ (i : Nat) (h : i < ss.length), val i = S ss[i]) : l.Perm ((dedupS ss).map S) := by
  refine (List.perm_ext_iff_of_nodup nd ?_).mpr fun x => ?_
  · exact (List.pairwise_map).mpr ((nodup_dedupS ss).imp fun {a b} h e => h (S_inj e))
  · rw [up.1 x, List.mem_map]
    constructor
    · rintro ⟨j, hj, rfl⟩
      have hj2 : j < ss.length := by omega
      exact ⟨ss[j], mem_dedupS.mpr (List.getElem_mem hj2), (hv j hj2).symm⟩
    · rintro ⟨s, hs, rfl⟩
      obtain ⟨j, hj, e⟩ := List.getElem_of_mem (mem_dedupS.mp hs)
      exact ⟨j, by omega, by rw [hv j hj, e]⟩
theorem TxSet.nd {w : World} {h : Heap} {a : Addr} {l : List Str} (R : TxSet w h a l) : l.Nodup := by
  obtain ⟨_, _, _, _, _, _, _, _, _, nd, _⟩ := R
  exact nd
theorem cr_tx (hc : X.calm = true) : CallR X (.type "set") (rTx X.K X.w) := by
  intro pins s σ H xs us Q I r h
  obtain ⟨W, G, m, v, x, ss, rfl, hr, q, ex, hl, k⟩ := h
  have hn : H s.heap.objs.size = none := I.hok.fresh (Nat.le_refl _)
  have sb : scanBound = 4096 := rfl
  have fin : ∀ (n : Nat) (val : Nat → Str), n = ss.length → (∀ (i : Nat) (h : i < ss.length), val i = S ss[i]) → ∀ (h2 : Heap) (tk : Nat) (l : List Str), TxSet X.w h2 s.heap.objs.size l → Upto val n l → (∀ b o, s.heap.get? b = some o → h2.get? b = some o) → EP X pins σ Q (.ref s.heap.objs.size) { s with heap := h2, toks := tk } := fun n val en ev h2 tk l R up kp =>
    ⟨.ref s.heap.objs.size, upd H s.heap.objs.size (TxO X.w s.heap.objs.size l), I.laid (t' := tk) kp (Nat.le_refl _) (txO_new R), rfl, k _ l hn (mem_val R.nd up en ev)⟩
  cases x with
  | str z =>
    cases ex
    obtain ⟨rfl, tz⟩ := q.str
    cases r with
    | cons rx rt =>
      cases rt
      obtain ⟨u, rfl⟩ := rx
      have e1 : (S z).cps.size = z.length := by simp [S]
      refine call_tx (T := "str") (I.ok.hd hc) src_str (fun s2 _ => rfl) F.sub_str_set F.sub_str_frozenset (by decide) (by rw [e1]; rw [List.length_map] at hl; omega) (fin _ _ (by rw [e1, List.length_map]) fun i h => ?_)
      rw [List.length_map] at h
      rw [List.getElem_map]
      show (⟨#[(S z).cps.getD i 0]⟩ : Str) = ⟨#[z[i]]⟩
      have : (S z).cps.getD i 0 = z[i] := by simp [S, Array.getD_eq_getD_getElem?, h]
      rw [this]
  | tup ds =>
    have ex : strs? ds = some ss := ex
    obtain ⟨a, vs, rfl, ha, ra, z⟩ := q.tup hr
    obtain ⟨e1, _⟩ := RVs.of_strs_d ra ex
    subst e1
    cases r with
    | cons rx rt =>
      cases rt
      cases rx
      obtain ⟨its, rv, pl, hz⟩ := I.tuple ha
      have sa := strsAre_of rv
      have el : its.toArray.size = ss.length := by rw [List.size_toArray, ← rv.length, List.length_map, List.length_map]
      refine call_tx (T := "tuple") (I.ok.hd hc) (src_tuple pl (xs := ss.map S) (by simpa using sa)) (fun s2 kp => by
        obtain ⟨o, ho, hcl, _⟩ := pl
        exact ⟨o, kp _ _ ho, hcl⟩) F.sub_tuple_set F.sub_tuple_frozenset (by decide) (by rw [el]; omega) (fin _ _ el fun i h => ?_)
      rw [List.getD_eq_getElem?_getD, List.getElem?_map, List.getElem?_eq_getElem h]; rfl
  | lst ds =>
    have ex : strs? ds = some ss := ex
    obtain ⟨a, vs, rfl, ha, ra, z⟩ := q.lst hr
    obtain ⟨e1, _⟩ := RVs.of_strs_d ra ex
    subst e1
    cases r with
    | cons rx rt =>
      cases rt
      cases rx
      obtain ⟨its, rv, pl, hz⟩ := I.list (.inl (.inl ha))
      have sa := strsAre_of rv
      have el : its.toArray.size = ss.length := by rw [List.size_toArray, ← rv.length, List.length_map, List.length_map]
      refine call_tx (T := "list") (I.ok.hd hc) (src_list pl.isList (xs := ss.map S) (by simpa using sa)) (fun s2 kp => by
        obtain ⟨o, ho, hcl, _⟩ := pl.isList
        exact ⟨o, kp _ _ ho, hcl⟩) F.sub_list_set F.sub_list_frozenset (by decide) (by rw [el]; omega) (fin _ _ el fun i h => ?_)
      rw [List.getD_eq_getElem?_getD, List.getElem?_map, List.getElem?_eq_getElem h]; rfl
  | _ => cases ex
/-- len(a set) -/
def rLenTx (w : World) : List V → Hp → VK → Prop := fun vs H Q => ∃ a l, vs = [V.ref a] ∧ H a = some (TxO w a l) ∧ l.length < 4000 ∧ Q (.int (l.length : Nat)) H
theorem cr_lenTx : CallR X (.builtin "len") (rLenTx X.w) := by
  intro pins s σ H xs us Q I r h
  obtain ⟨a, l, rfl, ha, hl, q⟩ := h
  have R : TxSet X.w s.heap a l := (I.hok a _ ha).1
  rw [Vals.ref1 r]
  obtain ⟨o, es, ep, t, ho, hx, hd, hz, hf⟩ := R.size
  refine call_len_set ho hx hd hf (by rw [hz]; omega) ⟨.int l.length, H, I.tok _, ⟨_, by rw [hz]⟩, q⟩
/-- sorted(a set) -/
def rSortTx (w : World) : List V → Hp → VK → Prop := fun vs H Q => ∃ a l r, vs = [V.ref a] ∧ H a = some (TxO w a l) ∧ l.Perm (r.map S) ∧ l.length < 4000 ∧ ∀ p, H p = none → Q (.ref p) (upd H p (.lst (((sortS r).map S).map V.str)))
theorem vals_strs : ∀ {us : List Value} {ys : List Str}, StrsAre us ys → Vals (ys.map V.str) us
  | _, _, .nil => .nil
  | _, _, .cons y k t => .cons ⟨k, rfl⟩ (vals_strs t)
theorem cr_sortTx (hc : X.calm = true) : CallR X (.builtin "sorted") (rSortTx X.w) := by
  intro pins s σ H vs us Q I r h
  obtain ⟨a, l, y, rfl, ha, pl, hl, q⟩ := h
  have R : TxSet X.w s.heap a l := (I.hok a _ ha).1
  have sb : scanBound = 4096 := rfl
  rw [Vals.ref1 r]
  refine sorted_tx R (I.ok.hd hc) (by omega) fun s' p out c ss k g o hp hg hi hs hm => ?_
  have e0 := sorted_is (hs.trans pl) hm
  subst e0
  have hlen : (((sortS y).map S).map V.str).length ≤ sizeLine := by
    rw [List.length_map, List.length_map, (sortS_perm y).length_eq]
    have := pl.length_eq
    rw [List.length_map] at this
    rw [sizeLine_eq]; omega
  have hn : H p = none := I.hok.fresh hp
  have J : Inv X pins σ (upd H p (.lst (((sortS y).map S).map V.str))) { s with heap := s'.heap, gens := s'.gens, drawn := s'.drawn, toks := s'.toks } :=
    I.call (ch := []) (Un.laid k hp hn) (I.hok.laid k hp ⟨hlen, out.toList, c, vals_strs hi, hg⟩) (by rw [g]; exact I.bare) (fun _ z => nomatch z)
  have e : s' = { s with heap := s'.heap, gens := s'.gens, drawn := s'.drawn, toks := s'.toks } := by
    cases s'
    cases s
    cases o
    rfl
  rw [e]
  exact ⟨.ref p, _, J, rfl, q p hn⟩
end
/-! ### the calls -/
section
variable {T : Tb} {Nn : Tn} {n : Nat} {N : List Str} {sc : Scope} {E : XK} {X : L2.Cx} {G : Hp} {W : Wd} {sg : L2.St} {H : Hp} {m : Mu} {r : Env} {rp : D → Option Sg}
theorem b_sorted (hu : X.A.units + 100 < cLine) : CallR X (.builtin "sorted") (R1 X.K (b1D rp .sorted)) := by
  intro pins s σ H xs us Q I rx h
  obtain ⟨W, G, m, v, x, r, rfl, hr, q, e, k⟩ := h
  have e : (sortedD x).map (fun r => (⟨.f, .lst r⟩ : R)) = some r := e
  cases x with
  | lst ds =>
    obtain ⟨a, vs, rfl, ha, ra, z⟩ := q.lst hr
    cases e1 : strs? ds with
    | some ss =>
      have e2 : sortedD (.lst ds) = if ss.length < 64 then some ((sortS ss).map .str) else none := by simp only [sortedD, e1]
      rw [e2] at e
      by_cases hl : ss.length < 64
      · rw [if_pos hl] at e
        cases e
        obtain ⟨e3, tk⟩ := RVs.of_strs_d ra e1
        subst e3
        refine cr_sortedS pins s σ H _ us Q I rx ⟨a, ss.map S, rfl, .inl (.inl ha), by rw [List.length_map]; exact hl, fun ys p py sy hp => ?_⟩
        have := sorted_is py sy
        subst this
        have ok : RVs X.K W (((sortS ss).map S).map V.str) ((sortS ss).map D.str) := strs_ok fun s hs => tk s ((sortS_perm ss).mem_iff.mp hs)
        obtain ⟨h2, q2⟩ := new_lst hr hp ok (by rw [List.length_map, (sortS_perm ss).length_eq]; exact small_line (by omega))
        exact k _ _ _ (Wd.Le.refl _) h2 q2
      · rw [if_neg hl] at e; cases e
    | none =>
      have e2 : sortedD (.lst ds) = (match ints? ds with | some ns => some ((sortI ns).map .int) | none => sortT ds) := by
        cases hi : ints? ds <;> simp only [sortedD, e1, hi]
      rw [e2] at e
      cases e3 : ints? ds with
      | none =>
        rw [e3] at e
        have e : (sortT ds).map (fun r => (⟨.f, .lst r⟩ : R)) = some r := e
        cases e4 : sortT ds with
        | none => rw [e4] at e; cases e
        | some zs =>
          rw [e4] at e
          cases e
          obtain ⟨ok, rfl⟩ := sortT_some e4
          refine cr_sortT hu pins s σ H _ us Q I rx ⟨W, G, m, a, vs, ds, rfl, hr, ra, ok, .inl (.inl (.inl ha)), fun p ws hp rz => ?_⟩
          obtain ⟨h2, q2⟩ := new_lst hr hp rz (by rw [(List.mergeSort_perm ds leD).length_eq]; exact z)
          exact k _ _ _ (Wd.Le.refl _) h2 q2
      | some ns =>
        rw [e3] at e
        cases e
        have := ra.of_ints_d e3
        subst this
        refine cr_sortedI pins s σ H _ us Q I rx ⟨a, ns, rfl, .inl (.inl ha), fun ys p py sy hp => ?_⟩
        have := sortedI_uniq (py.trans (sortI_perm ns).symm) sy (sortI_sorted ns)
        subst this
        have hl : ds.length = ns.length := by rw [← ra.length, List.length_map]
        obtain ⟨h2, q2⟩ := new_lst hr hp (RVs.of_ints X.K (sortI ns)) (by rw [List.length_map, (sortI_perm ns).length_eq, ← hl]; exact z)
        exact k _ _ _ (Wd.Le.refl _) h2 q2
  | tup ds =>
    have e : (sortT ds).map (fun r => (⟨.f, .lst r⟩ : R)) = some r := e
    obtain ⟨a, vs, rfl, ha, ra, z⟩ := q.tup hr
    cases e4 : sortT ds with
    | none => rw [e4] at e; cases e
    | some zs =>
      rw [e4] at e
      cases e
      obtain ⟨ok, rfl⟩ := sortT_some e4
      refine cr_sortT hu pins s σ H _ us Q I rx ⟨W, G, m, a, vs, ds, rfl, hr, ra, ok, .inr ha, fun p ws hp rz => ?_⟩
      obtain ⟨h2, q2⟩ := new_lst hr hp rz (by rw [(List.mergeSort_perm ds leD).length_eq]; exact z)
      exact k _ _ _ (Wd.Le.refl _) h2 q2
  | _ => cases e
abbrev bNames : List Str := ["len", "tuple", "sorted", "int", "repr", "sum", "all", "any", "dict", "abs", "set", "list", "min", "isinstance", "range", "enumerate", "zip", "str", "bool"]
theorem se_lenset {p p2 q pos : Pos} {e : PySem.Expr} {c : CE} (h1 : sc.names.lookup ("len" : Str) = some .globalImplicit) (h2 : sc.names.lookup ("set" : Str) = some .globalImplicit) (h : SE T Nn n N sc e c) (hs : notStar e = true) : SE T Nn n N sc (.Call (.Name "len" p) [.Call (.Name "set" p2) [e] [] q] [] pos) (.b1 .lenset c) := by
  intro E X x'
  obtain ⟨t, pe, fa⟩ := h E X x'
  refine ⟨_, pe_callB (cr_lenTx.or cr_lenSz) (x'.gl h1) (x'.base.free _ (by decide)) (by decide +kernel) (pa_cons (pe_callTy ((cr_tx x'.calm).or (cr_sz x'.calm (by have := x'.hu; omega))) (x'.gl h2) (x'.base.free _ (by decide)) (by decide +kernel) (pa_cons pe pa_nil (star_of hs _ _)) (by decide) (by decide) (star_of hs _ _) rfl) pa_nil rfl) (by decide) (by decide) rfl rfl, fun r m G W sg H Q er hr p => ?_⟩
  have p : PostR Nn X.mg X.K G W ((evE (cxE T n) c r m).bnd fun x m1 => (M.opt (b1D T.rp .lenset x.d)) m1) _ E := Post.toR p
  refine use1 fa er hr p fun x m1 W1 H1 v l1 h1 q1 p1 => ?_
  obtain ⟨r1, e1, p1⟩ := p1.opt'
  have e1 : lensetD x.d = some r1 := e1
  cases e2 : x.d.strsI with
  | none =>
    have e3 : (match x.d with
      | .tup ds => (tups? ds).bind fun ks => if ks.length < 60 then some (⟨.v, .int (dedupK ks).length⟩ : R) else none
      | _ => none) = some r1 := by
      unfold lensetD at e1
      rw [e2] at e1
      exact e1
    cases e4 : x.d with
    | tup ds =>
      rw [e4] at e3
      have q2 := q1.1
      rw [e4] at q2
      have e3 : ((tups? ds).bind fun ks => if ks.length < 60 then some (⟨.v, .int (dedupK ks).length⟩ : R) else none) = some r1 := e3
      cases e5 : tups? ds with
      | none => rw [e5] at e3; cases e3
      | some ks =>
        rw [e5] at e3
        have e3 : (if ks.length < 60 then some (⟨.v, .int (dedupK ks).length⟩ : R) else none) = some r1 := e3
        by_cases hl : ks.length < 60
        · rw [if_pos hl] at e3
          cases e3
          have dl := dedupK_len ks
          refine .inr ⟨W1, G, m1, v, ds, ks, rfl, h1, q2, e5, hl, fun a ha => ?_⟩
          exact .inr ⟨a, _, rfl, upd_same, by omega, p1.ok (h1.new ha) _ (rr_int _)⟩
        · rw [if_neg hl] at e3; cases e3
    | _ => rw [e4] at e3; cases e3
  | some ss =>
    have e1 : (if ss.length < 4000 then some (⟨.v, .int (dedupS ss).length⟩ : R) else none) = some r1 := by
      unfold lensetD at e1
      rw [e2] at e1
      exact e1
    by_cases hl : ss.length < 4000
    · rw [if_pos hl] at e1
      cases e1
      refine .inl ⟨W1, G, m1, v, x.d, ss, rfl, h1, q1.1, e2, hl, fun a l ha pl => ?_⟩
      have ll : l.length = (dedupS ss).length := by rw [pl.length_eq, List.length_map]
      refine .inl ⟨a, l, rfl, upd_same, by rw [ll]; exact Nat.lt_of_le_of_lt (dedupS_len ss) hl, ?_⟩
      rw [ll]
      exact p1.ok (h1.new ha) _ (rr_int _)
    · rw [if_neg hl] at e1; cases e1
theorem se_sortset {p p2 q pos : Pos} {e : PySem.Expr} {c : CE} (h1 : sc.names.lookup ("sorted" : Str) = some .globalImplicit) (h2 : sc.names.lookup ("set" : Str) = some .globalImplicit) (h : SE T Nn n N sc e c) (hs : notStar e = true) : SE T Nn n N sc (.Call (.Name "sorted" p) [.Call (.Name "set" p2) [e] [] q] [] pos) (.b1 .sortset c) := by
  intro E X x'
  obtain ⟨t, pe, fa⟩ := h E X x'
  refine ⟨_, pe_callB (cr_sortTx x'.calm) (x'.gl h1) (x'.base.free _ (by decide)) (by decide +kernel) (pa_cons (pe_callTy (cr_tx x'.calm) (x'.gl h2) (x'.base.free _ (by decide)) (by decide +kernel) (pa_cons pe pa_nil (star_of hs _ _)) (by decide) (by decide) (star_of hs _ _) rfl) pa_nil rfl) (by decide) (by decide) rfl rfl, fun r m G W sg H Q er hr p => ?_⟩
  have p : PostR Nn X.mg X.K G W ((evE (cxE T n) c r m).bnd fun x m1 => (M.opt (b1D T.rp .sortset x.d)) m1) _ E := Post.toR p
  refine use1 fa er hr p fun x m1 W1 H1 v l1 h1 q1 p1 => ?_
  obtain ⟨r1, e1, p1⟩ := p1.opt'
  have e1 : (x.d.strsI.bind fun ss => if ss.length < 4000 then some (⟨.f, .lst ((sortS (dedupS ss)).map .str)⟩ : R) else none) = some r1 := e1
  cases e2 : x.d.strsI with
  | none => rw [e2] at e1; cases e1
  | some ss =>
    rw [e2] at e1
    have e1 : (if ss.length < 4000 then some (⟨.f, .lst ((sortS (dedupS ss)).map .str)⟩ : R) else none) = some r1 := e1
    by_cases hl : ss.length < 4000
    · rw [if_pos hl] at e1
      cases e1
      refine ⟨W1, G, m1, v, x.d, ss, rfl, h1, q1.1, e2, hl, fun a l ha pl => ?_⟩
      have ll : l.length = (dedupS ss).length := by rw [pl.length_eq, List.length_map]
      have dl := dedupS_len ss
      refine ⟨a, l, dedupS ss, rfl, upd_same, pl, by omega, fun b hb => ?_⟩
      have tk := strsI_ok e2 q1.1
      have ok : RVs X.K W1 (((sortS (dedupS ss)).map S).map V.str) ((sortS (dedupS ss)).map D.str) := strs_ok fun s hs => tk s (mem_dedupS.mp ((sortS_perm _).mem_iff.mp hs))
      obtain ⟨h3, q3⟩ := new_lst (h1.new ha) hb ok (by rw [List.length_map, (sortS_perm _).length_eq]; exact Nat.le_trans (Nat.le_of_lt (Nat.lt_of_le_of_lt dl hl)) (by rw [sizeLine_eq]; decide))
      exact p1.ok h3 _ q3
    · rw [if_neg hl] at e1; cases e1
end
end Dn

/-! DnT -/
set_option Elab.async false
set_option linter.all false
set_option maxRecDepth 100000
set_option maxHeartbeats 1000000
/-! DnT: enumerate of a tuple. -/
namespace Dn
open PySem PySem.Spec PyProof.Rows L2
section
variable {prog : Program} {w : World} {A : Around} {E : Value → Shared → Prop} {s : Shared}
theorem draws_tuple (hh : A.handled = none) (l it : Addr) (hne : l ≠ it) (items : Array Value) :
    Draws prog w A it [l, it] items.size (fun i x => items[i]? = some x) (fun i h => h.IsTupleIter it l i ∧ h.IsTuple l items) where
  live := fun i h st => let ⟨⟨o, ho, _⟩, _⟩ := st; ⟨o, ho⟩
  frame := fun i h h' st k => by
    obtain ⟨h1, ⟨o, ho, r⟩⟩ := st
    exact ⟨h1.at fun o q => k it (by simp) o q, ⟨o, k l (by simp) _ ho, r⟩⟩
  item := fun i s Q E hi st hQ => by
    obtain ⟨h1, h2⟩ := st
    refine RZ.nextOf_tuple_item h1 h2 (x := items[i]) (by simp [hi]) fun h' h3 sb => ?_
    have := hQ items[i] h' s.toks (by simp [hi]) ⟨h3, ?_⟩ sb
    · exact this
    · obtain ⟨o, ho, r⟩ := h2
      exact ⟨o, (sb.2 l hne).trans ho, r⟩
  done := fun s Q E st hE => by
    obtain ⟨h1, h2⟩ := st
    exact RZ.nextOf_tuple_end hh h1 h2 (by simp) hE
theorem wpAny_pyNext_enum_endX {e it l : Addr} {i : Nat} {items : Array Value} {old : Value} {Q : Option Value → Shared → Prop} (hh : A.handled = none)
    (he : IsEnum s.heap e it i old) (hit : s.heap.IsTupleIter it l i) (hl : s.heap.IsTuple l items) (hx : items[i]? = none)
    (hQ : ∀ h', Heap.ExtBut it s.heap h' → Q none { s with heap := h' }) : wpAny (model prog w) A (pyNext (.ref e)) Q E s := by
  have hT : s.TypeIs (.ref e) "enumerate" := ⟨_, he, rfl⟩
  unfold pyNext
  refine wpAny_bind (wpAny_attempt (wpAny_callSpecial?_slot (name := Str.ofString "__next__") hT F.slot_enumerate_next
    (wpAny_call_entry F.slot_enumerate_next hT F.entry_enumerate_next ?_ (F.args_enumerate_next_1 _))))
  show wpAny _ _ (field (.ref e) 2 >>= _) _ _ _
  refine wpAny_bind (wpAny_field he rfl (x := .ref it) rfl ?_)
  refine wpAny_bind (RZ.nextOf_tuple_end hh hit hl hx fun h' x he' hx' => ?_)
  obtain ⟨o, ho, hc⟩ := hx'
  refine wpAny_bind (wpAny_isInstance (T := "StopIteration") (b := true) ⟨o, ho, hc⟩ isSubtype_stop ?_)
  exact wpAny_pure (hQ _ he')
open AutoSeq1 (wpAny_loadPart') in
theorem meets_enumerate_newT (l : Addr) (items : Array Value) (n : Nat) (dct : Option Addr) (sl : Array (Option Value)) :
    Meets (Builtin.«enumerate.__new__» ⟨[.type "enumerate", .ref l], []⟩) (fun _ R s => s.heap.get? l = some { cls := .type "tuple", dict := dct, data := .seq items n, slots := sl } ∧
      R (.ok (.ret (.ref (s.heap.push { cls := .type "tuple_iterator", data := .fields #[.ref l, .int 0 0] }).objs.size)))
        { s with heap := (s.heap.push { cls := .type "tuple_iterator", data := .fields #[.ref l, .int 0 0] }).push { cls := .type "enumerate", data := .fields #[.none, .bool false, .ref s.heap.objs.size, rawInt 0, .none, .none] } }) :=
  .of_wp fun prog w A R s h => by
    obtain ⟨hp, g, d, tk, os⟩ := s; obtain ⟨hl, h⟩ := h
    have hsub := sub_enumerate
    have hL : Heap.IsTuple (Shared.heap ⟨hp, g, d, tk, os⟩) l items := ⟨_, hl, rfl, n, rfl⟩
    wp_walk using wpAny_loadPart' hl
    refine wpAny_stack_any fun st => wpAny_pure ?_
    split
    · rename_i c _ _ _ _ _
      cases (c == Value.type "enumerate")
      · wp_walk using wpAny_loadPart' hl, wpAny_pyIter_tuple hL
        exact ⟨_, rfl, h⟩
      · wp_walk using wpAny_loadPart' hl, wpAny_pyIter_tuple hL
        exact ⟨_, rfl, h⟩
    · wp_walk using wpAny_loadPart' hl, wpAny_pyIter_tuple hL
      exact ⟨_, rfl, h⟩
theorem call_enumerate_tuple {l : Addr} {items : Array Value} {Q : Value → Shared → Prop} (hL : s.heap.IsTuple l items)
    (h : ∀ h', IsEnum h' (s.heap.objs.size + 1) s.heap.objs.size 0 .none → h'.IsTupleIter s.heap.objs.size l 0 → h'.objs.size = s.heap.objs.size + 2 →
      (∀ b o, s.heap.get? b = some o → h'.get? b = some o) → Q (.ref (s.heap.objs.size + 1)) { s with heap := h' }) :
    wpAny (model prog w) A (call (.type "enumerate") [.ref l]) Q E s := by
  obtain ⟨⟨c, dct, dt, sl⟩, hl, hc, n, hd⟩ := hL
  replace hc : c = .type "tuple" := hc
  replace hd : dt = .seq items n := hd
  subst hc hd
  refine callType_new F.called_enumerate (by decide) (F.typeCall_enumerate_1 _) (F.newCall_enumerate_1 _) (fun obj => F.args_object_init_2 obj _) F.entry_enumerate_new
    (meets_enumerate_newT l items n dct sl) ⟨hl, ?_⟩
  have hz : (s.heap.push { cls := .type "tuple_iterator", data := .fields #[.ref l, .int 0 0] }).objs.size = s.heap.objs.size + 1 := Heap.size_push ..
  show _ ∧ _
  rw [hz]
  have he : IsEnum ((s.heap.push { cls := .type "tuple_iterator", data := .fields #[.ref l, .int 0 0] }).push
      { cls := .type "enumerate", data := .fields #[.none, .bool false, .ref s.heap.objs.size, rawInt 0, .none, .none] }) (s.heap.objs.size + 1) s.heap.objs.size 0 .none := by
    have := Heap.get?_push_size (s.heap.push { cls := .type "tuple_iterator", data := .fields #[.ref l, .int 0 0] })
      (o := { cls := .type "enumerate", data := .fields #[.none, .bool false, .ref s.heap.objs.size, rawInt 0, .none, .none] }) rfl
    rw [hz] at this; exact this
  refine ⟨⟨_, he, rfl⟩, h _ he ⟨_, Heap.get?_push_of_some _ (Heap.get?_push_size _ rfl), rfl, rfl⟩ (by rw [Heap.size_push, hz]) fun b o x => Heap.get?_push_of_some _ (Heap.get?_push_of_some _ x)⟩
end
/-- the tuple at a, each item in a new pair -/
def IteT (K : PySem.W.Frag) (a : Addr) : It :=
  ⟨fun i H => ∃ (xs : List V) (x : V), SqT K H a xs ∧ xs[i]? = some x, fun i H v H' => ∃ T x, v = .ref T ∧ H T = none ∧ H' = upd H T (.tup [.int (i : Nat), x]) ∧ ∀ xs, SqT K H a xs → xs[i]? = some x, fun i H => ∃ xs : List V, SqT K H a xs ∧ xs.length ≤ i⟩
theorem turn_enumT {P : Program} {w : World} {K : PySem.W.Frag} {elts : List PySem.Expr} {kk : Nat} {tpos : Pos} (a e it : Addr) (ha1 : a ≠ it) (ha2 : a ≠ e) :
    Turn P w K (.Tuple elts kk tpos) (IteT K a) [e, it] e (fun i h => (∃ old, IsEnum h e it ((i : Nat) : Int) old) ∧ h.IsTupleIter it a i ∧ e ≠ it) where
  mem := by simp
  obj := fun i h st b hb => by
    obtain ⟨⟨old, he⟩, ⟨o, ho, hc, hd⟩, _⟩ := st
    have e' : b = e ∨ b = it := by simpa using hb
    rcases e' with z | z
    · rw [z]; exact ⟨_, he, fun v q => nomatch q⟩
    · rw [z]; exact ⟨o, ho, fun v q => by rw [hd] at q; cases q⟩
  keep := fun i h h' st k => let ⟨⟨old, he⟩, hi, hne⟩ := st; ⟨⟨old, k e (by simp) _ he⟩, hi.at fun o q => k it (by simp) o q, hne⟩
  item := by
    intro X hP hw hK hc i pins s σ H E I hf st hg
    subst hP hw hK
    obtain ⟨⟨old, he⟩, hit, hne⟩ := st
    obtain ⟨xs, x, hq, hx⟩ := hg
    obtain ⟨its, rv, p, hz⟩ := I.tuple hq
    obtain ⟨u, hu, ru⟩ := rv.get hx
    have hel : e < s.heap.objs.size := Heap.lt_size he
    have hil : it < s.heap.objs.size := by obtain ⟨_, q, _⟩ := hit; exact Heap.lt_size q
    have hlt : i < its.toArray.size := by
      have := (List.getElem?_eq_some_iff.mp hu).1
      simpa using this
    refine wpAny_pyNext_enum_itemD (draws_tuple (A := X.A.in1) (I.ok.hd hc) a it ha1 its.toArray) he ⟨hit, p⟩ hlt hne (by simp; exact ⟨fun z => ha2 z.symm, hne⟩) fun x' h' tk hx' ho hit' hT hsz hk => ?_
    have ex : x' = u := by
      have h1 : its[i]? = some x' := by simpa using hx'
      rw [hu] at h1; exact (Option.some.inj h1).symm
    subst ex
    refine ⟨_, rfl, wpAny_letOwnedTupleGo_enum (s := { s with heap := h', toks := tk + 1 }) ho fun h'' he' sb => ?_⟩
    have hT2 : h''.get? s.heap.objs.size = some { cls := .type "tuple", data := .seq #[.int i tk, x'] } := (sb.2 _ (Nat.ne_of_gt hel)).trans hT
    have new : ObjOk X.prog X.w (upd H s.heap.objs.size (.tup [.int (i : Nat), x])) h'' s.heap.objs.size (.tup [.int (i : Nat), x]) :=
      ⟨by show 2 ≤ sizeLine; decide, [.int i tk, x'], .cons ⟨_, rfl⟩ (.cons ru .nil), ⟨_, hT2, rfl, _, rfl⟩⟩
    have I1 : Inv X pins σ (upd H s.heap.objs.size (.tup [.int (i : Nat), x])) { s with heap := h'', toks := tk + 1 } :=
      I.turnedNew (ch := [e, it]) (fun b ob hb q => (sb.2 b (fun z => hb (by simp [z]))).trans (hk b ob (fun z => hb (by simp [z])) (fun z => hb (by simp [z])) q)) hf (Nat.le_refl _) new
    refine ⟨.ref s.heap.objs.size, _, I1, rfl, ⟨_, x, rfl, I.hok.fresh (Nat.le_refl _), rfl, fun ys hy => by rw [I.tuple_inj hy hq]; exact hx⟩, ⟨⟨x', ?_⟩, hit'.1.at fun o q => (sb.2 it (Ne.symm hne)).trans q, hne⟩, fun b hb => ?_⟩
    · have e1 : ((i + 1 : Nat) : Int) = (i : Int) + 1 := by omega
      rw [e1]; exact he'
    · have hb' : b < s.heap.objs.size := by
        have e' : b = e ∨ b = it := by simpa using hb
        rcases e' with z | z
        · rw [z]; exact hel
        · rw [z]; exact hil
      rw [upd_ne (Nat.ne_of_lt hb')]
      exact (hf b hb).1
  done := by
    intro X hP hw hK hc i pins s σ H E I hf st hg
    subst hP hw hK
    obtain ⟨⟨old, he⟩, hit, hne⟩ := st
    obtain ⟨xs, hq, hx⟩ := hg
    obtain ⟨its, rv, p, hz⟩ := I.tuple hq
    obtain ⟨f0, f1, f2, f3, f4, f5⟩ := hf it (by simp)
    have hl := rv.length
    exact wpAny_pyNext_enum_endX (I.ok.hd hc) he hit p (by simp; omega) fun h' eb => ⟨rfl, I.turned (t' := s.toks) (fun b o hb q => eb b o hb q) f0 f1 f3 f4 f5⟩
  self := fun A i s Q E st h => let ⟨⟨_, he⟩, _⟩ := st; wpAny_pyIter_enum he h
def iEnumA (K : PySem.W.Frag) (ta : TA) : TI := fun σ H R => ta σ H fun vs H1 => ∃ a xs, vs = [.ref a] ∧ ((SqL K H1 a xs ∧ R (Ite K a) H1) ∨ (SqT K H1 a xs ∧ R (IteT K a) H1))
theorem pi_enumA {X : L2.Cx} {e : PySem.Expr} {ta : TA} {p pos tpos : Pos} {elts : List PySem.Expr} {kk : Nat} (hg : Gl X "enumerate") (hm : X.mg "enumerate" = none) (ha : PA X [e] ta) (hs : starEach [e] X.env = [(false, eval e X.env)] := by rfl) :
    PI X (.Tuple elts kk tpos) (.Call (.Name "enumerate" p) [e] [] pos) (iEnumA X.K ta) := by
  refine ⟨fun pins s σ H R I h => ?_⟩
  refine Call_ (ld_blt I hg hm boot_enumerate (PyProof.Rows.callWith_type1 (thn (ha.run pos pins s σ H _ I h) fun us s1 ⟨vs, H1, I1, r1, q1⟩ => ?_) hs rfl))
  obtain ⟨a, xs, ex, q1⟩ := q1
  subst ex
  cases r1 with
  | cons r rr =>
    cases rr
    cases r
    have fresh : ∀ b ∈ [s1.heap.objs.size + 1, s1.heap.objs.size], FpOk X pins H1 b := fun b hb => by
      have e' : b = s1.heap.objs.size + 1 ∨ b = s1.heap.objs.size := by simpa using hb
      have hle : s1.heap.objs.size ≤ b := by
        rcases e' with z | z
        · rw [z]; exact Nat.le_add_right _ _
        · rw [z]; exact Nat.le_refl _
      exact I1.fpOk hle (I1.hok.fresh hle)
    rcases q1 with ⟨hq, q⟩ | ⟨hq, q⟩
    · obtain ⟨its, rv, p', hz⟩ := I1.list hq
      refine call_enumerate_list p'.isList fun h' he hit hsz hk => wpAny_pyIter_enum he ?_
      have I2 : Inv X pins σ H1 { s1 with heap := h' } := I1.kept (t' := s1.toks) hk
      exact ⟨s1.heap.objs.size + 1, [s1.heap.objs.size + 1, s1.heap.objs.size], _, _, H1, rfl, I2, turn_enum a (s1.heap.objs.size + 1) s1.heap.objs.size, ⟨⟨.none, he⟩, hit, Nat.succ_ne_self _⟩, fresh, q⟩
    · obtain ⟨its, rv, p', hz⟩ := I1.tuple hq
      obtain ⟨o1, ho1, _⟩ := id p'
      have hlt := Heap.lt_size ho1
      refine call_enumerate_tuple p' fun h' he hit hsz hk => wpAny_pyIter_enum he ?_
      have I2 : Inv X pins σ H1 { s1 with heap := h' } := I1.kept (t' := s1.toks) hk
      exact ⟨s1.heap.objs.size + 1, [s1.heap.objs.size + 1, s1.heap.objs.size], _, _, H1, rfl, I2, turn_enumT a (s1.heap.objs.size + 1) s1.heap.objs.size (Nat.ne_of_lt hlt) (Nat.ne_of_lt (Nat.lt_succ_of_lt hlt)), ⟨⟨.none, he⟩, hit, Nat.succ_ne_self _⟩, fresh, q⟩
end Dn

/-! Dn10 -/
set_option Elab.async false
set_option linter.all false
set_option maxRecDepth 100000
set_option maxHeartbeats 1000000
/-! Dn10: what a for walks. -/
namespace Dn
open PySem PySem.Spec PyProof.Rows L2

theorem rdG_sub (G : Hp) : Same (rdG G) G := fun a o e => by
  unfold rdG at e
  split at e
  · cases e
  · exact e
/-- does a loop take its items apart at once -/
def tpE : PySem.Expr → Bool
  | .Tuple .. => true
  | _ => false
/-- an item of a loop: a value, or (taken apart at once) a pair -/
def RI (K : PySem.W.Frag) (b : Bool) (W : Wd) (v : V) (d : D) : Prop := RV K W v d ∨ (b = true ∧ ∃ a vs ds, v = .ref a ∧ d = .tup ds ∧ SqT K W.Ph a vs ∧ RVs K W vs ds)
structure ItD (K : PySem.W.Frag) (b : Bool) (J : It) (W0 : Wd) (G0 : Hp) (ds : List D) : Prop where
  go : ∀ (i : Nat) (W : Wd) (G H : Hp) (m : Mu), W0.Le W → Same (rdG G0) G → HR K W G H m → i < ds.length → J.go i H
  yld : ∀ (i : Nat) (W : Wd) (G H : Hp) (m : Mu) (x : V) (H' : Hp), W0.Le W → Same (rdG G0) G → HR K W G H m → i < ds.length → J.yld i H x H' → ∃ W' d, W.Le W' ∧ HR K W' G H' m ∧ ds[i]? = some d ∧ RI K b W' x d
  stop : ∀ (i : Nat) (W : Wd) (G H : Hp) (m : Mu), W0.Le W → Same (rdG G0) G → HR K W G H m → ds.length ≤ i → J.stop i H
section
variable {K : PySem.W.Frag} {W : Wd} {G H : Hp} {m : Mu} {v : V} {d : D}
/-- where a list is, in all later worlds -/
theorem RD.lstA {ds : List D} (h : RD K W G v (.lst ds)) : ∃ a vs, v = .ref a ∧ RVs K W vs ds ∧ ds.length ≤ sizeLine ∧ ∀ (W' : Wd) (G' H' : Hp) (m' : Mu), W.Le W' → Same (rdG G) G' → HR K W' G' H' m' → H' a = some (.lst vs) := by
  rcases h with h | ⟨a, rfl, vs, e, r, z⟩
  · cases h with
    | lst h r z => exact ⟨_, _, rfl, r, z, fun W' G' H' m' l g hr => hr.fz _ _ (l.ph _ _ h)⟩
  · exact ⟨a, vs, rfl, r, z, fun W' G' H' m' l g hr => hr.gd _ _ (g _ _ (by unfold rdG; rw [e]))⟩
theorem RD.tupA {ds : List D} (h : RD K W G v (.tup ds)) : ∃ a vs, v = .ref a ∧ RVs K W vs ds ∧ ds.length ≤ sizeLine ∧ ∀ (W' : Wd) (G' H' : Hp) (m' : Mu), W.Le W' → Same (rdG G) G' → HR K W' G' H' m' → SqT K H' a vs := by
  rcases h with h | ⟨a, rfl, h⟩
  · cases h with
    | tup h r z => exact ⟨_, _, rfl, r, z, fun W' G' H' m' l g hr => Same.seqT hr.fz (Same.seqT l.ph h.sq)⟩
  · exact h.elim
theorem itd_lst {b : Bool} {a : Addr} {vs : List V} {ds : List D} (r : RVs K W vs ds) (h : ∀ (W' : Wd) (G' H' : Hp) (m' : Mu), W.Le W' → Same (rdG G) G' → HR K W' G' H' m' → H' a = some (.lst vs)) : ItD K b (Itl K a) W G ds where
  go := fun i W' G' H' m' l g hr hi => by
    have hv : i < vs.length := by rw [r.length]; exact hi
    exact ⟨vs, vs[i], .inl (.inl (h _ _ _ _ l g hr)), List.getElem?_eq_getElem hv⟩
  yld := fun i W' G' H' m' x H2 l g hr hi y => by
    obtain ⟨rfl, y⟩ := y
    obtain ⟨d, e, q⟩ := r.getV (y vs (.inl (.inl (h _ _ _ _ l g hr))))
    exact ⟨W', d, Wd.Le.refl _, hr, e, .inl (q.mono l)⟩
  stop := fun i W' G' H' m' l g hr hi => ⟨vs, .inl (.inl (h _ _ _ _ l g hr)), by rw [r.length]; exact hi⟩
theorem itd_tup {b : Bool} {a : Addr} {vs : List V} {ds : List D} (r : RVs K W vs ds) (h : ∀ (W' : Wd) (G' H' : Hp) (m' : Mu), W.Le W' → Same (rdG G) G' → HR K W' G' H' m' → SqT K H' a vs) : ItD K b (Itt K a) W G ds where
  go := fun i W' G' H' m' l g hr hi => by
    have hv : i < vs.length := by rw [r.length]; exact hi
    exact ⟨vs, vs[i], h _ _ _ _ l g hr, List.getElem?_eq_getElem hv⟩
  yld := fun i W' G' H' m' x H2 l g hr hi y => by
    obtain ⟨rfl, y⟩ := y
    obtain ⟨d, e, q⟩ := r.getV (y vs (h _ _ _ _ l g hr))
    exact ⟨W', d, Wd.Le.refl _, hr, e, .inl (q.mono l)⟩
  stop := fun i W' G' H' m' l g hr hi => ⟨vs, h _ _ _ _ l g hr, by rw [r.length]; exact hi⟩
theorem itd_str {b : Bool} {s : Sg} (t : txtOk s) : ItD K b (Its (S s)) W G (s.map fun c => .str [c]) where
  go := fun i W' G' H' m' l g hr hi => by
    rw [List.length_map] at hi
    show i < (S s).cps.size
    simpa [S] using hi
  yld := fun i W' G' H' m' x H2 l g hr hi y => by
    obtain ⟨rfl, c, e, rfl⟩ := y
    have e : s[i]? = some c := by simpa [S] using e
    refine ⟨W', .str [c], Wd.Le.refl _, hr, by rw [List.getElem?_map, e]; rfl, .inl (.str [c] ⟨by show 1 ≤ sizeLine; decide, fun k hk => ?_⟩)⟩
    rw [List.mem_singleton.mp hk]
    exact t.2 c (List.mem_of_getElem? e)
  stop := fun i W' G' H' m' l g hr hi => by
    rw [List.length_map] at hi
    show (S s).cps.size ≤ i
    simpa [S] using hi
theorem rng_get (lo : Int) (n i : Nat) (h : i < n) : ((List.range n).map fun (k : Nat) => D.int (lo + k))[i]? = some (.int (lo + i)) := by
  rw [List.getElem?_map, List.getElem?_range h]; rfl
theorem itd_rng {b : Bool} (lo : Int) (n : Nat) : ItD K b (Itr lo n) W G ((List.range n).map fun (k : Nat) => D.int (lo + k)) where
  go := fun i W' G' H' m' l g hr hi => by
    rw [List.length_map, List.length_range] at hi
    exact hi
  yld := fun i W' G' H' m' x H2 l g hr hi y => by
    rw [List.length_map, List.length_range] at hi
    obtain ⟨rfl, rfl⟩ := y
    exact ⟨W', .int (lo + i), Wd.Le.refl _, hr, rng_get lo n i hi, .inl (.int _)⟩
  stop := fun i W' G' H' m' l g hr hi => by
    rw [List.length_map, List.length_range] at hi
    exact hi
theorem enumL_len : ∀ (k : Nat) (ds : List D), (enumL k ds).length = ds.length
  | _, [] => rfl
  | k, d :: r => by rw [enumL, List.length_cons, List.length_cons, enumL_len]
theorem enumL_get : ∀ (k : Nat) (ds : List D) (i : Nat) (d : D), ds[i]? = some d → (enumL k ds)[i]? = some (.tup [.int ((k + i : Nat) : Int), d])
  | _, [], _, _, h => by simp at h
  | k, d :: r, 0, e, h => by simp at h; subst h; rfl
  | k, d :: r, i + 1, e, h => by
    have := enumL_get (k + 1) r i e (by simpa using h)
    rw [show k + (i + 1) = k + 1 + i by omega]
    simpa [enumL] using this
theorem itd_enum {a : Addr} {vs : List V} {ds : List D} (r : RVs K W vs ds) (h : ∀ (W' : Wd) (G' H' : Hp) (m' : Mu), W.Le W' → Same (rdG G) G' → HR K W' G' H' m' → H' a = some (.lst vs)) : ItD K true (Ite K a) W G (enumL 0 ds) where
  go := fun i W' G' H' m' l g hr hi => by
    rw [enumL_len] at hi
    have hv : i < vs.length := by rw [r.length]; exact hi
    exact ⟨vs, vs[i], .inl (.inl (h _ _ _ _ l g hr)), List.getElem?_eq_getElem hv⟩
  yld := fun i W' G' H' m' x H2 l g hr hi y => by
    obtain ⟨t, z, rfl, ht, rfl, y⟩ := y
    obtain ⟨d, e, q⟩ := r.getV (y vs (.inl (.inl (h _ _ _ _ l g hr))))
    obtain ⟨l2, h2, q2, r2⟩ := new_pair (ds := [.int (i : Nat), d]) hr ht (.cons (.int _) (.cons (q.mono l) .nil))
    refine ⟨_, _, l2, h2, ?_, .inr ⟨rfl, _, _, _, rfl, rfl, q2, r2⟩⟩
    have := enumL_get 0 ds i d e
    rw [Nat.zero_add] at this
    exact this
  stop := fun i W' G' H' m' l g hr hi => by
    rw [enumL_len] at hi
    exact ⟨vs, .inl (.inl (h _ _ _ _ l g hr)), by rw [r.length]; exact hi⟩
theorem itd_enumT {a : Addr} {vs : List V} {ds : List D} (r : RVs K W vs ds) (h : ∀ (W' : Wd) (G' H' : Hp) (m' : Mu), W.Le W' → Same (rdG G) G' → HR K W' G' H' m' → SqT K H' a vs) : ItD K true (IteT K a) W G (enumL 0 ds) where
  go := fun i W' G' H' m' l g hr hi => by
    rw [enumL_len] at hi
    have hv : i < vs.length := by rw [r.length]; exact hi
    exact ⟨vs, vs[i], h _ _ _ _ l g hr, List.getElem?_eq_getElem hv⟩
  yld := fun i W' G' H' m' x H2 l g hr hi y => by
    obtain ⟨t, z, rfl, ht, rfl, y⟩ := y
    obtain ⟨d, e, q⟩ := r.getV (y vs (h _ _ _ _ l g hr))
    obtain ⟨l2, h2, q2, r2⟩ := new_pair (ds := [.int (i : Nat), d]) hr ht (.cons (.int _) (.cons (q.mono l) .nil))
    refine ⟨_, _, l2, h2, ?_, .inr ⟨rfl, _, _, _, rfl, rfl, q2, r2⟩⟩
    have := enumL_get 0 ds i d e
    rw [Nat.zero_add] at this
    exact this
  stop := fun i W' G' H' m' l g hr hi => by
    rw [enumL_len] at hi
    exact ⟨vs, h _ _ _ _ l g hr, by rw [r.length]; exact hi⟩
theorem zipL_len : ∀ (ds es : List D), (zipL ds es).length = min ds.length es.length
  | [], _ => by simp [zipL]
  | _ :: _, [] => by simp [zipL]
  | _ :: r, _ :: s => by simp only [zipL, List.length_cons, zipL_len r s]; omega
theorem zipL_get : ∀ (ds es : List D) (i : Nat) (d e : D), ds[i]? = some d → es[i]? = some e → (zipL ds es)[i]? = some (.tup [d, e])
  | [], _, _, _, _, h, _ => by simp at h
  | _ :: _, [], _, _, _, _, h => by simp at h
  | a :: r, b :: s, 0, d, e, h1, h2 => by simp at h1 h2; subst h1; subst h2; rfl
  | a :: r, b :: s, i + 1, d, e, h1, h2 => by
    have := zipL_get r s i d e (by simpa using h1) (by simpa using h2)
    simpa [zipL] using this
theorem itd_zip {a b : Addr} {vs us : List V} {ds es : List D} (r : RVs K W vs ds) (r2 : RVs K W us es) (h : ∀ (W' : Wd) (G' H' : Hp) (m' : Mu), W.Le W' → Same (rdG G) G' → HR K W' G' H' m' → H' a = some (.lst vs))
    (h2 : ∀ (W' : Wd) (G' H' : Hp) (m' : Mu), W.Le W' → Same (rdG G) G' → HR K W' G' H' m' → H' b = some (.lst us)) : ItD K true (Itz K a b) W G (zipL ds es) where
  go := fun i W' G' H' m' l g hr hi => by
    rw [zipL_len] at hi
    have hv : i < vs.length := by rw [r.length]; omega
    have hu : i < us.length := by rw [r2.length]; omega
    exact ⟨vs, us, vs[i], us[i], .inl (.inl (h _ _ _ _ l g hr)), .inl (.inl (h2 _ _ _ _ l g hr)), List.getElem?_eq_getElem hv, List.getElem?_eq_getElem hu⟩
  yld := fun i W' G' H' m' x H2 l g hr hi y => by
    obtain ⟨t, z, z2, rfl, ht, rfl, y, y2⟩ := y
    obtain ⟨d, e, q⟩ := r.getV (y vs (.inl (.inl (h _ _ _ _ l g hr))))
    obtain ⟨d', e', q'⟩ := r2.getV (y2 us (.inl (.inl (h2 _ _ _ _ l g hr))))
    obtain ⟨l2, h2, q2, r2⟩ := new_pair (ds := [d, d']) hr ht (.cons (q.mono l) (.cons (q'.mono l) .nil))
    exact ⟨_, _, l2, h2, zipL_get _ _ _ _ _ e e', .inr ⟨rfl, _, _, _, rfl, rfl, q2, r2⟩⟩
  stop := fun i W' G' H' m' l g hr hi => by
    rw [zipL_len] at hi
    refine ⟨vs, us, .inl (.inl (h _ _ _ _ l g hr)), .inl (.inl (h2 _ _ _ _ l g hr)), ?_⟩
    rw [r.length, r2.length]; omega
theorem itd_zipT {a b : Addr} {vs us : List V} {ds es : List D} (r : RVs K W vs ds) (r2 : RVs K W us es) (h : ∀ (W' : Wd) (G' H' : Hp) (m' : Mu), W.Le W' → Same (rdG G) G' → HR K W' G' H' m' → SqT K H' a vs)
    (h2 : ∀ (W' : Wd) (G' H' : Hp) (m' : Mu), W.Le W' → Same (rdG G) G' → HR K W' G' H' m' → SqT K H' b us) : ItD K true (RZ.ItzT K a b) W G (zipL ds es) where
  go := fun i W' G' H' m' l g hr hi => by
    rw [zipL_len] at hi
    have hv : i < vs.length := by rw [r.length]; omega
    have hu : i < us.length := by rw [r2.length]; omega
    exact ⟨vs, us, vs[i], us[i], h _ _ _ _ l g hr, h2 _ _ _ _ l g hr, List.getElem?_eq_getElem hv, List.getElem?_eq_getElem hu⟩
  yld := fun i W' G' H' m' x H2 l g hr hi y => by
    obtain ⟨t, z, z2, rfl, ht, rfl, y, y2⟩ := y
    obtain ⟨d, e, q⟩ := r.getV (y vs (h _ _ _ _ l g hr))
    obtain ⟨d', e', q'⟩ := r2.getV (y2 us (h2 _ _ _ _ l g hr))
    obtain ⟨l2, h2, q2, r2⟩ := new_pair (ds := [d, d']) hr ht (.cons (q.mono l) (.cons (q'.mono l) .nil))
    exact ⟨_, _, l2, h2, zipL_get _ _ _ _ _ e e', .inr ⟨rfl, _, _, _, rfl, rfl, q2, r2⟩⟩
  stop := fun i W' G' H' m' l g hr hi => by
    rw [zipL_len] at hi
    refine ⟨vs, us, h _ _ _ _ l g hr, h2 _ _ _ _ l g hr, ?_⟩
    rw [r.length, r2.length]; omega
end

section
variable {T : Tb} {Nn : Tn} {n : Nat} {N : List Str} {sc : Scope} {E : XK} {X : L2.Cx} {G : Hp} {W : Wd} {sg : L2.St} {H : Hp} {m : Mu} {r : Env}
def iVal (K : PySem.W.Frag) (te : TE) : TI := fun σ H R => te σ H fun x H1 => (∃ a, x = .ref a ∧ (∃ xs, SqL K H1 a xs) ∧ R (Itl K a) H1) ∨ (∃ a, x = .ref a ∧ (∃ xs, SqT K H1 a xs) ∧ R (Itt K a) H1) ∨ ∃ s, x = .str s ∧ R (Its s) H1
theorem pi_val {tg l : PySem.Expr} {tl : TE} (hl : PE X l tl) : PI X tg l (iVal X.K tl) := by
  refine ⟨fun pins s σ H R I h => ?_⟩
  refine thn (hl.run pins s σ H _ I h) fun v s1 ⟨x, H1, I1, r1, q1⟩ => ?_
  rcases q1 with ⟨a, rfl, ⟨xs, hq⟩, q⟩ | ⟨a, rfl, ⟨xs, hq⟩, q⟩ | ⟨y, rfl, q⟩
  · cases r1
    obtain ⟨its, rv, p, hz⟩ := I1.list hq
    exact wpAny_pyIter_list p.isList (pi_one (tk := s1.toks) I1 _ (turn_list a _) ⟨_, Heap.get?_push_size _ rfl, rfl, rfl⟩ q)
  · cases r1
    obtain ⟨its, rv, p, hz⟩ := I1.tuple hq
    exact wpAny_pyIter_tuple (show s1.heap.IsTuple a its.toArray from p) (pi_one (tk := s1.toks) I1 _ (turn_tuple a _) ⟨_, Heap.get?_push_size _ rfl, rfl, rfl⟩ q)
  · obtain ⟨t, rfl⟩ := r1
    cases ha : y.cps.all (· < 128)
    · exact wpAny_pyIter_wide ha (pi_one (tk := s1.toks) I1 _ (turn_str _ y t "str_iterator" (.inr rfl)) ⟨_, Heap.get?_push_size _ rfl, rfl, rfl⟩ q)
    · exact wpAny_pyIter_ascii ha (pi_one (tk := s1.toks) I1 _ (turn_str _ y t "str_ascii_iterator" (.inl rfl)) ⟨_, Heap.get?_push_size _ rfl, rfl, rfl⟩ q)
def SI (T : Tb) (Nn : Tn) (n : Nat) (N : List Str) (sc : Scope) (tg e : PySem.Expr) (c : CI) : Prop := ∀ (E : XK) (X : L2.Cx), XOk T Nn n N sc E X → ∃ wi, PI X tg e wi ∧
  ∀ {α : Type} (r : Env) (m : Mu) (G : Hp) (W : Wd) (sg : L2.St) (H : Hp) (R : It → Hp → Prop) (g : List D → Mu → Out α) (P : α → Mu → Wd → Hp → Prop), ER X.K W G sg r → HR X.K W G H m →
    PostR Nn X.mg X.K G W ((evI (cxE T n) c r m).bnd g) P E → (∀ ds m1 W1 H1 J, W.Le W1 → HR X.K W1 G H1 m1 → ItD X.K (tpE tg) J W1 G ds → ds.length ≤ sizeLine → PostR Nn X.mg X.K G W1 (g ds m1) P E → R J H1) → wi sg H R
theorem si_val {tg e : PySem.Expr} {c : CE} (h : SE T Nn n N sc e c) : SI T Nn n N sc tg e (.val c) := by
  intro E X x
  obtain ⟨t, pe, f⟩ := h E X x
  refine ⟨_, pi_val pe, fun {α} r m G W sg H R g P er hr p k => ?_⟩
  have p : PostR Nn X.mg X.K G W (((evE (cxE T n) c r m).bnd fun x m1 => (M.opt x.d.items) m1).bnd g) P E := p
  rw [bnd_bnd] at p
  refine use1 f er hr p fun x m1 W1 H1 v l1 h1 q1 p1 => ?_
  obtain ⟨ds, e, p1⟩ := p1.opt
  have q := q1.1
  cases hx : x.d with
  | str s =>
    rw [hx] at q e
    cases e
    obtain ⟨rfl, tx⟩ := q.str
    exact .inr (.inr ⟨_, rfl, k _ m1 W1 H1 _ l1 h1 (itd_str tx) (by rw [List.length_map]; exact tx.1) p1⟩)
  | tup ds =>
    rw [hx] at q e
    cases e
    obtain ⟨a, vs, rfl, ra, z, ha⟩ := q.tupA
    exact .inr (.inl ⟨a, rfl, ⟨vs, ha _ _ _ _ (Wd.Le.refl _) (rdG_sub _) h1⟩, k _ m1 W1 H1 _ l1 h1 (itd_tup ra ha) z p1⟩)
  | lst ds =>
    rw [hx] at q e
    cases e
    obtain ⟨a, vs, rfl, ra, z, ha⟩ := q.lstA
    exact .inl ⟨a, rfl, ⟨vs, .inl (.inl (ha _ _ _ _ (Wd.Le.refl _) (rdG_sub _) h1))⟩, k _ m1 W1 H1 _ l1 h1 (itd_lst ra ha) z p1⟩
  | _ => rw [hx] at e; cases e
theorem small_rng {n : Nat} (h : n < 2000000) : n ≤ sizeLine := by rw [sizeLine_eq]; omega
theorem si_rng {tg e : PySem.Expr} {c : CE} {p pos : Pos} (hg : sc.names.lookup ("range" : Str) = some .globalImplicit) (h : SE T Nn n N sc e c) (hs : notStar e = true) : SI T Nn n N sc tg (.Call (.Name "range" p) [e] [] pos) (.rng c) := by
  intro E X x
  obtain ⟨t, pe, f⟩ := h E X x
  refine ⟨_, pi_range1 (x.gl hg) (x.base.free _ (by decide)) (pa_cons pe pa_nil (star_of hs _ _)) (star_of hs _ _), fun {α} r m G W sg H R g P er hr p k => ?_⟩
  have p : PostR Nn X.mg X.K G W (((evE (cxE T n) c r m).bnd fun x m1 => ((M.opt x.d.int?) m1).bnd fun n m2 => ((M.guard (decide (-1000000 < n ∧ n < 1000000))) m2).bnd fun _ m3 => .ok ((List.range n.toNat).map fun (k : Nat) => D.int k) m3).bnd g) P E := p
  simp only [bnd_bnd] at p
  refine use1 f er hr p fun x m1 W1 H1 v l1 h1 q1 p1 => ?_
  obtain ⟨i, e, p1⟩ := p1.opt
  obtain ⟨hc, p1⟩ := p1.gd
  have hc := of_decide_eq_true hc
  have q := q1.1
  rw [D.int_eq e] at q
  refine ⟨i, by rw [q.int], by omega, by omega, ?_⟩
  have e1 : ((List.range i.toNat).map fun (k : Nat) => D.int k) = (List.range i.toNat).map fun (k : Nat) => D.int (0 + k) := by simp
  rw [bnd_ok, e1] at p1
  exact k _ m1 W1 H1 _ l1 h1 (itd_rng 0 i.toNat) (by rw [List.length_map, List.length_range]; exact small_rng (by omega)) p1
theorem si_rng2 {tg a b : PySem.Expr} {ca cb : CE} {p pos : Pos} (hg : sc.names.lookup ("range" : Str) = some .globalImplicit) (h : SE T Nn n N sc a ca) (h2 : SE T Nn n N sc b cb) (hs : notStar a = true) (hs2 : notStar b = true) : SI T Nn n N sc tg (.Call (.Name "range" p) [a, b] [] pos) (.rng2 ca cb) := by
  intro E X x
  obtain ⟨t, pe, f⟩ := h E X x
  obtain ⟨t2, pe2, f2⟩ := h2 E X x
  refine ⟨_, pi_range2 (x.gl hg) (x.base.free _ (by decide)) (pa_cons pe (pa_cons pe2 pa_nil (star_of hs2 _ _)) (star_of hs _ _)) (by rw [star_of hs, star_of hs2]; rfl) (star_of hs2 _ _), fun {α} r m G W sg H R g P er hr p k => ?_⟩
  have p : PostR Nn X.mg X.K G W (((evE (cxE T n) ca r m).bnd fun x m1 => (evE (cxE T n) cb r m1).bnd fun y m2 => ((M.opt x.d.int?) m2).bnd fun i m2 => ((M.opt y.d.int?) m2).bnd fun j m2 => ((M.guard (decide (-1000000 < i ∧ i < 1000000 ∧ -1000000 < j ∧ j < 1000000))) m2).bnd fun _ m3 => .ok ((List.range (j - i).toNat).map fun (k : Nat) => D.int (i + k)) m3).bnd g) P E := p
  simp only [bnd_bnd] at p
  refine use2 f f2 er hr p fun x y m1 W1 H1 v u l1 h1 q1 q2 p1 => ?_
  obtain ⟨i, e, p1⟩ := p1.opt
  obtain ⟨j, e2, p1⟩ := p1.opt
  obtain ⟨hc, p1⟩ := p1.gd
  have hc := of_decide_eq_true hc
  have q := q1.1
  have q' := q2.1
  rw [D.int_eq e] at q
  rw [D.int_eq e2] at q'
  refine ⟨i, j, by rw [q.int, q'.int], ⟨by omega, by omega, by omega, by omega⟩, ?_⟩
  exact k _ m1 W1 H1 _ l1 h1 (itd_rng i (j - i).toNat) (by rw [List.length_map, List.length_range]; exact small_rng (by omega)) p1
theorem si_enum {e : PySem.Expr} {c : CE} {p pos tpos : Pos} {elts : List PySem.Expr} {kk : Nat} (hg : sc.names.lookup ("enumerate" : Str) = some .globalImplicit) (h : SE T Nn n N sc e c) (hs : notStar e = true) : SI T Nn n N sc (.Tuple elts kk tpos) (.Call (.Name "enumerate" p) [e] [] pos) (.enum c) := by
  intro E X x
  obtain ⟨t, pe, f⟩ := h E X x
  refine ⟨_, pi_enumA (x.gl hg) (x.base.free _ (by decide)) (pa_cons pe pa_nil (star_of hs _ _)) (star_of hs _ _), fun {α} r m G W sg H R g P er hr p k => ?_⟩
  have p : PostR Nn X.mg X.K G W (((evE (cxE T n) c r m).bnd fun x m1 => (M.opt (enumD x.d)) m1).bnd g) P E := p
  simp only [bnd_bnd] at p
  refine use1 f er hr p fun x m1 W1 H1 v l1 h1 q1 p1 => ?_
  obtain ⟨ds, e, p1⟩ := p1.opt
  have q := q1.1
  cases hx : x.d with
  | lst xs =>
    rw [hx] at e q
    cases e
    obtain ⟨a, vs, rfl, ra, z, ha⟩ := q.lstA
    exact ⟨a, vs, rfl, .inl ⟨.inl (.inl (ha _ _ _ _ (Wd.Le.refl _) (rdG_sub _) h1)), k _ m1 W1 H1 _ l1 h1 (itd_enum ra ha) (by rw [enumL_len]; exact z) p1⟩⟩
  | tup xs =>
    rw [hx] at e q
    cases e
    obtain ⟨a, vs, rfl, ra, z, ha⟩ := q.tupA
    exact ⟨a, vs, rfl, .inr ⟨ha _ _ _ _ (Wd.Le.refl _) (rdG_sub _) h1, k _ m1 W1 H1 _ l1 h1 (itd_enumT ra ha) (by rw [enumL_len]; exact z) p1⟩⟩
  | _ => rw [hx] at e; cases e
theorem si_zip {a b : PySem.Expr} {ca cb : CE} {p pos tpos : Pos} {elts : List PySem.Expr} {kk : Nat} (hg : sc.names.lookup ("zip" : Str) = some .globalImplicit) (h : SE T Nn n N sc a ca) (h2 : SE T Nn n N sc b cb) (hs : notStar a = true) (hs2 : notStar b = true) : SI T Nn n N sc (.Tuple elts kk tpos) (.Call (.Name "zip" p) [a, b] [] pos) (.zip ca cb) := by
  intro E X x
  obtain ⟨t, pe, f⟩ := h E X x
  obtain ⟨t2, pe2, f2⟩ := h2 E X x
  have hpl : ∀ env, (backTo pos (starEach [b] env)).any (·.1) = false := fun env => by rw [star_of hs2]; rfl
  refine ⟨_, RZ.pi_zipA (x.gl hg) (x.base.free _ (by decide)) (pa_cons pe (pa_cons pe2 pa_nil (star_of hs2 _ _)) (star_of hs _ _)) (star_of hs _ _) (hpl _), fun {α} r m G W sg H R g P er hr p k => ?_⟩
  have p : PostR Nn X.mg X.K G W (((evE (cxE T n) ca r m).bnd fun x m1 => (evE (cxE T n) cb r m1).bnd fun y m2 => (M.opt (zipD x.d y.d)) m2).bnd g) P E := p
  simp only [bnd_bnd] at p
  refine use2 f f2 er hr p fun x y m1 W1 H1 v u l1 h1 q1 q2 p1 => ?_
  obtain ⟨ds, e, p1⟩ := p1.opt
  have q := q1.1
  have q' := q2.1
  cases hx : x.d with
  | lst xs =>
    cases hy : y.d with
    | lst ys =>
      rw [hx, hy] at e
      cases e
      rw [hx] at q
      rw [hy] at q'
      obtain ⟨a, vs, rfl, ra, z, ha⟩ := q.lstA
      obtain ⟨b, us, rfl, rb, z2, hb⟩ := q'.lstA
      exact ⟨a, b, vs, us, rfl, .inl ⟨.inl (.inl (ha _ _ _ _ (Wd.Le.refl _) (rdG_sub _) h1)), .inl (.inl (hb _ _ _ _ (Wd.Le.refl _) (rdG_sub _) h1)), k _ m1 W1 H1 _ l1 h1 (itd_zip ra rb ha hb) (by rw [zipL_len]; omega) p1⟩⟩
    | _ => rw [hx, hy] at e; cases e
  | tup xs =>
    cases hy : y.d with
    | tup ys =>
      rw [hx, hy] at e
      cases e
      rw [hx] at q
      rw [hy] at q'
      obtain ⟨a, vs, rfl, ra, z, ha⟩ := q.tupA
      obtain ⟨b, us, rfl, rb, z2, hb⟩ := q'.tupA
      exact ⟨a, b, vs, us, rfl, .inr ⟨ha _ _ _ _ (Wd.Le.refl _) (rdG_sub _) h1, hb _ _ _ _ (Wd.Le.refl _) (rdG_sub _) h1, k _ m1 W1 H1 _ l1 h1 (itd_zipT ra rb ha hb) (by rw [zipL_len]; omega) p1⟩⟩
    | _ => rw [hx, hy] at e; cases e
  | _ => rw [hx] at e; cases hy : y.d <;> rw [hy] at e <;> cases e
end
end Dn

/-! Dn11 -/
set_option Elab.async false
set_option linter.all false
set_option maxRecDepth 100000
set_option maxHeartbeats 1000000
/-! Dn11: targets; list comprehensions. -/
namespace Dn
open PySem PySem.Spec PyProof.Rows L2

/-! ### targets -/
def gNs : List Nat → TGs
  | [] => gNil
  | i :: is => gCons (gName i) (gNs is)
def gOf (K : PySem.W.Frag) : Tg → TG
  | .nm i => gName i
  | .tp is => gTup K is.length (gNs is)
def Tg.ixs : Tg → List Nat
  | .nm i => [i]
  | .tp is => is
/-- a name that may be stored -/
structure TgX (X : L2.Cx) (x : Str) : Prop where
  loc : Loc X.env.scope x
  fn : X.fn x = true ∨ X.env.scope.names.lookup x = some .local
/-- names of a target, with their places -/
def nmIx (N : List Str) : List PySem.Expr → List Nat → Bool
  | [], [] => true
  | .Name x _ :: es, i :: is => (N[i]? == some x) && nmIx N es is
  | _, _ => false
def nmsOf : List PySem.Expr → List Str
  | .Name x _ :: es => x :: nmsOf es
  | _ :: es => nmsOf es
  | [] => []
def tgIx (N : List Str) : PySem.Expr → Tg → Bool
  | .Name x _, .nm i => N[i]? == some x
  | .Tuple es _ _, .tp is => nmIx N es is
  | _, _ => false
def tgNms : PySem.Expr → List Str
  | .Name x _ => [x]
  | .Tuple es _ _ => nmsOf es
  | _ => []
theorem nmIx_each {N : List Str} : ∀ {es : List PySem.Expr} {is : List Nat} (env : PySem.Env), nmIx N es is = true → (assignEach es env).length = is.length ∧ (assignEach es env).findIdx? (·.1) = none
  | [], [], _, _ => ⟨rfl, rfl⟩
  | [], _ :: _, _, h => by cases h
  | e :: es, [], _, h => by cases e <;> cases h
  | e :: es, i :: is, env, h => by
    cases e with
    | Name x p =>
      have h : ((N[i]? == some x) && nmIx N es is) = true := h
      rw [Bool.and_eq_true] at h
      obtain ⟨h1, h2⟩ := nmIx_each env h.2
      refine ⟨by show (assignEach es env).length + 1 = is.length + 1; rw [h1], ?_⟩
      show (((false, assign (.Name x p) env) :: assignEach es env).findIdx? (·.1)) = none
      rw [List.findIdx?_cons, h2]
      rfl
    | _ => cases h
theorem pgs_nms {X : L2.Cx} : ∀ {es : List PySem.Expr} {is : List Nat}, nmIx X.N es is = true → X.N.Nodup → (∀ x ∈ nmsOf es, TgX X x) → PGs X es (gNs is)
  | [], [], _, _, _ => pgs_nil
  | [], _ :: _, h, _, _ => by cases h
  | e :: es, [], h, _, _ => by cases e <;> cases h
  | e :: es, i :: is, h, nd, hx => by
    cases e with
    | Name x p =>
      have h : ((X.N[i]? == some x) && nmIx X.N es is) = true := h
      rw [Bool.and_eq_true] at h
      have tx := hx x (by simp [nmsOf])
      exact pgs_cons (pg_name nd (eq_of_beq h.1) tx.loc tx.fn) (pgs_nms h.2 nd fun y hy => hx y (by simp [nmsOf, hy])) rfl
    | _ => cases h
theorem pg_of {X : L2.Cx} {tg : PySem.Expr} {c : Tg} (h : tgIx X.N tg c = true) (hc : X.calm = true) (nd : X.N.Nodup) (hx : ∀ x ∈ tgNms tg, TgX X x) : PG X tg (gOf X.K c) := by
  cases tg with
  | Name x p =>
    cases c with
    | nm i =>
      have tx := hx x (by simp [tgNms])
      exact pg_name nd (eq_of_beq h) tx.loc tx.fn
    | tp is => cases h
  | Tuple es k p =>
    cases c with
    | nm i => cases h
    | tp is =>
      have h : nmIx X.N es is = true := h
      obtain ⟨h1, h2⟩ := nmIx_each X.env h
      exact pg_tup hc (pgs_nms h nd hx) h1 h2
  | _ => cases c <;> cases h
/-- slots set, at some places -/
inductive Sets (is : List Nat) : L2.St → L2.St → Prop
  | nil {σ} : Sets is σ σ
  | set {σ i v σ'} : i ∈ is → Sets is (σ.set i (some v)) σ' → Sets is σ σ'
theorem gNs_ok {K : PySem.W.Frag} {W : Wd} {G H : Hp} (js : List Nat) : ∀ {is : List Nat} {ds : List D} {vs : List V} {σ : L2.St} {ρ ρ' : Env} {Q : L2.St → Hp → Prop}, ER K W G σ ρ → RVs K W vs ds → setAll is ds ρ = some ρ' → (∀ i ∈ is, i ∈ js) →
    (∀ σ', ER K W G σ' ρ' → Sets js σ σ' → Q σ' H) → gNs is vs σ H Q
  | [], [], _, _, _, _, _, er, .nil, e, _, k => by
    cases e
    exact ⟨rfl, k _ er .nil⟩
  | [], _ :: _, _, _, _, _, _, _, _, e, _, _ => by cases e
  | _ :: _, [], _, _, _, _, _, _, _, e, _, _ => by cases e
  | i :: is, d :: ds, _, σ, ρ, ρ', Q, er, .cons (v := v) (vs := vs) q t, e, hi, k => by
    refine ⟨v, vs, rfl, ?_⟩
    show gNs is vs (σ.set i (some v)) H Q
    have er2 : ER K W G (σ.set i (some v)) (ρ.set i (.val d)) := er.set ⟨v, rfl, q⟩
    exact gNs_ok js er2 t e (fun j hj => hi j (List.mem_cons_of_mem _ hj)) fun σ' h s => k σ' h (.set (hi i List.mem_cons_self) s)
theorem RI.pair {K : PySem.W.Frag} {b : Bool} {W : Wd} {G H : Hp} {m : Mu} {v : V} {ds : List D} (q : RI K b W v (.tup ds)) (hr : HR K W G H m) : ∃ a vs, v = .ref a ∧ SqT K H a vs ∧ RVs K W vs ds := by
  rcases q with q | ⟨_, a, vs, ds', rfl, e, h, r⟩
  · obtain ⟨a, vs, e, ha, ra, _⟩ := RD.tup hr (.inl q)
    exact ⟨a, vs, e, ha, ra⟩
  · cases e
    exact ⟨a, vs, rfl, Same.seqT hr.fz h, r⟩
theorem tp_of {N : List Str} {tg : PySem.Expr} {c : Tg} (h : tgIx N tg c = true) (e : tpE tg = true) : ∃ is, c = .tp is := by
  cases tg with
  | Tuple es k p =>
    cases c with
    | nm i => cases h
    | tp is => exact ⟨is, rfl⟩
  | _ => cases e
theorem gOf_ok {K : PySem.W.Frag} {W : Wd} {G H : Hp} {m : Mu} {c : Tg} {d : D} {v : V} {σ : L2.St} {ρ ρ' : Env} {Q : L2.St → Hp → Prop} {b : Bool} (hb : b = true → ∃ is, c = .tp is) (er : ER K W G σ ρ) (hr : HR K W G H m) (q : RI K b W v d) (e : bindT c d ρ = some ρ')
    (k : ∀ σ', ER K W G σ' ρ' → Sets c.ixs σ σ' → Q σ' H) : gOf K c v σ H Q := by
  cases c with
  | nm i =>
    cases e
    rcases q with q | ⟨z, _⟩
    · exact k _ (er.set ⟨v, rfl, q⟩) (.set (by simp [Tg.ixs]) .nil)
    · obtain ⟨is, e⟩ := hb z; cases e
  | tp is =>
    cases d with
    | tup ds =>
      have e : setAll is ds ρ = some ρ' := e
      obtain ⟨a, vs, rfl, ha, ra⟩ := q.pair hr
      refine ⟨a, vs, rfl, ha, ?_, gNs_ok is er ra e (fun _ h => h) k⟩
      rw [ra.length]
      have : ∀ {is : List Nat} {ds : List D} {ρ ρ' : Env}, setAll is ds ρ = some ρ' → ds.length = is.length := by
        intro is
        induction is with
        | nil => intro ds ρ ρ' e; cases ds with | nil => rfl | cons _ _ => cases e
        | cons i is ih => intro ds ρ ρ' e; cases ds with | nil => cases e | cons d ds => exact congrArg (· + 1) (ih (ds := ds) e)
      exact this e
    | _ => cases e

/-! ### slots forgotten -/
theorem wipe_get : ∀ (vs : List Nat) (σ : L2.St) (j : Nat), (wipe σ vs)[j]? = if j ∈ vs ∧ j < σ.length then some none else σ[j]?
  | [], σ, j => by simp [wipe]
  | v :: vs, σ, j => by
    unfold wipe
    by_cases hj : v = j
    · subst hj
      by_cases hl : v < σ.length
      · rw [List.getElem?_set_self (by rw [wipe_length]; exact hl), if_pos ⟨by simp, hl⟩]
      · rw [List.getElem?_eq_none (by simp [wipe_length]; omega), if_neg (by simp [hl]), List.getElem?_eq_none (by omega)]
    · rw [List.getElem?_set_ne hj, wipe_get vs σ j]
      have : (j ∈ v :: vs) ↔ j ∈ vs := by simp [Ne.symm hj]
      simp [Ne.symm hj]
theorem wipe_set {σ : L2.St} {i : Nat} {v : Option V} {vs : List Nat} (h : i ∈ vs) : wipe (σ.set i v) vs = wipe σ vs := by
  refine List.ext_getElem? fun j => ?_
  rw [wipe_get, wipe_get, List.length_set]
  by_cases hj : j ∈ vs ∧ j < σ.length
  · rw [if_pos hj, if_pos hj]
  · rw [if_neg hj, if_neg hj]
    by_cases hi : i = j
    · subst hi
      have : ¬ i < σ.length := fun z => hj ⟨h, z⟩
      rw [List.getElem?_eq_none (by simp; omega), List.getElem?_eq_none (by omega)]
    · rw [List.getElem?_set_ne hi]
theorem wipe_wipe {σ : L2.St} {vs : List Nat} : wipe (wipe σ vs) vs = wipe σ vs := by
  refine List.ext_getElem? fun j => ?_
  rw [wipe_get, wipe_length, wipe_get]
  by_cases hj : j ∈ vs ∧ j < σ.length
  · rw [if_pos hj, if_pos hj]
  · rw [if_neg hj, if_neg hj]
theorem Sets.wipe {is vs : List Nat} (h : ∀ i ∈ is, i ∈ vs) : ∀ {σ σ' : L2.St}, Sets is σ σ' → L2.wipe σ' vs = L2.wipe σ vs
  | _, _, .nil => rfl
  | _, _, .set hi s => (Sets.wipe h s).trans (wipe_set (h _ hi))

/-! ### the block -/
section
variable {T : Tb} {Nn : Tn} {n : Nat} {N : List Str} {sc : Scope} {E : XK} {X : L2.Cx} {G : Hp} {W : Wd} {sg : L2.St} {H : Hp} {m : Mu} {r : Env}
abbrev Blk := Shared × Hp × Addr × List (Str × Addr) × List Addr
abbrev blkX (X : L2.Cx) (scope : Scope) (b : Blk) : L2.Cx := X.blk b.1 b.2.1 scope (compEnvC scope b.2.2.2.1 b.2.2.1 X.env) b.2.2.2.2
theorem XOk.blk (x : XOk T Nn n N sc E X) (scope : Scope) (b : Blk) : XOk T Nn n N (relS scope sc) E0 (blkX X scope b) where
  base := x.base
  pN := x.pN
  nd := x.nd
  psc := by
    show relS scope X.env.scope = relS scope sc
    rw [x.psc]
  calm := x.calm
  room := x.room
  gds := x.gds
  pass := passL
/-- a comprehension's tests -/
def SC (T : Tb) (Nn : Tn) (n : Nat) (N : List Str) (sc : Scope) (es : List PySem.Expr) (c : CEo) : Prop := ∀ (E : XK) (X : L2.Cx), XOk T Nn n N sc E X → ∃ t, PTs X es t ∧
  ∀ {α : Type} (r : Env) (m : Mu) (G : Hp) (W : Wd) (sg : L2.St) (H : Hp) (Q : Bool → Hp → Prop) (g : Bool → Mu → Out α) (P : α → Mu → Wd → Hp → Prop), ER X.K W G sg r → HR X.K W G H m →
    PostR Nn X.mg X.K G W ((evC (cxE T n) c r m).bnd g) P E → (∀ b m1 W1 H1, W.Le W1 → HR X.K W1 G H1 m1 → PostR Nn X.mg X.K G W1 (g b m1) P E → Q b H1) → t sg H Q
theorem sc_nil : SC T Nn n N sc [] .none := by
  intro E X x
  refine ⟨_, pts_nil, fun {α} r m G W sg H Q g P er hr p k => ?_⟩
  have p : PostR Nn X.mg X.K G W (g true m) P E := p
  exact k true m W H (Wd.Le.refl _) hr p
theorem sc_one {e : PySem.Expr} {c : CE} (h : ST T Nn n N sc e c) : SC T Nn n N sc [e] (.some c) := by
  intro E X x
  obtain ⟨t, pt, f⟩ := h E X x
  refine ⟨_, pts_one pt, fun {α} r m G W sg H Q g P er hr p k => ?_⟩
  have p : PostR Nn X.mg X.K G W (((evE (cxE T n) c r m).bnd fun x m1 => (M.opt x.d.truth : M Bool) m1).bnd g) P E := p
  rw [bnd_bnd] at p
  exact useT (g := fun _ k m => g k m) f er hr p fun x b m1 W1 H1 l1 h1 _ p1 => k b m1 W1 H1 l1 h1 p1
theorem noex_post {α β : Type} {mg : Str → Option Value} {K : PySem.W.Frag} {B : M α} {g : α → Mu → Out β} {P : β → Mu → Wd → Hp → Prop} (h : PostR Nn mg K G W ((M.noex B m).bnd g) P E) :
    PostR Nn mg K G W (B m) (fun a m1 W1 _ => PostR Nn mg K G W1 (g a m1) P E) E0 := by
  unfold M.noex at h
  cases e : B m with
  | ok a m1 =>
    rw [e] at h
    exact fun W1 H1 l _ => PostR.mono (o := g a m1) h l
  | ex x m1 => rw [e] at h; exact h.elim
  | st => rw [e] at h; exact h.elim
theorem relS_own {scope : Scope} {x : Str} {k : NameKind} (hk : k ≠ .free) (h : scope.names.lookup x = some k) : (relS scope sc).names.lookup x = some k := lookup_relS_keep hk h
/-- the body of one turn -/
def compB (C : Dn.Cx) (own : List Nat) (tg : Tg) (cond : CEo) (elt : CE) (ρ : Env) (d : D) : M (Option D) := do
  let ρ' ← M.opt (bindT tg d (wipeE ρ own))
  let c ← evC C cond ρ'
  if c then do
    let r ← evE C elt ρ'
    let y ← keepM r
    pure (some y)
  else pure none
theorem mapR_cons (f : D → M (Option D)) (d : D) (r : List D) (m : Mu) : mapR f (d :: r) m = (f d m).bnd fun y m1 => (mapR f r m1).bnd fun ys m2 => .ok (match y with | some y => y :: ys | none => ys) m2 := rfl
theorem comp_core {elt tg iter : PySem.Expr} {ifs : List PySem.Expr} {scope : Scope} {own : List (Str × Nat)} {tgc : Tg} {it : CI} {cond : CEo} {ec : CE}
    (hi : SI T Nn n N sc tg iter it) (ok : BlkOk N sc scope own) (hx : tgIx N tg tgc = true) (hxs : ∀ x ∈ tgNms tg, scope.names.lookup x = some .local ∨ scope.names.lookup x = some .cell)
    (hsub : ∀ i ∈ tgc.ixs, i ∈ own.map (·.2)) (hc : SC T Nn n N (relS scope sc) ifs cond) (he : SE T Nn n N (relS scope sc) elt ec) (E : XK) (X : L2.Cx) (x : XOk T Nn n N sc E X) :
    ∃ wi tt te, PI X tg iter wi ∧ BlkOk X.N X.env.scope scope own ∧ (∀ (s : Shared) (H : Hp) (C : Addr) (cl : List (Str × Addr)) (fp : List Addr), PG (X.blk s H scope (compEnvC scope cl C X.env) fp) tg (gOf X.K tgc)) ∧
      (∀ (s : Shared) (H : Hp) (C : Addr) (cl : List (Str × Addr)) (fp : List Addr), PTs (X.blk s H scope (compEnvC scope cl C X.env) fp) ifs tt) ∧ (∀ (s : Shared) (H : Hp) (C : Addr) (cl : List (Str × Addr)) (fp : List Addr), PE (X.blk s H scope (compEnvC scope cl C X.env) fp) elt te) ∧
      Snd T Nn n X E (.comp (own.map (·.2)) tgc it cond ec) (tLc wi (gOf X.K tgc) tt te (own.map (·.2))) := by
  obtain ⟨wi, pi, fi⟩ := hi E X x
  have ok' : BlkOk X.N X.env.scope scope own := by rw [x.pN, x.psc]; exact ok
  have hcb := fun b : Blk => hc E0 (blkX X scope b) (x.blk scope b)
  have heb := fun b : Blk => he E0 (blkX X scope b) (x.blk scope b)
  obtain ⟨tf, htf⟩ := Classical.axiomOfChoice hcb
  obtain ⟨ef, hef⟩ := Classical.axiomOfChoice heb
  have hg : ∀ (s : Shared) (H : Hp) (C : Addr) (cl : List (Str × Addr)) (fp : List Addr), PG (X.blk s H scope (compEnvC scope cl C X.env) fp) tg (gOf X.K tgc) := fun s H C cl fp => by
    refine pg_of (X := X.blk s H scope (compEnvC scope cl C X.env) fp) (by show tgIx X.N tg tgc = true; rw [x.pN]; exact hx) x.calm (by show X.N.Nodup; rw [x.pN]; exact x.nd) fun y hy => ?_
    have e : (X.blk s H scope (compEnvC scope cl C X.env) fp).env.scope = relS scope X.env.scope := rfl
    rcases hxs y hy with k | k
    · have k2 := relS_own (sc := X.env.scope) (by decide) k
      exact ⟨.inl (by rw [e]; exact k2), .inr (by rw [e]; exact k2)⟩
    · have k2 := relS_own (sc := X.env.scope) (by decide) k
      exact ⟨.inr (by rw [e]; exact k2), .inl (by show (scope.names.lookup y == some NameKind.cell) = true; rw [k]; rfl)⟩
  refine ⟨wi, fun σ H Q => ∀ b, tf b σ H Q, fun σ H Q => ∀ b, ef b σ H Q, pi, ok', hg, fun s H C cl fp => ⟨fun pins s' σ H' Q I h => (htf (s, H, C, cl, fp)).1.run pins s' σ H' Q I (h _)⟩, fun s H C cl fp => ⟨fun pins s' σ H' Q I h => (hef (s, H, C, cl, fp)).1.run pins s' σ H' Q I (h _)⟩, fun r m G W sg H Q er hr p => ?_⟩
  have p : PostR Nn X.mg X.K G W ((evI (cxE T n) it r m).bnd fun ds m1 => (mapR (fun d => M.noex (compB (cxE T n) (own.map (·.2)) tgc cond ec r d)) ds m1).bnd fun ys m2 => .ok (⟨.f, .lst ys⟩ : R) m2) _ E := Post.toR p
  refine fi r m G W sg H _ _ _ er hr p fun ds m1 W1 H1 J l1 h1 jd hz p1 => ?_
  intro L hL
  obtain ⟨f1, f2, f3⟩ := h1.fresh hL
  let f : D → M (Option D) := fun d => M.noex (compB (cxE T n) (own.map (·.2)) tgc cond ec r d)
  let Inv : Nat → Nat → Hp → Prop := fun i k H' => k + i = ds.length ∧ ∃ W' m' acc accD, W1.Le W' ∧ HR X.K W' (upd G L (.lst acc)) H' m' ∧ RVs X.K W' acc accD ∧ accD.length ≤ i ∧
    PostR Nn X.mg X.K G W' ((mapR f (ds.drop i) m').bnd fun ys m2 => .ok (⟨.f, .lst (accD ++ ys)⟩ : R) m2) (fun r _ W' H' => ∀ v, RR X.K W' G H' v r → Q v H') E
  refine ⟨Inv, ⟨ds.length, by omega, W1, m1, [], [], Wd.Le.refl _, (h1.new hL).guard upd_same f1 f3, .nil, Nat.le_refl _, ?_⟩, ?_⟩
  · rw [List.drop_zero]; exact p1
  · rintro i k H2 ⟨hk, W2, m2, acc, accD, l2, h2, ra, hlen, p2⟩
    have sG : Same G (upd G L (.lst acc)) := same_upd' f2
    by_cases hi : i < ds.length
    · refine .inr ⟨jd.go i W2 _ H2 m2 l2 ((rdG_sub _).trans sG) h2 hi, fun H' => ∃ m', m' < k ∧ Inv (i + 1) m' H', fun H' h => h, fun v H3 y => ?_⟩
      obtain ⟨W3, d, l3, h3, ed, rv⟩ := jd.yld i W2 _ H2 m2 v H3 l2 ((rdG_sub _).trans sG) h2 hi y
      have hd : ds.drop i = d :: ds.drop (i + 1) := by
        obtain ⟨hlt, e⟩ := List.getElem?_eq_some_iff.mp ed
        rw [List.drop_eq_getElem_cons hlt, e]
      rw [hd, mapR_cons, bnd_bnd] at p2
      have p2 := p2.mono l3
      have hd2 : G = G := rfl
      -- into the block
      have er3 : ER X.K W3 (upd G L (.lst acc)) (wipe sg (own.map (·.2))) (wipeE r (own.map (·.2))) := (er.mono (l1.trans (l2.trans l3)) sG).forget _
      have key : PostR Nn X.mg X.K (upd G L (.lst acc)) W3 (compB (cxE T n) (own.map (·.2)) tgc cond ec r d m2)
          (fun y m4 W4 _ => PostR Nn X.mg X.K G W4 (((mapR f (ds.drop (i + 1)) m4).bnd fun ys m5 => Out.ok (match y with | some y => y :: ys | none => ys) m5).bnd fun ys m5 => .ok (⟨.f, .lst (accD ++ ys)⟩ : R) m5) (fun r _ W' H' => ∀ v, RR X.K W' G H' v r → Q v H') E) E0 := by
        have z := noex_post p2
        cases e : compB (cxE T n) (own.map (·.2)) tgc cond ec r d m2 with
        | ok y m4 =>
          rw [e] at z
          exact fun W4 H4 l4 h4 => z W4 H4 l4 (h4.unguard sG)
        | ex x m4 => rw [e] at z; intro W4 H4 c' d' l4 h4 xr; exact z W4 H4 c' d' l4 (h4.unguard sG) xr
        | st => rw [e] at z; exact z
      have key : PostR Nn X.mg X.K (upd G L (.lst acc)) W3 (((M.opt (bindT tgc d (wipeE r (own.map (·.2))))) m2).bnd fun ρ' m3 => (evC (cxE T n) cond ρ' m3).bnd fun c m4 => (if c then (do let r ← evE (cxE T n) ec ρ'; let y ← keepM r; pure (some y)) else pure none : M (Option D)) m4) _ E0 := key
      obtain ⟨ρ', e1, key⟩ := key.opt
      refine gOf_ok (tp_of hx) er3 h3 rv e1 fun σ' er4 st => ⟨?_, fun b => ?_⟩
      · rw [Sets.wipe hsub st]
        exact wipe_wipe
      · refine (htf b).2 ρ' m2 _ W3 σ' H3 _ _ _ er4 h3 key fun c m4 W4 H4 l4 h4 p4 => ?_
        cases c with
        | false =>
          rw [if_neg (by decide)]
          have p4 : PostR Nn X.mg X.K (upd G L (.lst acc)) W4 (.ok none m4) _ E0 := p4
          have p5 := p4.ok h4
          refine ⟨k - 1, by omega, by omega, W4, m4, acc, accD, l2.trans (l3.trans l4), h4, (ra.mono (l3.trans l4)), by omega, ?_⟩
          rw [bnd_bnd] at p5
          exact p5
        | true =>
          rw [if_pos rfl]
          have p4 : PostR Nn X.mg X.K (upd G L (.lst acc)) W4 ((evE (cxE T n) ec ρ' m4).bnd fun r m5 => ((M.opt r.keep) m5).bnd fun y m6 => .ok (some y) m6) _ E0 := p4
          intro b2
          refine use1 (X := blkX X scope b2) (hef b2).2 (er4.mono l4 (Same.refl _)) h4 p4 fun rr m5 W5 H5 v5 l5 h5 q5 p5 => ?_
          obtain ⟨y, ey, p5⟩ := p5.opt
          have p6 := p5.ok h5
          have q6 := (q5.2 y ey).2
          refine ⟨acc, h5.gd _ _ upd_same, ?_, ?_⟩
          · rw [ra.length]
            exact Nat.lt_of_le_of_lt hlen (Nat.lt_of_lt_of_le hi hz)
          · have h6 := h5.put (o := .lst (acc ++ [v5])) (a := L) upd_same
            rw [upd_upd] at h6
            refine ⟨k - 1, by omega, by omega, W5, m5, acc ++ [v5], accD ++ [y], l2.trans (l3.trans (l4.trans l5)), h6, (ra.mono (l3.trans (l4.trans l5))).append (.cons q6 .nil), by rw [List.length_append]; show accD.length + 1 ≤ i + 1; omega, ?_⟩
            rw [bnd_bnd] at p6
            have e : (fun (ys : List D) (m2 : Mu) => Out.ok (⟨.f, .lst (accD ++ [y] ++ ys)⟩ : R) m2) = fun (a : List D) (m : Mu) => (Out.ok (match some y with | some y => y :: a | none => a) m).bnd fun ys m5 => .ok (⟨.f, .lst (accD ++ ys)⟩ : R) m5 := by
              funext ys m2
              show Out.ok _ m2 = Out.ok _ m2
              rw [List.append_assoc]; rfl
            rw [e]
            exact p6
    · refine .inl ⟨jd.stop i W2 _ H2 m2 l2 ((rdG_sub _).trans sG) h2 (by omega), ?_⟩
      rw [List.drop_eq_nil_of_le (by omega)] at p2
      have p2 : PostR Nn X.mg X.K G W2 (.ok (⟨.f, .lst (accD ++ [])⟩ : R) m2) _ E := p2
      rw [List.append_nil] at p2
      have hu := h2.unguard sG
      refine p2.ok hu _ ⟨L, rfl, ⟨acc, h2.gd _ _ upd_same, ra, by omega⟩, h2.dis _ _ upd_same, f2, fun hm => ?_⟩
      have := h2.stG L hm
      rw [upd_same] at this
      cases this
theorem se_comp {elt tg iter : PySem.Expr} {ifs : List PySem.Expr} {scope : Scope} {pos : Pos} {own : List (Str × Nat)} {tgc : Tg} {it : CI} {cond : CEo} {ec : CE}
    (hi : SI T Nn n N sc tg iter it) (ok : BlkOk N sc scope own) (hx : tgIx N tg tgc = true) (hxs : ∀ x ∈ tgNms tg, scope.names.lookup x = some .local ∨ scope.names.lookup x = some .cell)
    (hsub : ∀ i ∈ tgc.ixs, i ∈ own.map (·.2)) (hc : SC T Nn n N (relS scope sc) ifs cond) (he : SE T Nn n N (relS scope sc) elt ec) (hs : ∀ env x, foldedSetIterable iter env x = pure x) :
    SE T Nn n N sc (.ListComp elt [⟨tg, iter, ifs, 0⟩] scope pos) (.comp (own.map (·.2)) tgc it cond ec) := by
  intro E X x
  obtain ⟨wi, tt, te, pi, ok', hg, ht, hte, f⟩ := comp_core hi ok hx hxs hsub hc he E X x
  exact ⟨_, pe_lc x.calm (by rw [x.pN]; exact x.nd) pi ok' hg ht hte (hs _), f⟩
end
end Dn

/-! Dn12 -/
set_option Elab.async false
set_option linter.all false
set_option maxRecDepth 100000
set_option maxHeartbeats 1000000
/-! Dn12: statements. -/
namespace Dn
open PySem PySem.Spec PyProof.Rows L2

/-- a slot, for a statement: own containers stand in G, not in G0 -/
def SlotS (K : PySem.W.Frag) (W : Wd) (G0 G : Hp) (v : Option (Option V)) : Sl → Prop
  | .un => True
  | .grp _ => False
  | .val d => ∃ x, v = some (some x) ∧ RV K W x d
  | .own d => ∃ a, v = some (some (.ref a)) ∧ ContAt K W G a d ∧ G0 a = none
  | .bor d => ∃ x, v = some (some x) ∧ RD K W G0 x d
structure SR (K : PySem.W.Frag) (W : Wd) (G0 G : Hp) (sg : L2.St) (r : Env) : Prop where
  len : sg.length = r.length
  at_ : ∀ (i : Nat) (s : Sl), r[i]? = some s → SlotS K W G0 G sg[i]? s
  inj : ∀ (i j : Nat) (d e : D) (a : Addr), r[i]? = some (.own d) → r[j]? = some (.own e) → sg[i]? = some (some (.ref a)) → sg[j]? = some (some (.ref a)) → i = j
  sub : Same G0 G
section
variable {K : PySem.W.Frag} {W W' : Wd} {G0 G G' H H' : Hp} {m : Mu} {sg : L2.St} {r : Env} {v : V} {d : D}
theorem SlotS.mono {x : Option (Option V)} {s : Sl} (l : W.Le W') (h : SlotS K W G0 G x s) : SlotS K W' G0 G x s := by
  cases s with
  | un => exact h
  | grp _ => exact h
  | val d => obtain ⟨x, e, q⟩ := h; exact ⟨x, e, q.mono l⟩
  | own d => obtain ⟨a, e, q, f⟩ := h; exact ⟨a, e, q.mono l (Same.refl _), f⟩
  | bor d => obtain ⟨x, e, q⟩ := h; exact ⟨x, e, q.mono l (Same.refl _)⟩
theorem SR.mono (l : W.Le W') (h : SR K W G0 G sg r) : SR K W' G0 G sg r := ⟨h.len, fun i s e => (h.at_ i s e).mono l, h.inj, h.sub⟩
theorem SlotS.slot {x : Option (Option V)} {s : Sl} (sub : Same G0 G) (h : SlotS K W G0 G x s) : SlotR K W G x s := by
  cases s with
  | un => exact True.intro
  | grp _ => exact True.intro
  | val d => exact h
  | own d => obtain ⟨a, e, q, f⟩ := h; exact ⟨_, e, .inr ⟨a, rfl, q⟩⟩
  | bor d => obtain ⟨x, e, q⟩ := h; exact ⟨x, e, q.mono (Wd.Le.refl _) sub⟩
theorem SR.er (h : SR K W G0 G sg r) : ER K W G sg r := ⟨h.len, fun i s e => (h.at_ i s e).slot h.sub⟩
/-- slots chosen anew -/
theorem SR.sel {sg' : L2.St} {r' : Env} (h : SR K W G0 G sg r) (φ : Nat → Nat) (hl : sg'.length = r'.length) (hi : ∀ i j, i < r'.length → j < r'.length → φ i = φ j → i = j)
    (he : ∀ i, i < r'.length → r'[i]? = r[φ i]? ∧ sg'[i]? = sg[φ i]?) : SR K W G0 G sg' r' := by
  have lt : ∀ {i : Nat} {s : Sl}, r'[i]? = some s → i < r'.length := fun e => (List.getElem?_eq_some_iff.mp e).1
  refine ⟨hl, fun i s e => ?_, fun i j d e a h1 h2 h3 h4 => ?_, h.sub⟩
  · obtain ⟨q1, q2⟩ := he i (lt e)
    rw [q2]
    exact h.at_ _ s (q1 ▸ e)
  · obtain ⟨q1, q2⟩ := he i (lt h1)
    obtain ⟨q3, q4⟩ := he j (lt h2)
    exact hi i j (lt h1) (lt h2) (h.inj _ _ d e a (q1 ▸ h1) (q3 ▸ h2) (q2 ▸ h3) (q4 ▸ h4))
theorem move_get {α : Type} (l ys : List α) (x : α) (i n k : Nat) (hl : l.length = n) : (l.set i x ++ ys)[k]? = (l ++ x :: ys)[if k = i ∧ i < n then n else if k < n then k else k + 1]? := by
  subst hl
  by_cases h1 : k = i ∧ i < l.length
  · rw [if_pos h1]
    obtain ⟨rfl, h1⟩ := h1
    rw [List.getElem?_append_left (by rw [List.length_set]; exact h1), List.getElem?_set_self h1, List.getElem?_append_right (Nat.le_refl _), Nat.sub_self]
    rfl
  · rw [if_neg h1]
    by_cases h2 : k < l.length
    · rw [if_pos h2, List.getElem?_append_left (by rw [List.length_set]; exact h2), List.getElem?_append_left h2, List.getElem?_set_ne]
      intro e
      exact h1 ⟨e.symm, e ▸ h2⟩
    · rw [if_neg h2, List.getElem?_append_right (by rw [List.length_set]; omega), List.getElem?_append_right (by omega), List.length_set, show k + 1 - l.length = (k - l.length) + 1 by omega]
      rfl
theorem move_inj (i n a b : Nat) (e : (if a = i ∧ i < n then n else if a < n then a else a + 1) = (if b = i ∧ i < n then n else if b < n then b else b + 1)) : a = b := by
  by_cases h1 : a = i ∧ i < n
  · by_cases h2 : b = i ∧ i < n
    · omega
    · rw [if_pos h1, if_neg h2] at e
      by_cases h3 : b < n
      · rw [if_pos h3] at e; omega
      · rw [if_neg h3] at e; omega
  · rw [if_neg h1] at e
    by_cases h2 : b = i ∧ i < n
    · rw [if_pos h2] at e
      by_cases h3 : a < n
      · rw [if_pos h3] at e; omega
      · rw [if_neg h3] at e; omega
    · rw [if_neg h2] at e
      by_cases h3 : a < n
      · by_cases h4 : b < n
        · rw [if_pos h3, if_pos h4] at e; omega
        · rw [if_pos h3, if_neg h4] at e; omega
      · by_cases h4 : b < n
        · rw [if_neg h3, if_pos h4] at e; omega
        · rw [if_neg h3, if_neg h4] at e; omega
/-- the first pending slot goes to its place -/
theorem SR.move {pv : List (Option V)} {ps : List Sl} {x : Option V} {s : Sl} {i : Nat} (hl : sg.length = r.length) (h : SR K W G0 G (sg ++ x :: pv) (r ++ s :: ps)) : SR K W G0 G (sg.set i x ++ pv) (r.set i s ++ ps) := by
  have hpl : pv.length = ps.length := by have := h.len; simp at this; omega
  exact h.sel (fun k => if k = i ∧ i < r.length then r.length else if k < r.length then k else k + 1) (by simp; omega) (fun a b _ _ e => move_inj _ _ _ _ e) fun k _ => ⟨move_get r ps s i r.length k rfl, move_get sg pv x i r.length k hl⟩
theorem SR.push {x : Option V} {s : Sl} (h : SR K W G0 G sg r) (q : SlotS K W G0 G (some x) s) (hn : ∀ d, s ≠ .own d) : SR K W G0 G (sg ++ [x]) (r ++ [s]) := by
  have lt : ∀ {i : Nat} {d : D}, (r ++ [s])[i]? = some (.own d) → i < r.length ∧ r[i]? = some (.own d) := fun {i d} e => by
    by_cases hi : i < r.length
    · exact ⟨hi, by rw [List.getElem?_append_left hi] at e; exact e⟩
    · rw [List.getElem?_append_right (by omega)] at e
      cases hk : i - r.length with
      | zero => rw [hk] at e; exact absurd (Option.some.inj e) (hn d)
      | succ k => rw [hk] at e; simp at e
  refine ⟨by simp [h.len], fun i t e => ?_, fun i j d e a h1 h2 h3 h4 => ?_, h.sub⟩
  · by_cases hi : i < r.length
    · rw [List.getElem?_append_left hi] at e
      rw [List.getElem?_append_left (by rw [h.len]; exact hi)]
      exact h.at_ i t e
    · rw [List.getElem?_append_right (by omega)] at e
      rw [List.getElem?_append_right (by rw [h.len]; omega), h.len]
      cases hk : i - r.length with
      | zero => rw [hk] at e; cases e; exact q
      | succ k => rw [hk] at e; simp at e
  · obtain ⟨i1, i2⟩ := lt h1
    obtain ⟨j1, j2⟩ := lt h2
    rw [List.getElem?_append_left (by rw [h.len]; exact i1)] at h3
    rw [List.getElem?_append_left (by rw [h.len]; exact j1)] at h4
    exact h.inj i j d e a i2 j2 h3 h4
/-- a new container, kept -/
theorem SR.pushOwn {a : Addr} {o : HO} (h : SR K W G0 G sg r) (hr : HR K W G H m) (e : H a = some o) (c : ContAt K W H a d) (e1 : W.Ph a = none) (e2 : G a = none) (e3 : a ∉ W.io) :
    HR K W (upd G a o) H m ∧ SR K W G0 (upd G a o) (sg ++ [some (.ref a)]) (r ++ [.own d]) := by
  have es : strip o = o := by
    cases d with
    | lst ds => obtain ⟨vs, q, _⟩ := c; rw [e] at q; cases q; rfl
    | dic t ds => cases t with
      | false => obtain ⟨vs, q, _⟩ := c; rw [e] at q; cases q; rfl
      | true => obtain ⟨vs, q, _⟩ := c; rw [e] at q; cases q; rfl
    | _ => exact c.elim
  have g0 : G0 a = none := h.sub.free e2
  have ca : ContAt K W (upd G a o) a d := by
    cases d with
    | lst ds => obtain ⟨vs, q, z⟩ := c; rw [e] at q; cases q; exact ⟨vs, upd_same, z⟩
    | dic t ds => cases t with
      | false => obtain ⟨vs, q, z⟩ := c; rw [e] at q; cases q; exact ⟨vs, upd_same, z⟩
      | true => obtain ⟨vs, q, z⟩ := c; rw [e] at q; cases q; exact ⟨vs, upd_same, z⟩
    | _ => exact c.elim
  have sG : Same G (upd G a o) := same_upd' e2
  have ne : ∀ {i : Nat} {d' : D}, r[i]? = some (.own d') → sg[i]? ≠ some (some (.ref a)) := fun {i d'} q z => by
    obtain ⟨b, q1, q2, _⟩ := h.at_ i _ q
    rw [z] at q1
    cases q1
    obtain ⟨u, q3⟩ := q2.some
    rw [e2] at q3; cases q3
  refine ⟨hr.guard e e1 e3 es, ⟨by simp [h.len], fun i t q => ?_, fun i j d1 d2 b h1 h2 h3 h4 => ?_, h.sub.trans sG⟩⟩
  · by_cases hi : i < r.length
    · rw [List.getElem?_append_left hi] at q
      rw [List.getElem?_append_left (by rw [h.len]; exact hi)]
      have z := h.at_ i t q
      cases t with
      | own d' => obtain ⟨b, q1, q2, q3⟩ := z; exact ⟨b, q1, q2.mono (Wd.Le.refl _) sG, q3⟩
      | un => exact z
      | grp _ => exact z
      | val _ => exact z
      | bor _ => exact z
    · rw [List.getElem?_append_right (by omega)] at q
      rw [List.getElem?_append_right (by rw [h.len]; omega), h.len]
      cases hk : i - r.length with
      | zero => rw [hk] at q; cases q; exact ⟨a, rfl, ca, g0⟩
      | succ k => rw [hk] at q; simp at q
  · have cs : ∀ {i : Nat} {d' : D}, (r ++ [Sl.own d])[i]? = some (.own d') → (sg ++ [some (V.ref a)])[i]? = some (some (.ref b)) → (i < r.length ∧ r[i]? = some (.own d') ∧ sg[i]? = some (some (.ref b))) ∨ (i = r.length ∧ b = a) := fun {i d'} q1 q2 => by
      by_cases hi : i < r.length
      · rw [List.getElem?_append_left hi] at q1
        rw [List.getElem?_append_left (by rw [h.len]; exact hi)] at q2
        exact .inl ⟨hi, q1, q2⟩
      · rw [List.getElem?_append_right (by omega)] at q1
        rw [List.getElem?_append_right (by rw [h.len]; omega), h.len] at q2
        cases hk : i - r.length with
        | zero => rw [hk] at q2; cases q2; exact .inr ⟨by omega, rfl⟩
        | succ k => rw [hk] at q1; simp at q1
    rcases cs h1 h3 with ⟨i1, i2, i3⟩ | ⟨i1, i2⟩ <;> rcases cs h2 h4 with ⟨j1, j2, j3⟩ | ⟨j1, j2⟩
    · exact h.inj i j d1 d2 b i2 j2 i3 j3
    · subst j2; exact absurd i3 (ne i2)
    · subst i2; exact absurd j3 (ne j2)
    · omega
/-- a result is held for a slot -/
theorem SR.hold {rr : R} {own : Bool} {s : Sl} (h : SR K W G0 G sg r) (hr : HR K W G H m) (q : RR K W G H v rr) (e : slotOf own rr = some s) :
    ∃ W' G', W.Le W' ∧ HR K W' G' H m ∧ SR K W' G0 G' (sg ++ [some v]) (r ++ [s]) ∧ Same G G' := by
  cases own with
  | false =>
    have e : rr.keep.map Sl.val = some s := e
    obtain ⟨W', l, hr', rd, kp⟩ := RR.read hr q
    cases hk : rr.keep with
    | none => rw [hk] at e; cases e
    | some d =>
      rw [hk] at e
      cases e
      exact ⟨W', G, l, hr', (h.mono l).push ⟨v, rfl, (kp d hk).2⟩ (fun d z => by cases z), Same.refl _⟩
  | true =>
    obtain ⟨t, d⟩ := rr
    cases t with
    | v => cases e
    | p => cases e
    | f =>
      cases e
      obtain ⟨a, rfl, c, e1, e2, e3⟩ := q
      obtain ⟨o, eo⟩ := c.some
      obtain ⟨h1, h2⟩ := h.pushOwn hr eo c e1 e2 e3
      exact ⟨W, _, Wd.Le.refl _, h1, h2, same_upd' e2⟩
theorem SR.setVal {i : Nat} (h : SR K W G0 G sg r) (q : RV K W v d) : SR K W G0 G (sg.set i (some v)) (r.set i (.val d)) := by
  have := SR.move (i := i) (pv := []) (ps := []) h.len (h.push (x := some v) (s := .val d) ⟨v, rfl, q⟩ (fun d z => by cases z))
  simpa using this
/-- an own container is written -/
theorem SR.put {i : Nat} {a : Addr} {o : HO} {d' : D} (h : SR K W G0 G sg r) (hr : HR K W G H m) (e : r[i]? = some (.own d)) (ea : sg[i]? = some (some (.ref a))) (c : ContAt K W (upd H a o) a d') (es : strip o = o) :
    HR K W (upd G a o) (upd H a o) m ∧ SR K W G0 (upd G a o) sg (r.set i (.own d')) := by
  obtain ⟨b, q1, q2, q3⟩ := h.at_ i _ e
  rw [ea] at q1
  cases q1
  obtain ⟨u, q4⟩ := q2.some
  have hi : i < r.length := (List.getElem?_eq_some_iff.mp e).1
  have ca : ContAt K W (upd G a o) a d' := by
    cases d' with
    | lst ds => obtain ⟨vs, q, z⟩ := c; rw [upd_same] at q; cases q; exact ⟨vs, upd_same, z⟩
    | dic t ds => cases t with
      | false => obtain ⟨vs, q, z⟩ := c; rw [upd_same] at q; cases q; exact ⟨vs, upd_same, z⟩
      | true => obtain ⟨vs, q, z⟩ := c; rw [upd_same] at q; cases q; exact ⟨vs, upd_same, z⟩
    | _ => exact c.elim
  refine ⟨hr.put q4 es, ⟨by simp [h.len], fun j s q => ?_, fun j k d1 d2 b h1 h2 h3 h4 => ?_, fun b u q => ?_⟩⟩
  · by_cases hj : i = j
    · subst hj
      rw [List.getElem?_set_self hi] at q
      cases q
      exact ⟨a, ea, ca, q3⟩
    · rw [List.getElem?_set_ne hj] at q
      have z := h.at_ j s q
      cases s with
      | own d1 =>
        obtain ⟨b, z1, z2, z3⟩ := z
        have hb : b ≠ a := fun x => by
          subst x
          exact hj (h.inj i j _ _ _ e q ea z1)
        refine ⟨b, z1, ?_, z3⟩
        cases d1 with
        | lst ds => obtain ⟨vs, y1, y2⟩ := z2; exact ⟨vs, by rw [upd_ne hb]; exact y1, y2⟩
        | dic t ds => cases t with
          | false => obtain ⟨vs, y1, y2⟩ := z2; exact ⟨vs, by rw [upd_ne hb]; exact y1, y2⟩
          | true => obtain ⟨vs, y1, y2⟩ := z2; exact ⟨vs, by rw [upd_ne hb]; exact y1, y2⟩
        | _ => exact z2.elim
      | un => exact z
      | grp _ => exact z
      | val _ => exact z
      | bor _ => exact z
  · have back : ∀ {j : Nat} {d1 : D}, (r.set i (.own d'))[j]? = some (.own d1) → ∃ d2, r[j]? = some (.own d2) := fun {j d1} q => by
      by_cases hj : i = j
      · subst hj; exact ⟨_, e⟩
      · rw [List.getElem?_set_ne hj] at q; exact ⟨_, q⟩
    obtain ⟨_, y1⟩ := back h1
    obtain ⟨_, y2⟩ := back h2
    exact h.inj j k _ _ b y1 y2 h3 h4
  · have hb : b ≠ a := fun x => by subst x; rw [q3] at q; cases q
    rw [upd_ne hb]
    exact h.sub _ _ q
end
section
variable (Nn : Tn) (mg : Str → Option Value) (K : PySem.W.Frag)
def PostS (G0 : Hp) (W : Wd) (o : OutS) (D : Ends) (E : XK) : Prop :=
  match o with
  | .ok (.nx r) m' => ∀ W' G' sg' H', W.Le W' → HR K W' G' H' m' → SR K W' G0 G' sg' r → D.nx sg' H'
  | .ok (.br r) m' => ∀ W' G' sg' H', W.Le W' → HR K W' G' H' m' → SR K W' G0 G' sg' r → D.bk sg' H'
  | .ok (.ct r) m' => ∀ W' G' sg' H', W.Le W' → HR K W' G' H' m' → SR K W' G0 G' sg' r → D.ct sg' H'
  | .ok (.rt r) m' => ∀ W' H' v, W.Le W' → HR K W' G0 H' m' → RR K W' G0 H' v r → D.rt v H'
  | .ex x _ m' => ∀ W' H' c d, W.Le W' → HR K W' G0 H' m' → XR Nn mg K W' H' x c d → E c d H'
  | .st => False
end
theorem PostS.mono {Nn : Tn} {mg : Str → Option Value} {K : PySem.W.Frag} {G0 : Hp} {W W' : Wd} {o : OutS} {D : Ends} {E : XK} (l : W.Le W') (h : PostS Nn mg K G0 W o D E) : PostS Nn mg K G0 W' o D E := by
  cases o with
  | ok f m => cases f with
    | nx r => exact fun W2 G2 s2 H2 l2 => h W2 G2 s2 H2 (l.trans l2)
    | br r => exact fun W2 G2 s2 H2 l2 => h W2 G2 s2 H2 (l.trans l2)
    | ct r => exact fun W2 G2 s2 H2 l2 => h W2 G2 s2 H2 (l.trans l2)
    | rt r => exact fun W2 H2 v l2 => h W2 H2 v (l.trans l2)
  | ex x r m => exact fun W2 H2 c d l2 => h W2 H2 c d (l.trans l2)
  | st => exact h
end Dn

/-! Dn13 -/
set_option Elab.async false
set_option linter.all false
set_option maxRecDepth 100000
set_option maxHeartbeats 1000000
/-! Dn13: statements, the rules. -/
namespace Dn
open PySem PySem.Spec PyProof.Rows L2

structure XSt (T : Tb) (Nn : Tn) (n : Nat) (N : List Str) (sc : Scope) (E : XK) (X : L2.Cx) : Prop where
  x : XOk T Nn n N sc E X
  fnA : ∀ y, X.fn y = true
  po : PassesOwn (model X.prog X.w) X.A X.env X.xe
  kd : sc.kind = .function
section
variable {T : Tb} {Nn : Tn} {n : Nat} {N : List Str} {sc : Scope} {E : XK} {X : L2.Cx} {G G0 : Hp} {W : Wd} {sg : L2.St} {H : Hp} {m : Mu} {r : Env} {D : Ends}
abbrev SndS (T : Tb) (Nn : Tn) (n : Nat) (X : L2.Cx) (E : XK) (c : CS) (t : TS) : Prop := ∀ (r : Env) (m : Mu) (G0 G : Hp) (W : Wd) (sg : L2.St) (H : Hp) (D : Ends), SR X.K W G0 G sg r → HR X.K W G H m → PostS Nn X.mg X.K G0 W (exS (cxE T n) c r m) D E → t D sg H
abbrev SndSs (T : Tb) (Nn : Tn) (n : Nat) (X : L2.Cx) (E : XK) (c : CSs) (t : TS) : Prop := ∀ (r : Env) (m : Mu) (G0 G : Hp) (W : Wd) (sg : L2.St) (H : Hp) (D : Ends), SR X.K W G0 G sg r → HR X.K W G H m → PostS Nn X.mg X.K G0 W (exSs (cxE T n) c r m) D E → t D sg H
def SS (T : Tb) (Nn : Tn) (n : Nat) (N : List Str) (sc : Scope) (st : Stmt) (c : CS) : Prop := ∀ (E : XK) (X : L2.Cx), XSt T Nn n N sc E X → ∃ t, PS X st t ∧ SndS T Nn n X E c t
def SSs (T : Tb) (Nn : Tn) (n : Nat) (N : List Str) (sc : Scope) (st : List Stmt) (c : CSs) : Prop := ∀ (E : XK) (X : L2.Cx), XSt T Nn n N sc E X → ∃ t, PSs X st t ∧ SndSs T Nn n X E c t

theorem onE_R {α : Type} {x : M α} {f : α → Mu → OutS} (s : Same G0 G) (h : PostS Nn X.mg X.K G0 W (onE x r f m) D E) : PostR Nn X.mg X.K G W (x m) (fun a m' W' _ => PostS Nn X.mg X.K G0 W' (f a m') D E) E := by
  unfold onE at h
  cases e : x m with
  | ok a m' => rw [e] at h; exact fun W' H' l _ => h.mono l
  | ex x m' => rw [e] at h; exact fun W' H' c d l hr => h W' H' c d l (hr.unguard s)
  | st => rw [e] at h; exact h
/-- the result as it is -/
theorem useRaw {a : CE} {ta : TE} (fa : Snd T Nn n X E a ta) (er : ER X.K W G sg r) (hr : HR X.K W G H m) {P : R → Mu → Wd → Hp → Prop} {Q : VK} (h : PostR Nn X.mg X.K G W (evE (cxE T n) a r m) P E)
    (k : ∀ x m1 W1 H1 v, W.Le W1 → HR X.K W1 G H1 m1 → RR X.K W1 G H1 v x → P x m1 W1 H1 → Q v H1) : ta sg H Q := by
  refine fa r m G W sg H Q er hr ?_
  cases e : evE (cxE T n) a r m with
  | ok x m1 => rw [e] at h; exact fun W1 H1 v l h1 q => k x m1 W1 H1 v l h1 q (h W1 H1 l h1)
  | ex x m1 => rw [e] at h; exact h
  | st => rw [e] at h; exact h
theorem useArg {a : CE} {ta : TE} (fa : Snd T Nn n X E a ta) (er : ER X.K W G sg r) (hr : HR X.K W G H m) {P : R → Mu → Wd → Hp → Prop} {Q : VK} (h : PostR Nn X.mg X.K G W (evE (cxE T n) a r m) P E)
    (k : ∀ x m1 W1 H1 v, W.Le W1 → HR X.K W1 G H1 m1 → ArgR X.K W1 G v x → P x m1 W1 H1 → Q v H1) : ta sg H Q := by
  refine fa r m G W sg H Q er hr (PostD.post ?_)
  cases e : evE (cxE T n) a r m with
  | ok x m1 => rw [e] at h; exact fun W1 H1 v l h1 q => k x m1 W1 H1 v l h1 q (h W1 H1 l h1)
  | ex x m1 => rw [e] at h; exact h
  | st => rw [e] at h; exact h
theorem XSt.nd (x : XSt T Nn n N sc E X) : X.N.Nodup := by rw [x.x.pN]; exact x.x.nd
theorem XSt.ix (x : XSt T Nn n N sc E X) {i : Nat} {y : Str} (h : N[i]? = some y) : X.N[i]? = some y := by rw [x.x.pN]; exact h
theorem XSt.loc (x : XSt T Nn n N sc E X) {y : Str} (h : Loc sc y) : Loc X.env.scope y := by rw [x.x.psc]; exact h
theorem XSt.tg (x : XSt T Nn n N sc E X) {y : Str} (h : Loc sc y) : TgX X y := ⟨x.loc h, .inl (x.fnA y)⟩

/-! ### simple ones -/
theorem ss_pass {pos : Pos} : SS T Nn n N sc (.Pass pos) .pass := fun E X x => ⟨_, ps_pass, fun r m G0 G W sg H D sr hr p => p W G sg H (Wd.Le.refl _) hr sr⟩
theorem ss_doc {y : Str} {j : Nat} {pos pos' : Pos} : SS T Nn n N sc (.Expr (.Constant (.str y) j pos) pos') .doc := fun E X x => ⟨_, ps_doc, fun r m G0 G W sg H D sr hr p => p W G sg H (Wd.Le.refl _) hr sr⟩
theorem ss_brk {pos : Pos} : SS T Nn n N sc (.Break pos) .brk := fun E X x => ⟨_, ps_break, fun r m G0 G W sg H D sr hr p => p W G sg H (Wd.Le.refl _) hr sr⟩
theorem ss_cont {pos : Pos} : SS T Nn n N sc (.Continue pos) .cont := fun E X x => ⟨_, ps_continue, fun r m G0 G W sg H D sr hr p => p W G sg H (Wd.Le.refl _) hr sr⟩
theorem ss_never {st : Stmt} : SS T Nn n N sc st .never := fun E X x => ⟨_, ps_never, fun r m G0 G W sg H D sr hr p => p.elim⟩
theorem sss_nil : SSs T Nn n N sc [] .nil := fun E X x => ⟨_, pss_nil, fun r m G0 G W sg H D sr hr p => p W G sg H (Wd.Le.refl _) hr sr⟩
theorem ss_retN {pos : Pos} : SS T Nn n N sc (.Return none pos) .retN := fun E X x => ⟨_, ps_retN, fun r m G0 G W sg H D sr hr p => p W H .non (Wd.Le.refl _) (hr.unguard sr.sub) .non⟩
theorem RR.keepable {K : PySem.W.Frag} {W : Wd} {G H : Hp} {v : V} {x : R} {d : Dn.D} (s : Same G0 G) (q : RR K W G H v x) (e : x.keep = some d) : RR K W G0 H v x := by
  obtain ⟨t, d'⟩ := x
  cases t with
  | v => exact q
  | f => obtain ⟨a, h1, h2, h3, h4, h5⟩ := q; exact ⟨a, h1, h2, h3, s.free h4, h5⟩
  | p =>
    rcases q with q | ⟨a, h1, h2⟩
    · exact .inl q
    · exfalso
      cases d' with
      | lst _ => cases e
      | dic _ _ => cases e
      | _ => exact h2.elim
theorem ss_ret {e : PySem.Expr} {pos : Pos} {c : CE} (h : SE T Nn n N sc e c) : SS T Nn n N sc (.Return (some e) pos) (.ret c) := by
  intro E X x
  obtain ⟨t, pe, f⟩ := h E X x.x
  refine ⟨_, ps_ret pe, fun r m G0 G W sg H D sr hr p => ?_⟩
  have p : PostS Nn X.mg X.K G0 W (onE (evE (cxE T n) c r) r (fun x m => (match x.keep with | some _ => .ok (.rt x) m | none => .st)) m) D E := p
  refine useRaw f sr.er hr (onE_R sr.sub p) fun x m1 W1 H1 v l1 h1 q1 p1 => ?_
  cases ek : x.keep with
  | none => rw [ek] at p1; exact p1.elim
  | some d => rw [ek] at p1; exact p1 W1 H1 v (Wd.Le.refl _) (h1.unguard sr.sub) (RR.keepable sr.sub q1 ek)
theorem ss_retF {z : Str} {p1 pos : Pos} {i : Nat} (h1 : N[i]? = some z) (h2 : Vis sc z) (h3 : (z == ("__debug__" : Str)) = false) (h4 : (z == ("__classdict__" : Str)) = false) : SS T Nn n N sc (.Return (some (.Name z p1)) pos) (.retF i) := by
  intro E X x
  refine ⟨_, ps_ret (pe_var (x.ix h1) (x.x.vis h2) h3 h4), fun r m G0 G W sg H D sr hr p => ?_⟩
  have p : PostS Nn X.mg X.K G0 W (match r[i]? with | some (.own d) => .ok (.rt ⟨.f, d⟩) m | _ => .st) D E := p
  cases e : r[i]? with
  | none => rw [e] at p; exact p.elim
  | some s =>
    rw [e] at p
    have q := sr.at_ i s e
    cases s with
    | own d =>
      obtain ⟨a, e1, c, g⟩ := q
      refine ⟨.ref a, e1, p W H (.ref a) (Wd.Le.refl _) (hr.unguard sr.sub) ?_⟩
      obtain ⟨o, ho⟩ := c.some
      refine ⟨a, rfl, ?_, hr.dis _ _ ho, g, fun hm => ?_⟩
      · cases d with
        | lst ds => obtain ⟨vs, q, z⟩ := c; exact ⟨vs, hr.gd _ _ q, z⟩
        | dic t ds => cases t with
          | false => obtain ⟨vs, q, z⟩ := c; exact ⟨vs, hr.gd _ _ q, z⟩
          | true => obtain ⟨vs, q, z⟩ := c; exact ⟨vs, hr.gd _ _ q, z⟩
        | _ => exact c.elim
      · have := hr.stG a hm
        rw [ho] at this; cases this
    | _ => exact p.elim
def notComp : PySem.Expr → Bool
  | .ListComp .. => false
  | .SetComp .. => false
  | .DictComp .. => false
  | _ => true
theorem sw_no {e : PySem.Expr} (h : notComp e = true) (t : Option PySem.Expr) (l : Nat) (env : PySem.Env) : swapsWith e t l env = pure false := by
  cases e <;> first | rfl | cases h
theorem ss_expr {e : PySem.Expr} {pos : Pos} {c : CE} (h : SE T Nn n N sc e c) (hs : notComp e = true) : SS T Nn n N sc (.Expr e pos) (.expr c) := by
  intro E X x
  obtain ⟨t, pe, f⟩ := h E X x.x
  refine ⟨_, ps_expr pe (sw_no hs _ _ _), fun r m G0 G W sg H D sr hr p => ?_⟩
  have p : PostS Nn X.mg X.K G0 W (onE (evE (cxE T n) c r) r (fun _ m => .ok (.nx r) m) m) D E := p
  exact useRaw f sr.er hr (onE_R sr.sub p) fun x m1 W1 H1 v l1 h1 q1 p1 => p1 W1 G sg H1 (Wd.Le.refl _) h1 (sr.mono l1)
theorem set_done {x : R} {v : V} {own : Bool} {i : Nat} (sr : SR X.K W G0 G sg r) (hr : HR X.K W G H m) (q : RR X.K W G H v x) (p : PostS Nn X.mg X.K G0 W (nxt ((slotOf own x).map fun s => r.set i s) m) D E) : D.nx (sg.set i (some v)) H := by
  cases e : slotOf own x with
  | none => rw [e] at p; exact p.elim
  | some s =>
    rw [e] at p
    obtain ⟨W', G', l, h1, s1, _⟩ := sr.hold hr q e
    have := SR.move (i := i) (pv := []) (ps := []) sr.len s1
    rw [List.append_nil, List.append_nil] at this
    exact p W' G' _ H l h1 this
theorem ss_set {y : Str} {p1 pos : Pos} {e : PySem.Expr} {i : Nat} {own : Bool} {c : CE} (hi : N[i]? = some y) (hl : Loc sc y) (h : SE T Nn n N sc e c) (hs : ∀ env, env.scope = sc → swapsWith e (some (.Name y p1)) pos.line env = pure false) :
    SS T Nn n N sc (.Assign [.Name y p1] e pos) (.set i own c) := by
  intro E X x
  obtain ⟨t, pe, f⟩ := h E X x.x
  refine ⟨_, ps_set x.nd (x.ix hi) (x.loc hl) pe (hs _ x.x.psc) (.inl (x.fnA y)), fun r m G0 G W sg H D sr hr p => ?_⟩
  have p : PostS Nn X.mg X.K G0 W (onE (evE (cxE T n) c r) r (fun x m => nxt ((slotOf own x).map fun s => r.set i s) m) m) D E := p
  exact useRaw f sr.er hr (onE_R sr.sub p) fun x m1 W1 H1 v l1 h1 q1 p1 => set_done (sr.mono l1) h1 q1 p1

/-! ### if, lists of statements -/
theorem sss_cons {st : Stmt} {sts : List Stmt} {c : CS} {cs : CSs} (h1 : SS T Nn n N sc st c) (h2 : SSs T Nn n N sc sts cs) : SSs T Nn n N sc (st :: sts) (.cons c cs) := by
  intro E X x
  obtain ⟨t, ps, f⟩ := h1 E X x
  obtain ⟨u, qs, g⟩ := h2 E X x
  refine ⟨_, pss_cons ps qs, fun r m G0 G W sg H D sr hr p => ?_⟩
  have p : PostS Nn X.mg X.K G0 W (match exS (cxE T n) c r m with | .ok (.nx r2) m2 => exSs (cxE T n) cs r2 m2 | o => o) D E := p
  refine f r m G0 G W sg H _ sr hr ?_
  cases e : exS (cxE T n) c r m with
  | ok fl m2 =>
    rw [e] at p
    cases fl with
    | nx r2 => exact fun W' G' sg' H' l h1 s1 => g r2 m2 G0 G' W' sg' H' D s1 h1 (p.mono l)
    | br r2 => exact p
    | ct r2 => exact p
    | rt x => exact p
  | ex x r2 m2 => rw [e] at p; exact p
  | st => rw [e] at p; exact p
/-- a ghost step: a container of one's own is frozen -/
theorem sss_frz {sts : List Stmt} {cs : CSs} {i : Nat} (h2 : SSs T Nn n N sc sts cs) : SSs T Nn n N sc sts (.cons (.frz i) cs) := by
  intro E X x
  obtain ⟨u, qs, g⟩ := h2 E X x
  refine ⟨u, qs, fun r m G0 G W sg H D sr hr p => ?_⟩
  have p : PostS Nn X.mg X.K G0 W (match nxt (((r[i]?).bind frzS).map fun s => r.set i s) m with | .ok (.nx r2) m2 => exSs (cxE T n) cs r2 m2 | o => o) D E := p
  cases e : r[i]? with
  | none => rw [e] at p; exact p.elim
  | some s =>
    rw [e] at p
    have hi : i < r.length := (List.getElem?_eq_some_iff.mp e).1
    have q := sr.at_ i s e
    cases s with
    | own d =>
      have p : PostS Nn X.mg X.K G0 W (exSs (cxE T n) cs (r.set i (.val d)) m) D E := p
      obtain ⟨a, e1, c, g0⟩ := q
      obtain ⟨o, ho⟩ := c.some
      -- the guard without it
      let G' : Hp := fun b => if b = a then none else G b
      have sG : Same G' G := fun b u z => by
        by_cases hb : b = a
        · simp only [G', if_pos hb] at z; cases z
        · simp only [G', if_neg hb] at z; exact z
      have hH : H a = some (strip o) := hr.gd _ _ ho
      have es : strip o = o := by
        cases d with
        | lst ds => obtain ⟨vs, q, _⟩ := c; rw [ho] at q; cases q; rfl
        | dic t ds => cases t with
          | false => obtain ⟨vs, q, _⟩ := c; rw [ho] at q; cases q; rfl
          | true => obtain ⟨vs, q, _⟩ := c; rw [ho] at q; cases q; rfl
        | _ => exact c.elim
      rw [es] at hH
      have h1 := hr.unguard sG
      have hio : a ∉ W.io := fun hm => by
        have := hr.stG a hm
        rw [ho] at this; cases this
      have cH : ContAt X.K W H a d := by
        cases d with
        | lst ds => obtain ⟨vs, q, z⟩ := c; exact ⟨vs, hr.gd _ _ q, z⟩
        | dic t ds => cases t with
          | false => obtain ⟨vs, q, z⟩ := c; exact ⟨vs, hr.gd _ _ q, z⟩
          | true => obtain ⟨vs, q, z⟩ := c; exact ⟨vs, hr.gd _ _ q, z⟩
        | _ => exact c.elim
      have hP := hr.dis _ _ ho
      have h2 := h1.frz hH hP (by simp [G']) hio
      have rv := RV.of_cont cH hH hP
      have l : W.Le (W.frz a o) := Wd.Le.frz hP
      have sr' : SR X.K (W.frz a o) G0 G' sg (r.set i (.val d)) := by
        refine ⟨by simp [sr.len], fun j t z => ?_, fun j k d1 d2 b h1 h2 h3 h4 => ?_, fun b u z => ?_⟩
        · by_cases hj : i = j
          · subst hj
            rw [List.getElem?_set_self hi] at z
            cases z
            exact ⟨_, e1, rv⟩
          · rw [List.getElem?_set_ne hj] at z
            have y := (sr.mono l).at_ j t z
            cases t with
            | own d1 =>
              obtain ⟨b, y1, y2, y3⟩ := y
              have hb : b ≠ a := fun x => by
                subst x
                exact hj (sr.inj i j _ _ _ e z e1 y1)
              refine ⟨b, y1, ?_, y3⟩
              cases d1 with
              | lst ds => obtain ⟨vs, w1, w2⟩ := y2; exact ⟨vs, by simp only [G', if_neg hb]; exact w1, w2⟩
              | dic t ds => cases t with
                | false => obtain ⟨vs, w1, w2⟩ := y2; exact ⟨vs, by simp only [G', if_neg hb]; exact w1, w2⟩
                | true => obtain ⟨vs, w1, w2⟩ := y2; exact ⟨vs, by simp only [G', if_neg hb]; exact w1, w2⟩
              | _ => exact y2.elim
            | un => exact y
            | grp _ => exact y
            | val _ => exact y
            | bor _ => exact y
        · have back : ∀ {j : Nat} {d1 : Dn.D}, (r.set i (.val d))[j]? = some (.own d1) → r[j]? = some (.own d1) := fun {j d1} q => by
            by_cases hj : i = j
            · subst hj; rw [List.getElem?_set_self hi] at q; cases q
            · rw [List.getElem?_set_ne hj] at q; exact q
          exact sr.inj j k d1 d2 b (back h1) (back h2) h3 h4
        · have hb : b ≠ a := fun x => by subst x; rw [g0] at z; cases z
          simp only [G', if_neg hb]
          exact sr.sub _ _ z
      exact g _ m G0 G' _ sg H D sr' h2 (p.mono l)
    | val d =>
      have p : PostS Nn X.mg X.K G0 W (exSs (cxE T n) cs (r.set i (.val d)) m) D E := p
      have er : r.set i (.val d) = r := by
        refine List.ext_getElem? fun j => ?_
        by_cases hj : i = j
        · subst hj; rw [List.getElem?_set_self hi, e]
        · rw [List.getElem?_set_ne hj]
      rw [er] at p
      exact g r m G0 G W sg H D sr hr p
    | grp kvs => exact q.elim
    | un => exact p.elim
    | bor _ => exact p.elim
theorem ss_ite {c : PySem.Expr} {a b : List Stmt} {pos : Pos} {cc : CE} {ca cb : CSs} (h : ST T Nn n N sc c cc) (ha : SSs T Nn n N sc a ca) (hb : SSs T Nn n N sc b cb) : SS T Nn n N sc (.If c a b pos) (.ite cc ca cb) := by
  intro E X x
  obtain ⟨t, pt, f⟩ := h E X x.x
  obtain ⟨ta, pa, fa⟩ := ha E X x
  obtain ⟨tb, pb, fb⟩ := hb E X x
  refine ⟨_, ps_if pt pa pb, fun r m G0 G W sg H D sr hr p => ?_⟩
  have p : PostS Nn X.mg X.K G0 W (onE (fun m => (evE (cxE T n) cc r m).bnd fun x m1 => (M.opt x.d.truth : M Bool) m1) r (fun k m => if k then exSs (cxE T n) ca r m else exSs (cxE T n) cb r m) m) D E := p
  have p1 := onE_R sr.sub p
  refine f r m G W sg H _ sr.er hr ?_
  cases e : ((evE (cxE T n) cc r m).bnd fun x m1 => (M.opt x.d.truth : M Bool) m1) with
  | ok k m1 =>
    rw [e] at p1
    intro W1 H1 l h1
    have p2 := p1 W1 H1 l h1
    cases k with
    | true =>
      rw [if_pos rfl]
      exact fa r m1 G0 G W1 sg H1 D (sr.mono l) h1 p2
    | false =>
      rw [if_neg (by decide)]
      exact fb r m1 G0 G W1 sg H1 D (sr.mono l) h1 p2
  | ex z m1 => rw [e] at p1; exact p1
  | st => rw [e] at p1; exact p1
end
end Dn

/-! Dn14 -/
set_option Elab.async false
set_option linter.all false
set_option maxRecDepth 100000
set_option maxHeartbeats 1000000
/-! Dn14: statements: loops, stores. -/
namespace Dn
open PySem PySem.Spec PyProof.Rows L2

section
variable {T : Tb} {Nn : Tn} {n : Nat} {N : List Str} {sc : Scope} {E : XK} {X : L2.Cx} {G G0 : Hp} {W : Wd} {sg : L2.St} {H : Hp} {m : Mu} {r : Env} {D : Ends}
theorem setAll_len : ∀ {is : List Nat} {ds : List Dn.D} {ρ ρ' : Env}, setAll is ds ρ = some ρ' → ds.length = is.length
  | [], [], _, _, _ => rfl
  | [], _ :: _, _, _, e => by cases e
  | _ :: _, [], _, _, e => by cases e
  | _ :: is, _ :: ds, ρ, ρ', e => congrArg (· + 1) (setAll_len (is := is) (ds := ds) e)
theorem gNs_okS {K : PySem.W.Frag} : ∀ {is : List Nat} {ds : List Dn.D} {vs : List V} {σ : L2.St} {ρ ρ' : Env} {Q : L2.St → Hp → Prop}, SR K W G0 G σ ρ → RVs K W vs ds → setAll is ds ρ = some ρ' →
    (∀ σ', SR K W G0 G σ' ρ' → Q σ' H) → gNs is vs σ H Q
  | [], [], _, _, _, _, _, er, .nil, e, k => by
    cases e
    exact ⟨rfl, k _ er⟩
  | [], _ :: _, _, _, _, _, _, _, _, e, _ => by cases e
  | _ :: _, [], _, _, _, _, _, _, _, e, _ => by cases e
  | i :: is, d :: ds, _, σ, ρ, ρ', Q, er, .cons (v := v) (vs := vs) q t, e, k => ⟨v, vs, rfl, gNs_okS (σ := σ.set i (some v)) (ρ := ρ.set i (.val d)) (er.setVal q) t e k⟩
theorem gOf_okS {K : PySem.W.Frag} {c : Tg} {d : Dn.D} {v : V} {σ : L2.St} {ρ ρ' : Env} {Q : L2.St → Hp → Prop} {b : Bool} (hb : b = true → ∃ is, c = .tp is) (er : SR K W G0 G σ ρ) (hr : HR K W G H m) (q : RI K b W v d) (e : bindT c d ρ = some ρ')
    (k : ∀ σ', SR K W G0 G σ' ρ' → Q σ' H) : gOf K c v σ H Q := by
  cases c with
  | nm i =>
    cases e
    rcases q with q | ⟨z, _⟩
    · exact k _ (er.setVal q)
    · obtain ⟨is, e⟩ := hb z; cases e
  | tp is =>
    cases d with
    | tup ds =>
      have e : setAll is ds ρ = some ρ' := e
      obtain ⟨a, vs, rfl, ha, ra⟩ := q.pair hr
      exact ⟨a, vs, rfl, ha, by rw [ra.length]; exact setAll_len e, gNs_okS er ra e k⟩
    | _ => cases e
theorem sws_tup {es : List PySem.Expr} {k : Nat} {p1 : Pos} {e : PySem.Expr} {l : Nat} {env : PySem.Env} : swapsWithSole [.Tuple es k p1] e l env = pure false := by
  cases e <;> rfl
def notTup : PySem.Expr → Bool
  | .Tuple .. => false
  | _ => true
theorem swd_no {es : List PySem.Expr} {k : Nat} {p1 : Pos} {e : PySem.Expr} {env : PySem.Env} (h : notTup e = true) : swappedStores [.Tuple es k p1] e env = pure none := by
  cases e <;> first | rfl | cases h
theorem ss_unp {es : List PySem.Expr} {k : Nat} {p1 pos : Pos} {e : PySem.Expr} {is : List Nat} {c : CE} (hx : nmIx N es is = true) (hl : ∀ x ∈ nmsOf es, Loc sc x) (h : SE T Nn n N sc e c) (hn : notTup e = true) : SS T Nn n N sc (.Assign [.Tuple es k p1] e pos) (.unp is c) := by
  intro E X x
  obtain ⟨t, pe, f⟩ := h E X x.x
  have pg : PG X (.Tuple es k p1) (gOf X.K (.tp is)) := pg_of (by show nmIx X.N es is = true; rw [x.x.pN]; exact hx) x.x.calm x.nd fun y hy => x.tg (hl y hy)
  refine ⟨_, ps_asg pe pg sws_tup (swd_no hn) rfl, fun r m G0 G W sg H D sr hr p => ?_⟩
  have p : PostS Nn X.mg X.K G0 W (onE (evE (cxE T n) c r) r (fun x m => nxt (x.keep.bind fun d => bindT (.tp is) d r) m) m) D E := p
  refine useArg f sr.er hr (onE_R sr.sub p) fun x m1 W1 H1 v l1 h1 q1 p1 => ?_
  cases ek : x.keep with
  | none => rw [ek] at p1; exact p1.elim
  | some d =>
    rw [ek] at p1
    have p1 : PostS Nn X.mg X.K G0 W1 (nxt (bindT (.tp is) d r) m1) D E := p1
    cases eb : bindT (.tp is) d r with
    | none => rw [eb] at p1; exact p1.elim
    | some r' =>
      rw [eb] at p1
      exact gOf_okS (b := true) (fun _ => ⟨is, rfl⟩) (sr.mono l1) h1 (.inl (q1.2 d ek).2) eb fun σ' s' => p1 W1 G σ' H1 (Wd.Le.refl _) h1 s'

/-! ### a, b = x, y -/
def PostP (Nn : Tn) (mg : Str → Option Value) (K : PySem.W.Frag) (G0 : Hp) (W : Wd) (o : Out (List Sl)) (P : List Sl → Mu → Wd → Prop) (E : XK) : Prop :=
  match o with
  | .ok ss m' => ∀ W', W.Le W' → P ss m' W'
  | .ex x m' => ∀ W' H' c d, W.Le W' → HR K W' G0 H' m' → XR Nn mg K W' H' x c d → E c d H'
  | .st => False
def SP' (T : Tb) (Nn : Tn) (n : Nat) (N : List Str) (sc : Scope) (es : List PySem.Expr) (cs : CEs) : Prop := ∀ (E : XK) (X : L2.Cx), XOk T Nn n N sc E X → ∃ t, PA X es t ∧
  ∀ (os : List Bool) (r : Env) (m : Mu) (G0 G : Hp) (W : Wd) (sg : L2.St) (pv : List (Option V)) (ps : List Sl) (H : Hp) (Q : List V → Hp → Prop) (P : List Sl → Mu → Wd → Prop), sg.length = r.length → SR X.K W G0 G (sg ++ pv) (r ++ ps) → HR X.K W G H m →
    PostP Nn X.mg X.K G0 W (evP (cxE T n) cs os r m) P E →
    (∀ ss m1 W1 G1 H1 vs, W.Le W1 → HR X.K W1 G1 H1 m1 → SR X.K W1 G0 G1 (sg ++ (pv ++ vs.map some)) (r ++ (ps ++ ss)) → P ss m1 W1 → vs.length = ss.length → Q vs H1) → t sg H Q
theorem sp_nil : SP' T Nn n N sc [] .nil := by
  intro E X x
  refine ⟨_, pa_nil, fun os r m G0 G W sg pv ps H Q P hl sr hr p k => ?_⟩
  cases os with
  | nil =>
    have p : P [] m W := (show PostP Nn X.mg X.K G0 W (.ok [] m) P E from p) W (Wd.Le.refl _)
    exact k [] m W G H [] (Wd.Le.refl _) hr (by simpa using sr) p rfl
  | cons o os => exact p.elim
theorem sp_cons {e : PySem.Expr} {es : List PySem.Expr} {c : CE} {cs : CEs} (h1 : SE T Nn n N sc e c) (h2 : SP' T Nn n N sc es cs) (hs : notStar e = true) : SP' T Nn n N sc (e :: es) (.cons c cs) := by
  intro E X x
  obtain ⟨t, pe, f⟩ := h1 E X x
  obtain ⟨u, pa, g⟩ := h2 E X x
  refine ⟨_, pa_cons pe pa (star_of hs _ _), fun os r m G0 G W sg pv ps H Q P hl sr hr p k => ?_⟩
  cases os with
  | nil => exact p.elim
  | cons o os =>
    have er : ER X.K W G sg r := by
      refine ⟨hl, fun i s e => ?_⟩
      have hi : i < r.length := (List.getElem?_eq_some_iff.mp e).1
      have := sr.er.at_ i s (by rw [List.getElem?_append_left hi]; exact e)
      rw [List.getElem?_append_left (by rw [hl]; exact hi)] at this
      exact this
    have p : PostP Nn X.mg X.K G0 W ((evE (cxE T n) c r m).bnd fun x m1 => ((M.opt (slotOf o x)) m1).bnd fun s m2 => (evP (cxE T n) cs os r m2).bnd fun ss m3 => .ok (s :: ss) m3) P E := p
    have p' : PostR Nn X.mg X.K G W (evE (cxE T n) c r m) (fun x m1 W1 _ => PostP Nn X.mg X.K G0 W1 (((M.opt (slotOf o x)) m1).bnd fun s m2 => (evP (cxE T n) cs os r m2).bnd fun ss m3 => .ok (s :: ss) m3) P E) E := by
      cases e : evE (cxE T n) c r m with
      | ok x m1 =>
        rw [e, bnd_ok] at p
        intro W1 H1 l h1
        generalize ((M.opt (slotOf o x)) m1).bnd (fun s m2 => (evP (cxE T n) cs os r m2).bnd fun ss m3 => Out.ok (s :: ss) m3) = oo at p
        cases oo with
        | ok _ _ => exact fun W2 l2 => p W2 (l.trans l2)
        | ex _ _ => exact fun W2 H2 c d l2 => p W2 H2 c d (l.trans l2)
        | st => exact p
      | ex x m1 => rw [e] at p; exact fun W' H' c d l hr => p W' H' c d l (hr.unguard sr.sub)
      | st => rw [e] at p; exact p
    refine useRaw f er hr p' fun x m1 W1 H1 v l1 h1 q1 p1 => ?_
    cases es' : slotOf o x with
    | none => rw [es'] at p1; exact p1.elim
    | some s =>
      rw [es'] at p1
      obtain ⟨W2, G2, l2, h2, s2, _⟩ := (sr.mono l1).hold h1 q1 es'
      have p1 : PostP Nn X.mg X.K G0 W1 ((evP (cxE T n) cs os r m1).bnd fun ss m3 => .ok (s :: ss) m3) P E := p1
      rw [List.append_assoc, List.append_assoc] at s2
      refine g os r m1 G0 G2 W2 sg (pv ++ [some v]) (ps ++ [s]) H1 _ (fun ss m3 W3 => P (s :: ss) m3 W3) hl s2 h2 ?_ fun ss m3 W3 G3 H3 vs l3 h3 s3 p3 hv => ?_
      · cases e2 : evP (cxE T n) cs os r m1 with
        | ok ss m3 => rw [e2] at p1; exact fun W3 l3 => p1 W3 (l2.trans l3)
        | ex z m3 => rw [e2] at p1; exact fun W3 H3 c d l3 => p1 W3 H3 c d (l2.trans l3)
        | st => rw [e2] at p1; exact p1
      · refine k (s :: ss) m3 W3 G3 H3 (v :: vs) (l1.trans (l2.trans l3)) h3 ?_ p3 (by simp [hv])
        rw [List.append_assoc, List.append_assoc] at s3
        exact s3
def setV : List Nat → List V → L2.St → L2.St
  | i :: is, v :: vs, σ => setV is vs (σ.set i (some v))
  | _, _, σ => σ
theorem moveAll {K : PySem.W.Frag} : ∀ {is : List Nat} {vs : List V} {ss : List Sl} {σ : L2.St} {ρ ρ' : Env}, σ.length = ρ.length → SR K W G0 G (σ ++ vs.map some) (ρ ++ ss) → setSl is ss ρ = some ρ' → vs.length = ss.length → SR K W G0 G (setV is vs σ) ρ' ∧ is.length = vs.length
  | [], [], [], σ, ρ, ρ', _, s, e, _ => by cases e; exact ⟨by simpa [setV] using s, rfl⟩
  | [], _, _ :: _, _, _, _, _, _, e, _ => by cases e
  | _ :: _, _, [], _, _, _, _, _, e, _ => by cases e
  | [], _ :: _, [], _, _, _, _, _, _, h => by cases h
  | _ :: _, [], _ :: _, _, _, _, _, _, _, h => by cases h
  | i :: is, v :: vs, s :: ss, σ, ρ, ρ', hl, sr, e, h => by
    have e : setSl is ss (ρ.set i s) = some ρ' := e
    have := moveAll (is := is) (vs := vs) (ss := ss) (σ := σ.set i (some v)) (ρ := ρ.set i s) (by simp [hl]) (SR.move (i := i) hl sr) e (by simpa using h)
    exact ⟨this.1, by simp [this.2]⟩
theorem par_post {cs : CEs} {os : List Bool} {is : List Nat} (p : PostS Nn X.mg X.K G0 W (onE (evP (cxE T n) cs os r) r (fun ss m => nxt (setSl is ss r) m) m) D E) :
    PostP Nn X.mg X.K G0 W (evP (cxE T n) cs os r m) (fun ss m' W' => PostS Nn X.mg X.K G0 W' (nxt (setSl is ss r) m') D E) E := by
  unfold onE at p
  cases e : evP (cxE T n) cs os r m with
  | ok ss m' => rw [e] at p; exact fun W' l => PostS.mono l p
  | ex x m' => rw [e] at p; exact p
  | st => rw [e] at p; exact p
theorem par_fin {is : List Nat} {ss : List Sl} {vs : List V} (hl : sg.length = r.length) (hr : HR X.K W G H m) (s : SR X.K W G0 G (sg ++ ([] ++ vs.map some)) (r ++ ([] ++ ss))) (p : PostS Nn X.mg X.K G0 W (nxt (setSl is ss r) m) D E) (hv : vs.length = ss.length) :
    is.length = vs.length ∧ ∀ H', HR X.K W G H' m → D.nx (setV is vs sg) H' := by
  cases e : setSl is ss r with
  | none => rw [e] at p; exact p.elim
  | some r' =>
    rw [e] at p
    obtain ⟨h1, h2⟩ := moveAll hl s e hv
    exact ⟨h2, fun H' hr' => p W G _ H' (Wd.Le.refl _) hr' h1⟩
theorem gNs_set : ∀ {is : List Nat} {vs : List V} {σ : L2.St} {Q : L2.St → Hp → Prop}, is.length = vs.length → Q (setV is vs σ) H → gNs is vs σ H Q
  | [], [], _, _, _, q => ⟨rfl, q⟩
  | [], _ :: _, _, _, h, _ => by cases h
  | _ :: _, [], _, _, h, _ => by cases h
  | i :: is, v :: vs, σ, Q, h, q => ⟨v, vs, rfl, gNs_set (by simpa using h) q⟩
/-- by a tuple -/
theorem ss_par {ts es : List PySem.Expr} {k k2 : Nat} {p1 p2 pos : Pos} {is : List Nat} {os : List Bool} {cs : CEs} (hx : nmIx N ts is = true) (hl : ∀ x ∈ nmsOf ts, Loc sc x) (h : SP' T Nn n N sc es cs)
    (hw : ∀ env, env.scope = sc → swappedStores [.Tuple ts k p1] (.Tuple es k2 p2) env = pure none) (hn : is.length ≤ 1000) : SS T Nn n N sc (.Assign [.Tuple ts k p1] (.Tuple es k2 p2) pos) (.par is os cs) := by
  intro E X x
  obtain ⟨t, pa, f⟩ := h E X x.x
  have pg : PG X (.Tuple ts k p1) (gOf X.K (.tp is)) := pg_of (by show nmIx X.N ts is = true; rw [x.x.pN]; exact hx) x.x.calm x.nd fun y hy => x.tg (hl y hy)
  refine ⟨_, ps_asg (pe_tup pa) pg sws_tup (hw _ x.x.psc) rfl, fun r m G0 G W sg H D sr hr p => ?_⟩
  have p : PostS Nn X.mg X.K G0 W (onE (evP (cxE T n) cs os r) r (fun ss m => nxt (setSl is ss r) m) m) D E := p
  refine f os r m G0 G W sg [] [] H _ _ sr.len (by simpa using sr) hr (par_post p) fun ss m1 W1 G1 H1 vs l1 h1 s1 p1 hv => ?_
  obtain ⟨hi, fin⟩ := par_fin sr.len h1 s1 p1 hv
  refine ⟨small_line (by omega), fun a ha => ?_⟩
  exact ⟨a, vs, rfl, .inl (.inl upd_same), hi.symm, gNs_set hi (fin _ (h1.new ha))⟩
theorem ss_par2 {a b : PySem.Expr} {y z : Str} {px py p1 p2 pos : Pos} {k k2 i j : Nat} {os : List Bool} {cs : CEs} (hi : N[i]? = some y) (hj : N[j]? = some z) (hij : i ≠ j) (hy : sc.names.lookup y = some .local) (hz : sc.names.lookup z = some .local) (h : SP' T Nn n N sc [a, b] cs)
    (hw : ∀ env, env.scope = sc → swappedStores [.Tuple [.Name y px, .Name z py] k p1] (.Tuple [a, b] k2 p2) env = pure (some [y, z])) : SS T Nn n N sc (.Assign [.Tuple [.Name y px, .Name z py] k p1] (.Tuple [a, b] k2 p2) pos) (.par [i, j] os cs) := by
  intro E X x
  obtain ⟨t, pa, f⟩ := h E X x.x
  refine ⟨_, ps_par x.x.calm x.nd (x.ix hi) (x.ix hj) hij (by rw [x.x.psc]; exact hy) (by rw [x.x.psc]; exact hz) pa (hw _ x.x.psc) sws_tup, fun r m G0 G W sg H D sr hr p => ?_⟩
  have p : PostS Nn X.mg X.K G0 W (onE (evP (cxE T n) cs os r) r (fun ss m => nxt (setSl [i, j] ss r) m) m) D E := p
  refine f os r m G0 G W sg [] [] H _ _ sr.len (by simpa using sr) hr (par_post p) fun ss m1 W1 G1 H1 vs l1 h1 s1 p1 hv => ?_
  obtain ⟨hi, fin⟩ := par_fin sr.len h1 s1 p1 hv
  match vs, hi with
  | [v, w], _ => exact ⟨v, w, rfl, fin _ h1⟩
theorem ss_par3 {a b c : PySem.Expr} {y z u : Str} {px py pz p1 p2 pos : Pos} {k k2 i j l : Nat} {os : List Bool} {cs : CEs} (hi : N[i]? = some y) (hj : N[j]? = some z) (hk : N[l]? = some u) (hij : i ≠ j) (hil : i ≠ l) (hjl : j ≠ l)
    (hy : sc.names.lookup y = some .local) (hz : sc.names.lookup z = some .local) (hu : sc.names.lookup u = some .local) (h : SP' T Nn n N sc [a, b, c] cs)
    (hw : ∀ env, env.scope = sc → swappedStores [.Tuple [.Name y px, .Name z py, .Name u pz] k p1] (.Tuple [a, b, c] k2 p2) env = pure (some [y, z, u])) : SS T Nn n N sc (.Assign [.Tuple [.Name y px, .Name z py, .Name u pz] k p1] (.Tuple [a, b, c] k2 p2) pos) (.par [i, j, l] os cs) := by
  intro E X x
  obtain ⟨t, pa, f⟩ := h E X x.x
  refine ⟨_, ps_par3 x.x.calm x.nd (x.ix hi) (x.ix hj) (x.ix hk) hij hil hjl (by rw [x.x.psc]; exact hy) (by rw [x.x.psc]; exact hz) (by rw [x.x.psc]; exact hu) pa (hw _ x.x.psc) sws_tup, fun r m G0 G W sg H D sr hr p => ?_⟩
  have p : PostS Nn X.mg X.K G0 W (onE (evP (cxE T n) cs os r) r (fun ss m => nxt (setSl [i, j, l] ss r) m) m) D E := p
  refine f os r m G0 G W sg [] [] H _ _ sr.len (by simpa using sr) hr (par_post p) fun ss m1 W1 G1 H1 vs l1 h1 s1 p1 hv => ?_
  obtain ⟨hi, fin⟩ := par_fin sr.len h1 s1 p1 hv
  match vs, hi with
  | [v, w, z], _ => exact ⟨v, w, z, rfl, fin _ h1⟩

/-! ### op= -/
def RAug (K : PySem.W.Frag) (op : Bop) : TIp := fun v u H Q => ∃ W x y d, RV K W v x ∧ RD K W (fun _ => none) u y ∧ augD op x y = some d ∧ ∀ z, RV K W z d → Q z H
def augOp : Bop → Operator
  | .add => .Add
  | .sub => .Sub
  | _ => .Add
theorem pip_aug (op : Bop) : PIp X (augOp op) (fun v u H Q => ∃ W G x y d, RV X.K W v x ∧ RD X.K W G u y ∧ augD op x y = some d ∧ ∀ z, RV X.K W z d → Q z H) := by
  intro pins s σ H x y v u Q I r1 r2 h
  obtain ⟨W, G, dx, dy, d, qx, qy, e, k⟩ := h
  cases op with
  | add =>
    cases dx with
    | int i =>
      cases dy with
      | int j =>
        cases e
        cases qx
        cases qy.int
        exact ip_add pins s σ H _ _ v u Q I r1 r2 ⟨i, j, rfl, rfl, k _ (.int _)⟩
      | _ => cases e
    | str i =>
      cases dy with
      | str j =>
        have e : (if i.length + j.length ≤ big then some (Dn.D.str (i ++ j)) else none) = some d := e
        by_cases hb : i.length + j.length ≤ big
        · rw [if_pos hb] at e
          cases e
          cases qx with
          | str _ ti =>
            obtain ⟨rfl, tj⟩ := qy.str
            have hz : i.length + j.length ≤ sizeLine := by rw [sizeLine_eq]; exact hb
            refine iop_add_str pins s σ H _ _ v u Q I r1 r2 ⟨S i, S j, rfl, rfl, by rw [S_len, S_len]; exact hz, ?_⟩
            have es : S i ++ S j = S (i ++ j) := by
              refine TL.ext_tl ?_
              rw [TL.tl_append]
              rfl
            rw [es]
            refine k _ (.str _ ⟨by rw [List.length_append]; exact hz, fun c hc => ?_⟩)
            rcases List.mem_append.mp hc with hc | hc
            · exact ti.2 c hc
            · exact tj.2 c hc
        · rw [if_neg hb] at e; cases e
      | _ => cases e
    | _ => cases e
  | sub =>
    cases dx with
    | int i =>
      cases dy with
      | int j =>
        cases e
        cases qx
        cases qy.int
        exact ip_sub pins s σ H _ _ v u Q I r1 r2 ⟨i, j, rfl, rfl, k _ (.int _)⟩
      | _ => cases e
    | _ => cases e
  | _ => cases e
theorem ss_aug {y : Str} {p1 pos : Pos} {e : PySem.Expr} {i : Nat} {c : CE} (op : Bop) (hi : N[i]? = some y) (hl : Loc sc y) (h : SE T Nn n N sc e c) : SS T Nn n N sc (.AugAssign (.Name y p1) (augOp op) e pos) (.aug i op c) := by
  intro E X x
  obtain ⟨t, pe, f⟩ := h E X x.x
  refine ⟨_, ps_aug x.nd (x.ix hi) (x.loc hl) pe (pip_aug op) (.inl (x.fnA y)), fun r m G0 G W sg H D sr hr p => ?_⟩
  have p : PostS Nn X.mg X.K G0 W (match r[i]? with | some (.val d) => onE (evE (cxE T n) c r) r (fun x m => nxt ((augD op d x.d).map fun d' => r.set i (.val d')) m) m | _ => .st) D E := p
  cases e1 : r[i]? with
  | none => rw [e1] at p; exact p.elim
  | some s =>
    rw [e1] at p
    cases s with
    | val d =>
      obtain ⟨v, ev, rv⟩ := sr.at_ i _ e1
      refine ⟨v, ev, ?_⟩
      refine useArg f sr.er hr (onE_R sr.sub p) fun x m1 W1 H1 u l1 h1 q1 p1 => ?_
      cases ea : augD op d x.d with
      | none => rw [ea] at p1; exact p1.elim
      | some d' =>
        rw [ea] at p1
        exact ⟨W1, G, d, x.d, d', rv.mono l1, q1.1, ea, fun z qz => p1 W1 G _ H1 (Wd.Le.refl _) h1 ((sr.mono l1).setVal qz)⟩
    | _ => exact p.elim

/-! ### name.append(e) -/
theorem mt_app : MtR X "list.append" rAppend := mt_append
theorem ss_app {y : Str} {p1 apos cpos pos : Pos} {e : PySem.Expr} {i : Nat} {c : CE} (hi : N[i]? = some y) (h2 : Vis sc y) (h3 : (y == ("__debug__" : Str)) = false) (h4 : (y == ("__classdict__" : Str)) = false) (h : SE T Nn n N sc e c)
    (hline : (apos.endLine == cpos.line) = true) (hs : notStar e = true) : SS T Nn n N sc (.Expr (.Call (.Attribute (.Name y p1) "append" apos) [e] [] cpos) pos) (.app i c) := by
  intro E X x
  obtain ⟨t, pe, f⟩ := h E X x.x
  have hfew : ((backTo cpos (starEach [e] X.env)).all (fun x => !x.1) && (backToKw cpos (keywordEach [] X.env)).all (fun x => x.1.isSome) && decide ([e].length + ([] : List Keyword).length + (if ([] : List Keyword).isEmpty then 0 else 1) < 30)) = true := by
    rw [star_of hs]; rfl
  refine ⟨_, ps_expr (pe_bm F.plainAttrs_list F.slot_list_append F.type_list_append mt_app (pe_var (x.ix hi) (x.x.vis h2) h3 h4) (pa_cons pe pa_nil (star_of hs _ _)) rfl hfew hline (star_of hs _ _) rfl) rfl, fun r m G0 G W sg H D sr hr p => ?_⟩
  have p : PostS Nn X.mg X.K G0 W (match r[i]? with
      | some (.own (.lst ds)) => onE (evE (cxE T n) c r) r (fun x m => nxt (if ds.length < big then x.keep.map fun d => r.set i (.own (.lst (ds ++ [d]))) else none) m) m
      | _ => .st) D E := p
  cases e1 : r[i]? with
  | none => rw [e1] at p; exact p.elim
  | some s =>
    rw [e1] at p
    cases s with
    | own d =>
      cases d with
      | lst ds =>
        obtain ⟨a, ea, ca, g0⟩ := sr.at_ i _ e1
        obtain ⟨vs, ga, ra, z⟩ := id ca
        refine ⟨.ref a, ea, .inl ⟨rfl, vs, .inl (.inl (hr.gd _ _ ga))⟩, ?_⟩
        refine useArg f sr.er hr (onE_R sr.sub p) fun x m1 W1 H1 u l1 h1 q1 p1 => ?_
        by_cases hz : ds.length < big
        · rw [if_pos hz] at p1
          cases ek : x.keep with
          | none => rw [ek] at p1; exact p1.elim
          | some d =>
            rw [ek] at p1
            have hb : vs.length < sizeLine := by rw [ra.length, sizeLine_eq]; exact hz
            refine ⟨a, vs, u, rfl, rfl, h1.gd _ _ ga, hb, ?_⟩
            obtain ⟨h2, s2⟩ := (sr.mono l1).put (o := .lst (vs ++ [u])) (d' := .lst (ds ++ [d])) h1 e1 ea ⟨_, upd_same, (ra.mono l1).append (.cons (q1.2 d ek).2 .nil), by rw [List.length_append, sizeLine_eq]; exact hz⟩ rfl
            exact p1 W1 _ _ _ (Wd.Le.refl _) h2 s2
        · rw [if_neg hz] at p1; exact p1.elim
      | _ => exact p.elim
    | _ => exact p.elim

theorem ss_oins {y : Str} {p1 apos cpos pos : Pos} {a e : PySem.Expr} {i : Nat} {ca c : CE} (hi : N[i]? = some y) (h2 : Vis sc y) (h3 : (y == ("__debug__" : Str)) = false) (h4 : (y == ("__classdict__" : Str)) = false) (ha : SE T Nn n N sc a ca) (h : SE T Nn n N sc e c)
    (hline : (apos.endLine == cpos.line) = true) (hsa : notStar a = true) (hs : notStar e = true) : SS T Nn n N sc (.Expr (.Call (.Attribute (.Name y p1) "insert" apos) [a, e] [] cpos) pos) (.oins i ca c) := by
  intro E X x
  obtain ⟨ta, pa, fa⟩ := ha E X x.x
  obtain ⟨t, pe, f⟩ := h E X x.x
  have hfew : ((backTo cpos (starEach [a, e] X.env)).all (fun x => !x.1) && (backToKw cpos (keywordEach [] X.env)).all (fun x => x.1.isSome) && decide ([a, e].length + ([] : List Keyword).length + (if ([] : List Keyword).isEmpty then 0 else 1) < 30)) = true := by
    rw [star_of hsa, star_of hs]; rfl
  have hpl : (backTo cpos (starEach [e] X.env)).any (·.1) = false := by rw [star_of hs]; rfl
  refine ⟨_, ps_expr (pe_bm F.plainAttrs_list F.slot_list_insert F.type_list_insert mt_insert (pe_var (x.ix hi) (x.x.vis h2) h3 h4) (pa_cons pa (pa_cons pe pa_nil (star_of hs _ _)) (star_of hsa _ _)) rfl hfew hline (star_of hsa _ _) hpl) rfl, fun r m G0 G W sg H D sr hr p => ?_⟩
  have p : PostS Nn X.mg X.K G0 W (match r[i]? with
      | some (.own (.lst ds)) => onE (fun m => (evE (cxE T n) ca r m).bnd fun x m1 => (evE (cxE T n) c r m1).bnd fun y m2 => ((M.opt y.keep) m2).bnd fun d m3 => .ok (x.d, d) m3) r (fun p m => nxt ((insD? ds p.1 p.2).map fun o => r.set i (.own o)) m) m
      | _ => .st) D E := p
  cases e1 : r[i]? with
  | none => rw [e1] at p; exact p.elim
  | some s =>
    rw [e1] at p
    cases s with
    | own d =>
      cases d with
      | lst ds =>
        obtain ⟨l, ea, ca', g0⟩ := sr.at_ i _ e1
        obtain ⟨vs, ga, ra, z⟩ := id ca'
        refine ⟨.ref l, ea, .inl ⟨rfl, vs, .inl (.inl (hr.gd _ _ ga))⟩, ?_⟩
        have p := onE_R sr.sub p
        refine use2 fa f sr.er hr p fun x y m1 W1 H1 v u l1 h1 q0 q1 p1 => ?_
        obtain ⟨d, ek, p1⟩ := p1.opt
        have p2 := p1.ok h1
        have p2 : PostS Nn X.mg X.K G0 W1 (nxt ((insD? ds x.d d).map fun o => r.set i (.own o)) m1) D E := p2
        have q0' := q0.1
        cases hx : x.d with
        | int k =>
          rw [hx] at p2 q0'
          unfold insD? at p2
          dsimp only at p2
          by_cases hz : ds.length < big ∧ 0 ≤ k ∧ k < 1000000
          · rw [if_pos hz] at p2
            have hb : vs.length < sizeLine := by rw [ra.length, sizeLine_eq]; exact hz.1
            refine ⟨l, vs, k, u, rfl, by rw [q0'.int], h1.gd _ _ ga, hb, hz.2.1, by omega, ?_⟩
            have rv := (q1.2 d ek).2
            obtain ⟨h2, s2⟩ := (sr.mono l1).put (o := .lst (vs.take k.toNat ++ [u] ++ vs.drop k.toNat)) (d' := .lst (ds.take k.toNat ++ [d] ++ ds.drop k.toNat)) h1 e1 ea
              ⟨_, upd_same, (((ra.mono l1).take k.toNat).append (.cons rv .nil)).append ((ra.mono l1).drop k.toNat), by simp only [List.length_append, List.length_take, List.length_drop, List.length_singleton]; rw [sizeLine_eq]; have := hz.1; unfold big at this; omega⟩ rfl
            exact p2 W1 _ _ _ (Wd.Le.refl _) h2 s2
          · rw [if_neg hz] at p2; exact p2.elim
        | _ => rw [hx] at p2; exact p2.elim
      | _ => exact p.elim
    | _ => exact p.elim

/-! ### items stored -/
theorem HR.wr {K : PySem.W.Frag} {k : Nat} {a : Addr} {vs : List V} {ds : List Dn.D} {c0 : Cell} (hr : HR K W G H m) (e : W.io[k]? = some a) (e0 : m[k]? = some c0) (q : RVs K W vs ds) (z : ds.length ≤ sizeLine) : HR K W G (upd H a (.lst vs)) (m.set k (.lst ds)) := by
  have ha : a ∈ W.io := List.mem_of_getElem? e
  have hk : k < m.length := (List.getElem?_eq_some_iff.mp e0).1
  refine ⟨fun b u x => ?_, fun b u x => ?_, hr.dis, by rw [List.length_set]; exact hr.len, fun j b c h1 h2 => ?_, hr.stP, hr.stG, hr.nd⟩
  · rw [upd_ne (ne_of_none x (hr.stP a ha))]; exact hr.fz _ _ x
  · rw [upd_ne (ne_of_none x (hr.stG a ha))]; exact hr.gd _ _ x
  · by_cases hj : k = j
    · subst hj
      rw [List.getElem?_set_self hk] at h2
      rw [e] at h1
      cases h1
      cases h2
      exact ⟨vs, upd_same, q, z⟩
    · rw [List.getElem?_set_ne hj] at h2
      have hb : b ≠ a := fun x => by
        subst x
        have l1 : k < W.io.length := (List.getElem?_eq_some_iff.mp e).1
        exact hj ((List.getElem?_inj l1 hr.nd).mp (by rw [e, h1]))
      exact (hr.st j b c h1 h2).mono (Wd.Le.refl _) (upd_ne hb)
def notSl : PySem.Expr → Bool
  | .Slice .. => false
  | _ => true
theorem asg_sub {o i : PySem.Expr} {pos : Pos} {env : PySem.Env} (h : notSl i = true) : ∀ v, assign (.Subscript o i pos) env v = (do
      let ov ← holding [v] (eval o env)
      let iv ← holding [v, ov] (eval i env)
      standAt pos
      holding [v, ov, iv] (setItem ov iv v)
      release [v, ov, iv] []) := by intro _; cases i <;> first | rfl | cases h
theorem sws_sub {o i : PySem.Expr} {p1 : Pos} {e : PySem.Expr} {l : Nat} {env : PySem.Env} : swapsWithSole [.Subscript o i p1] e l env = pure false := by
  cases e <;> rfl
theorem swd_sub {o i : PySem.Expr} {p1 : Pos} {e : PySem.Expr} {env : PySem.Env} : swappedStores [.Subscript o i p1] e env = pure none := by
  cases e <;> rfl
theorem ss_sset {o k e : PySem.Expr} {p1 pos : Pos} {ca ck ce : CE} (ho : SE T Nn n N sc o ca) (hk : SE T Nn n N sc k ck) (he : SE T Nn n N sc e ce) (hsl : notSl k = true) : SS T Nn n N sc (.Assign [.Subscript o k p1] e pos) (.sset ca ck ce) := by
  intro E X x
  obtain ⟨to, po, fo⟩ := ho E X x.x
  obtain ⟨tk, pk, fk⟩ := hk E X x.x
  obtain ⟨te, pe, fe⟩ := he E X x.x
  refine ⟨_, ps_asg pe (pg_sub po pk set_list (asg_sub hsl)) sws_sub swd_sub rfl, fun r m G0 G W sg H D sr hr p => ?_⟩
  have p : PostS Nn X.mg X.K G0 W (onE (fun m => (evE (cxE T n) ce r m).bnd fun x m1 => ((M.opt x.keep) m1).bnd fun d m2 => (evE (cxE T n) ca r m2).bnd fun y m3 => (evE (cxE T n) ck r m3).bnd fun z m4 => .ok (d, y.d, z.d) m4) r (fun p m => ssetD p.1 p.2.1 p.2.2 r m) m) D E := p
  have p := onE_R sr.sub p
  refine use1 fe sr.er hr p fun x m1 W1 H1 v l1 h1 q1 p1 => ?_
  obtain ⟨d, ek, p1⟩ := p1.opt
  refine use2 fo fk (sr.er.mono l1 (Same.refl _)) h1 p1 fun y z m2 W2 H2 u w l2 h2 q2 q3 p2 => ?_
  have p3 := p2.ok h2
  have p3 : PostS Nn X.mg X.K G0 W2 (ssetD d y.d z.d r m2) D E := p3
  unfold ssetD at p3
  have q2' := q2.1
  have q3' := q3.1
  cases hy : y.d with
  | ref c =>
    cases hz : z.d with
    | int i =>
      rw [hy, hz] at p3
      rw [hy] at q2'
      rw [hz] at q3'
      obtain ⟨a, rfl, hio⟩ := q2'.ref
      have p3 : PostS Nn X.mg X.K G0 W2 (match m2[c]? with
        | some (.lst ds) => (match atN ds.length i with
          | some j => .ok (.nx r) (m2.set c (.lst (ds.set j d)))
          | none => .st)
        | _ => .st) D E := p3
      cases e1 : m2[c]? with
      | none => rw [e1] at p3; exact p3.elim
      | some cl =>
        rw [e1] at p3
        cases cl with
        | lst ds =>
          have p3 : PostS Nn X.mg X.K G0 W2 (match atN ds.length i with
          | some j => .ok (.nx r) (m2.set c (.lst (ds.set j d)))
          | none => .st) D E := p3
          cases e2 : atN ds.length i with
          | none => rw [e2] at p3; exact p3.elim
          | some j =>
            rw [e2] at p3
            obtain ⟨vs, ha, ra, zz⟩ := h2.cell hio e1
            have rv := ((q1.2 d ek).2).mono l2
            refine ⟨a, vs, i, j, rfl, q3'.int, ha, by rw [← atN_eq, ra.length]; exact e2, ?_⟩
            exact p3 W2 G sg _ (Wd.Le.refl _) (h2.wr hio e1 (ra.set rv j) (by rw [List.length_set]; exact zz)) (sr.mono (l1.trans l2))
        | ins _ _ => exact p3.elim
    | _ => rw [hy, hz] at p3; exact p3.elim
  | _ => rw [hy] at p3; exact p3.elim
theorem ss_oset {y : Str} {p0 : Pos} {k e : PySem.Expr} {p1 pos : Pos} {i : Nat} {ck ce : CE} (hi : N[i]? = some y) (h2 : Vis sc y) (h3 : (y == ("__debug__" : Str)) = false) (h4 : (y == ("__classdict__" : Str)) = false) (hk : SE T Nn n N sc k ck) (he : SE T Nn n N sc e ce) (hsl : notSl k = true) : SS T Nn n N sc (.Assign [.Subscript (.Name y p0) k p1] e pos) (.oset i ck ce) := by
  intro E X x
  obtain ⟨tk, pk, fk⟩ := hk E X x.x
  obtain ⟨te, pe, fe⟩ := he E X x.x
  refine ⟨_, ps_asg pe (pg_sub (pe_var (x.ix hi) (x.x.vis h2) h3 h4) pk set_list (asg_sub hsl)) sws_sub swd_sub rfl, fun r m G0 G W sg H D sr hr p => ?_⟩
  have p : PostS Nn X.mg X.K G0 W (onE (fun m => (evE (cxE T n) ce r m).bnd fun x m1 => ((M.opt x.keep) m1).bnd fun d m2 => ((M.opt (ownL r i)) m2).bnd fun ds m2 => (evE (cxE T n) ck r m2).bnd fun z m4 => .ok (d, ds, z.d) m4) r (fun p m => nxt (((putL p.2.1 p.2.2 p.1)).map fun o' => r.set i (.own o')) m) m) D E := p
  have p := onE_R sr.sub p
  refine use1 fe sr.er hr p fun x m1 W1 H1 v l1 h1 q1 p1 => ?_
  obtain ⟨d, ek, p1⟩ := p1.opt
  obtain ⟨ds, eo, p1⟩ := p1.opt
  have eo : r[i]? = some (.own (.lst ds)) := ownL_eq eo
  obtain ⟨a, ea, ca, g0⟩ := sr.at_ i _ eo
  obtain ⟨vs, ga, ra, zz⟩ := id ca
  refine ⟨.ref a, ea, ?_⟩
  refine use1 fk (sr.er.mono l1 (Same.refl _)) h1 p1 fun z m2 W2 H2 u l2 h2 q2 p2 => ?_
  have p3 := p2.ok h2
  have p3 : PostS Nn X.mg X.K G0 W2 (nxt ((putL ds z.d d).map fun o' => r.set i (.own o')) m2) D E := p3
  have q2' := q2.1
  cases hz : z.d with
  | int k =>
    rw [hz] at p3 q2'
    have p3 : PostS Nn X.mg X.K G0 W2 (nxt (((atN ds.length k).map fun j => Dn.D.lst (ds.set j d)).map fun o' => r.set i (.own o')) m2) D E := p3
    cases e2 : atN ds.length k with
    | none => rw [e2] at p3; exact p3.elim
    | some j =>
      rw [e2] at p3
      have l := l1.trans l2
      refine ⟨a, vs, k, j, rfl, q2'.int, h2.gd _ _ ga, by rw [← atN_eq, ra.length]; exact e2, ?_⟩
      obtain ⟨h3, s3⟩ := (sr.mono l).put (o := .lst (vs.set j v)) (d' := .lst (ds.set j d)) h2 eo ea ⟨_, upd_same, (ra.mono l).set (((q1.2 d ek).2).mono l2) j, by rw [List.length_set]; exact zz⟩ rfl
      exact p3 W2 _ _ _ (Wd.Le.refl _) h3 s3
  | _ => rw [hz] at p3; exact p3.elim

/-! ### loops -/
theorem hide_get {r : Env} {i : Nat} {s : Sl} (h : (hideO r)[i]? = some s) : ∃ s0, r[i]? = some s0 ∧ s = (match s0 with | .own _ => .un | .grp _ => .un | s => s) := by
  unfold hideO at h
  rw [List.getElem?_map] at h
  cases e : r[i]? with
  | none => rw [e] at h; cases h
  | some s0 => rw [e] at h; cases h; exact ⟨s0, rfl, rfl⟩
/-- the guard, what is one's own marked -/
def hidG (G0 G : Hp) : Hp := fun a => match G0 a with
  | some o => some o
  | none => (G a).map fun o => .frz default (strip o)
theorem hid_hr {K : PySem.W.Frag} (s : Same G0 G) (hr : HR K W G H m) : HR K W (hidG G0 G) H m := by
  have dom : ∀ {a : Addr} {o : HO}, hidG G0 G a = some o → ∃ u, G a = some u ∧ strip o = strip u := fun {a o} e => by
    unfold hidG at e
    cases e0 : G0 a with
    | some u => rw [e0] at e; cases e; exact ⟨_, s _ _ e0, rfl⟩
    | none =>
      rw [e0] at e
      cases e1 : G a with
      | none => rw [e1] at e; cases e
      | some u => rw [e1] at e; cases e; exact ⟨u, rfl, rfl⟩
  refine ⟨hr.fz, fun a o e => ?_, fun a o e => ?_, hr.len, hr.st, hr.stP, fun a ha => ?_, hr.nd⟩
  · obtain ⟨u, e1, e2⟩ := dom e
    rw [e2]; exact hr.gd _ _ e1
  · obtain ⟨u, e1, _⟩ := dom e
    exact hr.dis _ _ e1
  · have z := hr.stG a ha
    unfold hidG
    rw [s.free z, z]
    rfl
theorem hid_back {K : PySem.W.Frag} (s : Same G0 G) (hr : HR K W (hidG G0 G) H m) : HR K W G H m := by
  have dom : ∀ {a : Addr} {u : HO}, G a = some u → ∃ o, hidG G0 G a = some o ∧ strip o = strip u := fun {a u} e => by
    unfold hidG
    cases e0 : G0 a with
    | some v =>
      have := s _ _ e0
      rw [e] at this
      cases this
      exact ⟨_, rfl, rfl⟩
    | none => rw [e]; exact ⟨_, rfl, rfl⟩
  refine ⟨hr.fz, fun a o e => ?_, fun a o e => ?_, hr.len, hr.st, hr.stP, fun a ha => ?_, hr.nd⟩
  · obtain ⟨u, e1, e2⟩ := dom e
    rw [← e2]; exact hr.gd _ _ e1
  · obtain ⟨u, e1, _⟩ := dom e
    exact hr.dis _ _ e1
  · have z := hr.stG a ha
    cases q : G a with
    | none => rfl
    | some u => obtain ⟨o, e1, _⟩ := dom q; rw [z] at e1; cases e1
theorem hid_sub (G0 G : Hp) : Same G0 (hidG G0 G) := fun a o e => by unfold hidG; rw [e]
theorem hid_rd (G0 G : Hp) : Same (rdG (hidG G0 G)) G0 := fun a o e => by
  unfold rdG hidG at e
  cases e0 : G0 a with
  | some u =>
    rw [e0] at e
    cases u with
    | frz _ _ => cases e
    | _ => exact e
  | none =>
    rw [e0] at e
    cases e1 : G a with
    | none => rw [e1] at e; cases e
    | some u => rw [e1] at e; cases e
theorem SR.hid {K : PySem.W.Frag} (sr : SR K W G0 G sg r) : ER K W (hidG G0 G) sg (hideO r) := by
  refine ⟨by unfold hideO; rw [List.length_map]; exact sr.len, fun i s e => ?_⟩
  obtain ⟨s0, e0, rfl⟩ := hide_get e
  have q := sr.at_ i s0 e0
  cases s0 with
  | un => exact True.intro
  | grp _ => exact True.intro
  | val d => exact q
  | own d => exact True.intro
  | bor d => obtain ⟨x, h1, h2⟩ := q; exact ⟨x, h1, h2.mono (Wd.Le.refl _) (hid_sub _ _)⟩
theorem bnd_id {α : Type} (o : Out α) : (o.bnd fun a m => .ok a m) = o := by cases o <;> rfl
theorem forS_cons {tg : Tg} {b : Env → Mu → OutS} {d : Dn.D} {ds : List Dn.D} {ρ : Env} {m : Mu} : forS tg b (d :: ds) ρ m = (match bindT tg d ρ with
    | none => .st
    | some ρ1 =>
      match b ρ1 m with
      | .ok (.nx ρ2) m2 => forS tg b ds ρ2 m2
      | .ok (.ct ρ2) m2 => forS tg b ds ρ2 m2
      | .ok (.br ρ2) m2 => .ok (.nx ρ2) m2
      | .ok (.rt r) m2 => .ok (.rt r) m2
      | .ex x ρ2 m2 => .ex x ρ2 m2
      | .st => .st) := rfl
theorem ss_for {tg iter : PySem.Expr} {body : List Stmt} {pos : Pos} {tgc : Tg} {it : CI} {cb : CSs} (hi : SI T Nn n N sc tg iter it) (hx : tgIx N tg tgc = true) (hl : ∀ x ∈ tgNms tg, Loc sc x) (hb : SSs T Nn n N sc body cb)
    (hs : ∀ env x, foldedSetIterable iter env x = pure x) : SS T Nn n N sc (.For tg iter body [] pos) (.for_ tgc it cb) := by
  intro E X x
  obtain ⟨wi, pi, fi⟩ := hi E X x.x
  obtain ⟨tb, pb, fb⟩ := hb E X x
  have pg : PG X tg (gOf X.K tgc) := pg_of (by rw [x.x.pN]; exact hx) x.x.calm x.nd fun y hy => x.tg (hl y hy)
  refine ⟨_, ps_for x.po x.x.calm pi pg pb (hs _), fun r m G0 G W sg H D sr hr p => ?_⟩
  have p : PostS Nn X.mg X.K G0 W (onE (evI (cxE T n) it (hideO r)) r (fun ds m => forS tgc (exSs (cxE T n) cb) ds r m) m) D E := p
  have p := onE_R (hid_sub G0 G) p
  rw [← bnd_id (evI (cxE T n) it (hideO r) m)] at p
  refine fi (hideO r) m (hidG G0 G) W sg H _ _ _ sr.hid (hid_hr sr.sub hr) p fun ds m1 W1 H1 J l1 h1 jd hz p1 => ?_
  have p1 := p1.ok h1
  have h1' := hid_back sr.sub h1
  refine ⟨fun i k σ H' => k + i = ds.length ∧ ∃ W' G' r' m', W1.Le W' ∧ HR X.K W' G' H' m' ∧ SR X.K W' G0 G' σ r' ∧ PostS Nn X.mg X.K G0 W' (forS tgc (exSs (cxE T n) cb) (ds.drop i) r' m') D E,
    ⟨ds.length, by omega, W1, G, r, m1, Wd.Le.refl _, h1', sr.mono l1, by rw [List.drop_zero]; exact p1⟩, ?_⟩
  rintro i k σ H2 ⟨hk, W2, G2, r2, m2, l2, h2, s2, p2⟩
  have sG : Same (rdG (hidG G0 G)) G2 := (hid_rd G0 G).trans s2.sub
  by_cases hil : i < ds.length
  · refine .inr ⟨jd.go i W2 G2 H2 m2 l2 sG h2 hil, fun σ' H' => ∃ m', m' < k ∧ (m' + (i + 1) = ds.length ∧ ∃ W' G' r' m'', W1.Le W' ∧ HR X.K W' G' H' m'' ∧ SR X.K W' G0 G' σ' r' ∧ PostS Nn X.mg X.K G0 W' (forS tgc (exSs (cxE T n) cb) (ds.drop (i + 1)) r' m'') D E), fun σ' H' h => h, fun v H3 y => ?_⟩
    obtain ⟨W3, d, l3, h3, ed, rv⟩ := jd.yld i W2 G2 H2 m2 v H3 l2 sG h2 hil y
    have hd : ds.drop i = d :: ds.drop (i + 1) := by
      obtain ⟨hlt, e⟩ := List.getElem?_eq_some_iff.mp ed
      rw [List.drop_eq_getElem_cons hlt, e]
    rw [hd, forS_cons] at p2
    cases eb : bindT tgc d r2 with
    | none => rw [eb] at p2; exact p2.elim
    | some r3 =>
      rw [eb] at p2
      refine gOf_okS (tp_of hx) (s2.mono l3) h3 rv eb fun σ' s3 => ?_
      refine fb r3 m2 G0 G2 W3 σ' H3 _ s3 h3 ?_
      have p2 := PostS.mono l3 p2
      dsimp only at p2
      have nxt' : ∀ (ρ2 : Env) (m4 : Mu), PostS Nn X.mg X.K G0 W3 (forS tgc (exSs (cxE T n) cb) (ds.drop (i + 1)) ρ2 m4) D E → ∀ W' G' sg' H', W3.Le W' → HR X.K W' G' H' m4 → SR X.K W' G0 G' sg' ρ2 →
          ∃ m', m' < k ∧ (m' + (i + 1) = ds.length ∧ ∃ W' G' r' m'', W1.Le W' ∧ HR X.K W' G' H' m'' ∧ SR X.K W' G0 G' sg' r' ∧ PostS Nn X.mg X.K G0 W' (forS tgc (exSs (cxE T n) cb) (ds.drop (i + 1)) r' m'') D E) :=
        fun ρ2 m4 p4 W' G' sg' H' l' h' s' => ⟨k - 1, by omega, by omega, W', G', ρ2, m4, l2.trans (l3.trans l'), h', s', p4.mono l'⟩
      cases e : exSs (cxE T n) cb r3 m2 with
      | ok fl m4 =>
        rw [e] at p2
        cases fl with
        | nx ρ2 => exact nxt' ρ2 m4 p2
        | ct ρ2 => exact nxt' ρ2 m4 p2
        | br ρ2 => exact p2
        | rt z => exact p2
      | ex z ρ2 m4 => rw [e] at p2; exact p2
      | st => rw [e] at p2; exact p2
  · refine .inl ⟨jd.stop i W2 G2 H2 m2 l2 sG h2 (by omega), ?_⟩
    rw [List.drop_eq_nil_of_le (by omega)] at p2
    exact p2 W2 G2 σ H2 (Wd.Le.refl _) h2 s2
theorem ss_while {c : PySem.Expr} {body : List Stmt} {pos : Pos} {cc : CE} {cb : CSs} (h : ST T Nn n N sc c cc) (hb : SSs T Nn n N sc body cb) : SS T Nn n N sc (.While c body [] pos) (.while_ cc cb) := by
  intro E X x
  obtain ⟨t, pt, f⟩ := h E X x.x
  obtain ⟨tb, pb, fb⟩ := hb E X x
  refine ⟨_, ps_while x.po pt pb, fun r m G0 G W sg H D sr hr p => ?_⟩
  have p : PostS Nn X.mg X.K G0 W (whileS (fun ρ m => (evE (cxE T n) cc ρ m).bnd fun x m1 => (M.opt x.d.truth : M Bool) m1) (exSs (cxE T n) cb) T.wf r m) D E := p
  refine ⟨fun k σ H' => ∃ W' G' r' m', W.Le W' ∧ HR X.K W' G' H' m' ∧ SR X.K W' G0 G' σ r' ∧ PostS Nn X.mg X.K G0 W' (whileS (fun ρ m => (evE (cxE T n) cc ρ m).bnd fun x m1 => (M.opt x.d.truth : M Bool) m1) (exSs (cxE T n) cb) k r' m') D E,
    ⟨T.wf, W, G, r, m, Wd.Le.refl _, hr, sr, p⟩, ?_⟩
  rintro k σ H2 ⟨W2, G2, r2, m2, l2, h2, s2, p2⟩
  cases k with
  | zero => exact p2.elim
  | succ k =>
    have p2 : PostS Nn X.mg X.K G0 W2 (onE (fun m => (evE (cxE T n) cc r2 m).bnd fun x m1 => (M.opt x.d.truth : M Bool) m1) r2 (fun b m => if b then
      (match exSs (cxE T n) cb r2 m with
      | .ok (.nx ρ2) m2 => whileS (fun ρ m => (evE (cxE T n) cc ρ m).bnd fun x m1 => (M.opt x.d.truth : M Bool) m1) (exSs (cxE T n) cb) k ρ2 m2
      | .ok (.ct ρ2) m2 => whileS (fun ρ m => (evE (cxE T n) cc ρ m).bnd fun x m1 => (M.opt x.d.truth : M Bool) m1) (exSs (cxE T n) cb) k ρ2 m2
      | .ok (.br ρ2) m2 => .ok (.nx ρ2) m2
      | .ok (.rt r) m2 => .ok (.rt r) m2
      | .ex x ρ2 m2 => .ex x ρ2 m2
      | .st => .st) else .ok (.nx r2) m) m2) D E := p2
    have p3 := onE_R s2.sub p2
    refine f r2 m2 G2 W2 σ H2 _ s2.er h2 ?_
    cases e : ((evE (cxE T n) cc r2 m2).bnd fun x m1 => (M.opt x.d.truth : M Bool) m1) with
    | ok b m3 =>
      rw [e] at p3
      intro W3 H3 l3 h3
      have p4 := p3 W3 H3 l3 h3
      cases b with
      | true =>
        rw [if_pos rfl] at p4 ⊢
        refine ⟨fun σ' H' => ∃ m', m' < k + 1 ∧ ∃ W' G' r' m'', W.Le W' ∧ HR X.K W' G' H' m'' ∧ SR X.K W' G0 G' σ' r' ∧ PostS Nn X.mg X.K G0 W' (whileS (fun ρ m => (evE (cxE T n) cc ρ m).bnd fun x m1 => (M.opt x.d.truth : M Bool) m1) (exSs (cxE T n) cb) m' r' m'') D E, fun _ _ h => h, ?_⟩
        refine fb r2 m3 G0 G2 W3 σ H3 _ (s2.mono l3) h3 ?_
        cases e2 : exSs (cxE T n) cb r2 m3 with
        | ok fl m4 =>
          rw [e2] at p4
          cases fl with
          | nx ρ2 => exact fun W' G' sg' H' l' h' s' => ⟨k, Nat.lt_succ_self _, W', G', ρ2, m4, l2.trans (l3.trans l'), h', s', PostS.mono l' p4⟩
          | ct ρ2 => exact fun W' G' sg' H' l' h' s' => ⟨k, Nat.lt_succ_self _, W', G', ρ2, m4, l2.trans (l3.trans l'), h', s', PostS.mono l' p4⟩
          | br ρ2 => exact p4
          | rt z => exact p4
        | ex z ρ2 m4 => rw [e2] at p4; exact p4
        | st => rw [e2] at p4; exact p4
      | false =>
        rw [if_neg (by decide)] at p4 ⊢
        exact p4 W3 G2 σ H3 (Wd.Le.refl _) h3 (s2.mono l3)
    | ex z m3 => rw [e] at p3; exact p3
    | st => rw [e] at p3; exact p3
/-- name = [..] on one line -/
theorem ss_setLc {y : Str} {py : Pos} {i : Nat} {elt tg iter : PySem.Expr} {ifs : List PySem.Expr} {scope : Scope} {pos spos : Pos} {own : List (Str × Nat)} {tgc : Tg} {it : CI} {cond : CEo} {ec : CE} {ow : Bool} (hiy : N[i]? = some y) (hy : sc.names.lookup y = some .local)
    (hl : (py.line == pos.line) = true) (ha : (scope.names.any fun (n, k) => n == y && (k == .local || k == .cell)) = false)
    (hi : SI T Nn n N sc tg iter it) (ok : BlkOk N sc scope own) (hx : tgIx N tg tgc = true) (hxs : ∀ x ∈ tgNms tg, scope.names.lookup x = some .local ∨ scope.names.lookup x = some .cell)
    (hsub : ∀ i ∈ tgc.ixs, i ∈ own.map (·.2)) (hc : SC T Nn n N (relS scope sc) ifs cond) (he : SE T Nn n N (relS scope sc) elt ec) (hs : ∀ env x, foldedSetIterable iter env x = pure x) :
    SS T Nn n N sc (.Assign [.Name y py] (.ListComp elt [⟨tg, iter, ifs, 0⟩] scope pos) spos) (.set i ow (.comp (own.map (·.2)) tgc it cond ec)) := by
  intro E X x
  obtain ⟨wi, tt, te, pi, ok', hg, ht, hte, f⟩ := comp_core hi ok hx hxs hsub hc he E X x.x
  have hy' : X.env.scope.names.lookup y = some .local := by rw [x.x.psc]; exact hy
  refine ⟨_, ps_setLc x.x.calm x.nd (x.ix hiy) hy' (sw_true (by rw [x.x.psc]; exact x.kd) hy' hl ha) pi ok' hg ht hte (hs _), fun r m G0 G W sg H D sr hr p => ?_⟩
  have p : PostS Nn X.mg X.K G0 W (onE (evE (cxE T n) (.comp (own.map (·.2)) tgc it cond ec) r) r (fun x m => nxt ((slotOf ow x).map fun s => r.set i s) m) m) D E := p
  exact useRaw f sr.er hr (onE_R sr.sub p) fun x m1 W1 H1 v l1 h1 q1 p1 => set_done (sr.mono l1) h1 q1 p1
/-- .. where it isn't so -/
theorem sw_false {elt : PySem.Expr} {gs : List Comprehension} {scope : Scope} {pos py : Pos} {y : Str} {l : Nat} (h : (sc.kind == .function && sc.names.lookup y == some .local && py.line == pos.line && !(scope.names.any fun (n, k) => n == y && (k == .local || k == .cell))) = false)
    (hk : sc.kind = .function) : ∀ env : PySem.Env, env.scope = sc → swapsWith (.ListComp elt gs scope pos) (some (.Name y py)) l env = pure false := by
  intro env he
  have hb : env.blockKind = .function := by unfold Env.blockKind; rw [he, hk]; rfl
  have ky : env.kindOf y = sc.names.lookup y := by show env.scope.names.lookup y = _; rw [he]
  unfold swapsWith
  simp only [hb, ky, Expr.pos]
  rw [hk] at h
  show (pure _ : Sem Bool) = _
  exact congrArg pure h
end
end Dn

/-! DnC -/
set_option Elab.async false
set_option linter.all false
set_option maxRecDepth 100000
set_option maxHeartbeats 1000000
/-! DnC: text.replace(sign, ""): the sign's token is followed from its item to the call. -/
namespace Dn
open PySem PySem.Spec PyProof.Rows L2
section
variable {X : L2.Cx}
/-- a token is out behind it -/
structure PE1 (X : L2.Cx) (e : PySem.Expr) (t : TE) : Prop where
  run : ∀ (pins : List (Addr × Obj)) (s : Shared) (σ : L2.St) (H : Hp) (Q : VK), Inv X pins σ H s → t σ H Q → wpAny (model X.prog X.w) X.A (eval e X.env) (fun u s' => 1 ≤ s'.toks ∧ EP X pins σ Q u s') X.xe s
/-- a sign whose token is out -/
def EPK (X : L2.Cx) (pins : List (Addr × Obj)) (σ : L2.St) (Q : VK) (u : Value) (s' : Shared) : Prop := ∃ c tk H', Inv X pins σ H' s' ∧ u = .str ⟨#[c]⟩ tk ∧ tk ≠ 0 ∧ tk < s'.toks ∧ Q (.str ⟨#[c]⟩) H'
structure PEK (X : L2.Cx) (e : PySem.Expr) (t : TE) : Prop where
  run : ∀ (pins : List (Addr × Obj)) (s : Shared) (σ : L2.St) (H : Hp) (Q : VK), Inv X pins σ H s → t σ H Q → wpAny (model X.prog X.w) X.A (eval e X.env) (EPK X pins σ Q) X.xe s
/-- such a sign stands in y -/
def KnS (X : L2.Cx) (y : Str) (i : Nat) (s : Shared) (σ : L2.St) : Prop := ∃ m c tk, s.heap.Ns X.env.locals m ∧ m y = some (.str ⟨#[c]⟩ tk) ∧ tk ≠ 0 ∧ tk < s.toks ∧ σ[i]? = some (some (.str ⟨#[c]⟩))
structure PEn (X : L2.Cx) (y : Str) (i : Nat) (e : PySem.Expr) (t : TE) : Prop where
  run : ∀ (pins : List (Addr × Obj)) (s : Shared) (σ : L2.St) (H : Hp) (Q : VK), KnS X y i s σ → Inv X pins σ H s → t σ H Q → wpAny (model X.prog X.w) X.A (eval e X.env) (EP X pins σ Q) X.xe s
structure PAn (X : L2.Cx) (y : Str) (i : Nat) (es : List PySem.Expr) (t : TA) : Prop where
  run : ∀ (pos : Pos) (pins : List (Addr × Obj)) (s : Shared) (σ : L2.St) (H : Hp) (Q : List V → Hp → Prop), KnS X y i s σ → Inv X pins σ H s → t σ H Q → wpAny (model X.prog X.w) X.A (spliced (backTo pos (starEach es X.env))) (AP X pins σ Q) X.xe s

def tLenS (i : Nat) : TE := fun σ H Q => ∃ z, σ[i]? = some (some (.str z)) ∧ z.length ≤ sizeLine ∧ Q (.int z.length) H
/-- len(text) -/
theorem pe1_len {i : Nat} {x : Str} {p px pos : Pos} (hN : X.N[i]? = some x) (hv : Vis X.env.scope x) (hg : Gl X "len") (hm : X.mg "len" = none) (hd : (x == ("__debug__" : Str)) = false) (hcd : (x == ("__classdict__" : Str)) = false) :
    PE1 X (.Call (.Name "len" p) [.Name x px] [] pos) (tLenS i) := by
  refine ⟨fun pins s σ H Q I h => ?_⟩
  obtain ⟨z, e1, hz, q⟩ := h
  have hn := line63
  refine wpAny_Call_Name_kw (ld_blt I hg hm (u := .builtin "len") (by rfl) ?_ (by decide) (by decide))
  refine PyProof.Rows.callWith_builtin1 ?_ rfl rfl
  show wpAny _ _ (spliced ((false, eval (.Name x px) X.env) :: backTo pos (starEach [] X.env))) _ _ s
  refine Calls.spliced_cons (raw_name hN hv I e1 (fun u r => Calls.spliced_nil ?_) hd hcd)
  obtain ⟨t, rfl⟩ := r
  exact len_str (by omega) ⟨by simp, .int z.length, H, I.tok _, ⟨_, rfl⟩, q⟩
/-- f(p, e), the second one of that kind -/
theorem pe1_call2 {E : XK} {k : Nat} {f : Addr} {fd : FuncData} {ps : List Str} {sp : Sp} {g : Str} {p pos : Pos} {a b : PySem.Expr} {ta tb : TE} (F : FnG X.prog X.w X.K X.mg X.base k f fd ps sp) (hr : Room k X.A) (hgd : X.A.guards = some []) (hg : Gl X g) (hm : X.mg g = some (.ref f)) (hk : PySem.W.keepIn X.K (.ref f) = true) (hb : Binds X.K fd ps [])
    (hx : Passes (L2.CX X.prog X.w) X E) (ha : PE X a ta) (hbb : PE1 X b tb) (hdb : (g == ("__debug__" : Str)) = false) (ha1 : notStar a = true) (hb1 : notStar b = true) :
    PE1 X (.Call (.Name g p) [a, b] [] pos) (fun σ H Q => ta σ H fun x H1 => tb σ H1 fun y H2 => sp [x, y] H2 Q E) := by
  refine ⟨fun pins s σ H Q I h => ?_⟩
  refine wpAny_Call_Name_kw (ld_glob I hg hm ?_ hdb)
  refine PySem.W.callWith_K (h₀ := X.base) I.ok.mod.kin hk ?_ (star_of ha1 _ _) (by rw [star_of hb1]; rfl)
  rw [star_of ha1, star_of hb1]
  show wpAny _ _ (spliced ((false, eval a X.env) :: (false, eval b X.env) :: backTo pos (starEach [] X.env))) _ _ s
  refine Calls.spliced_cons (thn (ha.run pins s σ H _ I h) fun u s1 ⟨x, H1, I1, r1, q1⟩ => ?_)
  refine Calls.spliced_cons (thn (hbb.run pins s1 σ H1 _ I1 q1) fun w s2 ⟨h1, y, H2, I2, r2, q2⟩ => Calls.spliced_nil ⟨I2.kIn, ?_⟩)
  exact wpAny_mono (PySem.wpAny_toks_of h1 (runG F hr hgd hb hx I2 (.cons r1 (.cons r2 .nil)) q2)) (fun _ _ z => z) fun _ _ z => z.2
def tIxS (i : Nat) (tb : TE) : TE := fun σ H Q => ∃ z, σ[i]? = some (some (.str z)) ∧ z.length ≤ sizeLine ∧ tb σ H fun y H1 => ∃ k c, y = .int k ∧ atI z.cps.toList k = some c ∧ Q (.str ⟨#[c]⟩) H1
/-- text[e] -/
theorem pek_ix {i : Nat} {x : Str} {p pos : Pos} {b : PySem.Expr} {tb : TE} (hN : X.N[i]? = some x) (hv : Vis X.env.scope x) (hb : PE1 X b tb) (hs : PlainIx b) (hd : (x == ("__debug__" : Str)) = false) (hcd : (x == ("__classdict__" : Str)) = false) :
    PEK X (.Subscript (.Name x p) b pos) (tIxS i tb) := by
  refine ⟨fun pins s σ H Q I h => ?_⟩
  obtain ⟨z, e1, hz, h⟩ := h
  refine Subscript_ (raw_name hN hv I e1 (fun u r => ?_) hd hcd)
  obtain ⟨t, rfl⟩ := r
  refine thn (hb.run pins s σ H _ I h) fun w s2 ⟨h1, y, H2, I2, r2, k, c, ey, he, q⟩ => ?_
  subst ey
  obtain ⟨t', rfl⟩ := r2
  obtain ⟨j, g1, g2, g3, g4, g5⟩ := atI_get he
  have hl : z.cps.toList.length = z.length := by simp [Str.length]
  rw [hl] at g1 g4 g5
  have hn := line63
  refine tail_any (typeIs_str s2 z t) slot_str_getitem.lookup (getItem_str (c := c) (by
    have e1 : decide (k < -(2 ^ 63 : Int)) = false := decide_eq_false (by omega)
    have e2 : decide (k ≥ 2 ^ 63) = false := decide_eq_false (by omega)
    rw [e1, e2, Bool.or_false]) (by rw [g1]; simpa using g2) ⟨c, s2.toks, H2, I2.tok _, rfl, ?_, ?_, q⟩) (hs _ _)
  · exact fun e => by rw [e] at h1; exact absurd h1 (by decide)
  · show s2.toks < s2.toks + 1
    exact Nat.lt_succ_self _
/-- y = e -/
theorem psk_set {e : PySem.Expr} {te : TE} {y : Str} {i : Nat} {p1 pos : Pos} {pins : List (Addr × Obj)} {s : Shared} {σ : L2.St} {H : Hp} {R : L2.St → Hp → Prop} (hN : X.N.Nodup) (hi : X.N[i]? = some y) (hk : X.env.scope.names.lookup y = some .local) (he : PEK X e te)
    (hs : swapsWith e (some (.Name y p1)) pos.line X.env = pure false) (I : Inv X pins σ H s) (h : te σ H fun v H1 => R (σ.set i (some v)) H1) :
    wpAny (model X.prog X.w) X.A (exec (.Assign [.Name y p1] e pos) X.env) (fun f s' => f = .next ∧ ∃ σ' H', Inv X pins σ' H' s' ∧ R σ' H' ∧ KnS X y i s' σ') X.xe s := by
  refine wpAny_Assign_Name (thn (he.run pins s σ H _ I h) fun v s1 ⟨c, tk, H1, I1, ev, t0, t1, q1⟩ => ?_) hs
  subst ev
  have hcls : (X.env.scope.kind == .class || (X.env.scope.kind == .module && X.env.locals != X.env.globals)) = false := by rw [I.ok.kind]; rfl
  have hiσ : i < σ.length := by rw [I.len]; exact (List.getElem?_eq_some_iff.mp hi).1
  obtain ⟨m, hn, hl⟩ := id I1.loc
  have cne := I1.cne
  obtain ⟨oL, _, _, hoL, _⟩ := id hn
  refine wpAny_storeName_local hk hn (fun h' hn' sb => ?_) hcls
  have other : ∀ {b : Addr} {o : Obj}, s1.heap.get? b = some o → b ≠ X.env.locals → h'.get? b = some o := fun {b o} e n => (sb.2 b n).trans e
  have old : ∀ {b : Addr} {o : Obj}, X.s_0.heap.get? b = some o → b ≠ X.env.locals := fun {b o} e => Nat.ne_of_lt (Nat.lt_of_lt_of_le (Heap.lt_size e) I1.ok.above)
  refine ⟨rfl, σ.set i (some (.str ⟨#[c]⟩)), H1, ?_, q1, ⟨_, c, tk, hn', by simp, t0, Nat.lt_succ_of_lt t1, by rw [List.getElem?_set_self hiσ]⟩⟩
  refine ⟨I1.ok, I1.os, I1.bare, ⟨fun b o e n hb hx => other (I1.base.keep b o e n hb hx) (old e), fun b o e n hb hx => ?_, I1.base.free, fun b o e hx => ?_, I1.base.tups, I1.base.frzs, I1.base.tbls⟩, ⟨_, hn', fun j z v' e1 e2 e3 => ?_⟩, fun z c' e => ?_, I1.free, I1.freeC, fun p hp => ?_, fun b ob e => ?_, by simpa using I1.len⟩
  · obtain ⟨sl, e1⟩ := I1.base.slot b o e n hb hx
    exact ⟨sl, other e1 (old e)⟩
  · obtain ⟨o', e1⟩ := I1.base.there b o e hx
    exact ⟨o', other e1 (old e)⟩
  · by_cases hj : j = i
    · subst hj
      rw [hi] at e1
      cases e1
      rw [List.getElem?_set_self hiσ] at e2
      cases e2
      exact ⟨.str ⟨#[c]⟩ tk, ⟨tk, rfl⟩, .inl ⟨hk, by simp⟩⟩
    · rw [List.getElem?_set_ne (Ne.symm hj)] at e2
      obtain ⟨u', r', q⟩ := hl j z v' e1 e2 e3
      refine ⟨u', r', ?_⟩
      rcases q with ⟨k, e⟩ | ⟨k, c', e, w⟩
      · have : z ≠ y := fun e => hj (nodup_ix hN e1 (e ▸ hi))
        exact .inl ⟨k, by simp [this, e]⟩
      · exact .inr ⟨k, c', e, w.sameBut sb (cne z c' e)⟩
  · obtain ⟨w', w⟩ := I1.cell z c' e
    exact ⟨w', w.sameBut sb (cne z c' e)⟩
  · obtain ⟨e, n, ne, nf, d⟩ := I1.pin p hp
    exact ⟨other e ne, n, ne, nf, d⟩
  · have hfree := I1.free
    refine (I1.hok b ob e).stay (fun c' w' hc q => (sb.2 c' ?_).trans q) (fun _ q => q) fun _ _ q => q
    rintro rfl
    rcases hc with rfl | hc
    · rw [hfree] at e; cases e
    · rw [hfree] at hc; cases hc
/-- text.replace(y, "") -/
def tRp (iz iy : Nat) : TE := fun σ H Q => ∃ a c, σ[iz]? = some (some (.str a)) ∧ σ[iy]? = some (some (.str ⟨#[c]⟩)) ∧ a.length ≤ 16777216 ∧ Q (.str (Txt.replace a ⟨#[c]⟩ ⟨#[]⟩)) H
theorem pen_repl {iz iy : Nat} {z y : Str} {j0 : Nat} {p1 p2 c0 apos pos : Pos} (hNz : X.N[iz]? = some z) (hvz : Vis X.env.scope z) (hk : X.env.scope.names.lookup y = some .local)
    (hdz : (z == ("__debug__" : Str)) = false) (hcz : (z == ("__classdict__" : Str)) = false) (hdy : (y == ("__debug__" : Str)) = false) (hline : (apos.endLine == pos.line) = true) :
    PEn X y iy (.Call (.Attribute (.Name z p1) "replace" apos) [.Name y p2, .Constant (.str ⟨#[]⟩) j0 c0] [] pos) (tRp iz iy) := by
  refine ⟨fun pins s σ H Q K I h => ?_⟩
  obtain ⟨a, c, ea, ec, hz, q⟩ := h
  obtain ⟨m, c', tk, hn, hm, t0, t1, ec'⟩ := K
  rw [ec] at ec'
  have e : c = c' := by
    have := Option.some.inj (Option.some.inj ec')
    injection this with this
    have := congrArg Str.cps this
    simpa using this
  subst e
  have hst : starEach [.Name y p2, .Constant (.str ⟨#[]⟩) j0 c0] X.env = [(false, eval (.Name y p2) X.env), (false, eval (.Constant (.str ⟨#[]⟩) j0 c0) X.env)] := rfl
  refine PySem.Call_method2 rfl hst hline (raw_name hNz hvz I ea (fun v r => ?_) hdz hcz)
  obtain ⟨tx, rfl⟩ := r
  refine ⟨"str", _, F.plainAttrs_str, F.slot_str_replace, F.type_str_replace, typeIs_str _ _ _, (fun _ e => nomatch e), Calls.callWith_builtin rfl (Calls.evalArgs_plain (Calls.spliced_cons ?_))⟩
  refine wpAny_Name (wpAny_loadName_local I.ok.kind hk hn hm ?_) hdy
  refine Calls.spliced_cons (Calls.Constant_str (Calls.spliced_nil ?_))
  refine PySem.SC.replace t0 (fun e => by rw [e] at t1; exact absurd t1 (Nat.not_lt_zero _)) (Nat.ne_of_lt t1) (by rfl) (by
    show a.length + (a.length + 1) * 0 ≤ _
    omega) fun t' k => ⟨.str (Txt.replace a ⟨#[c]⟩ ⟨#[]⟩), H, I.tok k, ⟨t', rfl⟩, q⟩
/-- f(p, e) -/
theorem pen_call2 {E : XK} {k : Nat} {f : Addr} {fd : FuncData} {ps : List Str} {sp : Sp} {g y x : Str} {i ix : Nat} {p px pos : Pos} {b : PySem.Expr} {tb : TE} (F : FnG X.prog X.w X.K X.mg X.base k f fd ps sp) (hr : Room k X.A) (hgd : X.A.guards = some []) (hg : Gl X g) (hm : X.mg g = some (.ref f)) (hk : PySem.W.keepIn X.K (.ref f) = true) (hb : Binds X.K fd ps [])
    (hx : Passes (L2.CX X.prog X.w) X E) (hN : X.N[ix]? = some x) (hv : Vis X.env.scope x) (hd : (x == ("__debug__" : Str)) = false) (hcd : (x == ("__classdict__" : Str)) = false) (hbb : PEn X y i b tb) (hdb : (g == ("__debug__" : Str)) = false) (hb1 : notStar b = true) :
    PEn X y i (.Call (.Name g p) [.Name x px, b] [] pos) (fun σ H Q => ∃ v, σ[ix]? = some (some v) ∧ tb σ H fun y H2 => sp [v, y] H2 Q E) := by
  refine ⟨fun pins s σ H Q K I h => ?_⟩
  obtain ⟨v, ev, h⟩ := h
  refine wpAny_Call_Name_kw (ld_glob I hg hm ?_ hdb)
  refine PySem.W.callWith_K (h₀ := X.base) I.ok.mod.kin hk ?_ (star_of rfl _ _) (by rw [star_of hb1]; rfl)
  rw [star_of rfl, star_of hb1]
  show wpAny _ _ (spliced ((false, eval (.Name x px) X.env) :: (false, eval b X.env) :: backTo pos (starEach [] X.env))) _ _ s
  refine Calls.spliced_cons (raw_name hN hv I ev (fun u r1 => ?_) hd hcd)
  refine Calls.spliced_cons (thn (hbb.run pins s σ H _ K I h) fun w s2 ⟨y, H2, I2, r2, q2⟩ => Calls.spliced_nil ⟨I2.kIn, ?_⟩)
  exact runG F hr hgd hb hx I2 (.cons r1 (.cons r2 .nil)) q2
/-- (e, ..) -/
theorem pan_cons {y : Str} {i : Nat} {e : PySem.Expr} {es : List PySem.Expr} {te : TE} {ta : TA} (h1 : PEn X y i e te) (h2 : PA X es ta) (hs : notStar e = true) : PAn X y i (e :: es) (tCons te ta) := by
  refine ⟨fun pos pins s σ H Q K I h => ?_⟩
  rw [star_of hs]
  show wpAny _ _ (spliced ((false, eval e X.env) :: backTo pos (starEach es X.env))) _ _ s
  refine Calls.spliced_cons (thn (h1.run pins s σ H _ K I h) fun u s1 ⟨x, H1, I1, r1, q1⟩ => ?_)
  exact thn (h2.run pos pins s1 σ H1 _ I1 q1) fun us s2 ⟨xs, H2, I2, r2, q2⟩ => ⟨x :: xs, H2, I2, .cons r1 r2, q2⟩
theorem pen_tup {y : Str} {i : Nat} {es : List PySem.Expr} {t : TA} {x1 : Nat} {pos : Pos} (h : PAn X y i es t) : PEn X y i (.Tuple es x1 pos) (tTupN t) := by
  refine ⟨fun pins s σ H Q K I hq => ?_⟩
  refine wpAny_Tuple_spliced (thn (h.run pos pins s σ H _ K I hq) fun us s1 ⟨xs, H1, I1, r, z, q⟩ => ⟨by rw [← r.length]; exact z, ?_⟩)
  exact tupN_end I1 r z q
/-- y = e1; w = e2, y read in e2 -/
theorem pss_rep {e1 e2 : PySem.Expr} {t1 t2 : TE} {y w : Str} {i j : Nat} {p1 q1 p2 q2 : Pos} {rest : List Stmt} {u : TS} (hN : X.N.Nodup) (hi : X.N[i]? = some y) (hj : X.N[j]? = some w) (hk : X.env.scope.names.lookup y = some .local) (hw : Loc X.env.scope w) (hf : X.fn w = true)
    (h1 : PEK X e1 t1) (h2 : PEn X y i e2 t2) (hr : PSs X rest u) (s1 : swapsWith e1 (some (.Name y p1)) q1.line X.env = pure false) (s2 : swapsWith e2 (some (.Name w p2)) q2.line X.env = pure false) :
    PSs X (.Assign [.Name y p1] e1 q1 :: .Assign [.Name w p2] e2 q2 :: rest) (tSeq (tAsg t1 (gName i)) (tSeq (tAsg t2 (gName j)) u)) := by
  refine ⟨fun pins s σ H D I h => ?_⟩
  refine wpAny_execs_cons (thn (psk_set (R := tSeq (tAsg t2 (gName j)) u D) hN hi hk h1 s1 I h) fun f s1 q => ?_)
  obtain ⟨rfl, σ1, H1, I1, q, K⟩ := q
  refine wpAny_execs_cons ?_
  refine wpAny_Assign_Name (thn (h2.run pins s1 σ1 H1 _ K I1 q) fun v s2 ⟨x, H2, I2, r2, q2⟩ => ?_) s2
  exact store_ok I2 hN hj hw r2 (fun s3 I3 => hr.run pins s3 _ H2 D I3 q2) (.inl hf)
end
end Dn

/-! Dn15 -/
set_option Elab.async false
set_option linter.all false
set_option maxRecDepth 100000
set_option maxHeartbeats 1000000
/-! Dn15: defs. -/
namespace Dn
open PySem PySem.Spec PyProof.Rows L2

/-- one def of the text, and its core -/
structure DefOk (T : Tb) (Nn : Tn) (K : PySem.W.Frag) (mg : Str → Option Value) (f : Nat) (x : Str) : Prop where
  ex : ∃ (a : Addr) (fd : FuncData) (ps N : List Str) (params : Arguments) (body : List Stmt) (scope : Scope) (fn : Fn), T.fns[f]? = some fn ∧ mg x = some (.ref a) ∧ PySem.W.keepIn K (.ref a) = true ∧ Binds K fd ps [] ∧
    FunD K x x params body scope [] [] a fd ∧ FnScope N ps scope ∧ fn.modes.length = ps.length ∧ fn.ns = N.length ∧ ∀ n, SSs T Nn n N scope body fn.body
section
variable {T : Tb} {Nn : Tn} {P : Program} {w : World} {K : PySem.W.Frag} {mg : Str → Option Value} {base : Heap}
theorem bindA_len : ∀ {ms : List Bool} {rs : List R} {ρ : Env}, bindA ms rs = some ρ → rs.length = ms.length ∧ ρ.length = ms.length
  | [], [], _, e => by cases e; exact ⟨rfl, rfl⟩
  | [], _ :: _, _, e => by cases e
  | _ :: _, [], _, e => by cases e
  | b :: ms, r :: rs, ρ, e => by
    have e : ((if b && r.isCont then some (Sl.bor r.d) else r.keep.map Sl.val).bind fun s => (bindA ms rs).map (s :: ·)) = some ρ := e
    obtain ⟨s, _, e2⟩ := Option.bind_eq_some_iff.mp e
    obtain ⟨ρ', e3, rfl⟩ := Option.map_eq_some_iff.mp e2
    obtain ⟨h1, h2⟩ := bindA_len e3
    exact ⟨congrArg (· + 1) h1, congrArg (· + 1) h2⟩
theorem bindA_slots {W : Wd} {G : Hp} : ∀ {ms : List Bool} {vs : List V} {rs : List R} {ρ : Env}, bindA ms rs = some ρ → Paired (ArgR K W G) vs rs → ∀ (i : Nat) (s : Sl), ρ[i]? = some s → (∃ v, vs[i]? = some v ∧ SlotS K W G G (some (some v)) s) ∧ ∀ d, s ≠ .own d
  | [], _, [], _, e, _, i, s, h => by cases e; simp at h
  | [], _, _ :: _, _, e, _, _, _, _ => by cases e
  | _ :: _, _, [], _, e, _, _, _, _ => by cases e
  | b :: ms, _, r :: rs, ρ, e, .cons (a := v) (l₁ := vs) q t, i, s, h => by
    have e : ((if b && r.isCont then some (Sl.bor r.d) else r.keep.map Sl.val).bind fun s => (bindA ms rs).map (s :: ·)) = some ρ := e
    obtain ⟨s0, e1, e2⟩ := Option.bind_eq_some_iff.mp e
    obtain ⟨ρ', e3, rfl⟩ := Option.map_eq_some_iff.mp e2
    cases i with
    | succ i =>
      obtain ⟨h1, h2⟩ := bindA_slots e3 t i s (by simpa using h)
      exact ⟨by simpa using h1, h2⟩
    | zero =>
      have h : s0 = s := by simpa using h
      subst h
      by_cases hb : (b && r.isCont) = true
      · rw [if_pos hb] at e1
        cases e1
        exact ⟨⟨v, rfl, v, rfl, q.1⟩, fun d z => by cases z⟩
      · rw [if_neg hb] at e1
        obtain ⟨d, e4, rfl⟩ := Option.map_eq_some_iff.mp e1
        exact ⟨⟨v, rfl, v, rfl, (q.2 d e4).2⟩, fun d z => by cases z⟩
theorem start_sr {W : Wd} {G : Hp} {ms : List Bool} {vs : List V} {rs : List R} {ρ : Env} {N : List Str} (e : bindA ms rs = some ρ) (p : Paired (ArgR K W G) vs rs) (hl : ρ.length ≤ N.length) : SR K W G G (L2.start N vs) (ρ ++ List.replicate (N.length - ρ.length) .un) := by
  have hv : vs.length = ρ.length := by rw [p.length, (bindA_len e).1, (bindA_len e).2]
  have noown : ∀ {i : Nat} {d : D}, (ρ ++ List.replicate (N.length - ρ.length) Sl.un)[i]? ≠ some (.own d) := fun {i d} h => by
    by_cases hi : i < ρ.length
    · rw [List.getElem?_append_left hi] at h
      exact (bindA_slots e p i _ h).2 d rfl
    · rw [List.getElem?_append_right (by omega), List.getElem?_replicate] at h
      split at h <;> cases h
  refine ⟨by unfold L2.start; simp; omega, fun i s h => ?_, fun i j d e a h => absurd h noown, Same.refl _⟩
  by_cases hi : i < ρ.length
  · rw [List.getElem?_append_left hi] at h
    obtain ⟨⟨v, h1, h2⟩, _⟩ := bindA_slots e p i _ h
    unfold L2.start
    rw [List.getElem?_append_left (by simp; omega), List.getElem?_map, h1]
    exact h2
  · rw [List.getElem?_append_right (by omega), List.getElem?_replicate] at h
    split at h
    · cases h; exact True.intro
    · cases h
/-- a def by its body -/
theorem fnG_of {x : Str} {params : Arguments} {body : List Stmt} {scope : Scope} {f : Addr} {fd : FuncData} {N ps : List Str} {k : Nat} {sp : Sp} (F : FunD K x x params body scope [] [] f fd) (S : FnScope N ps scope) (len : ∀ vs H Q E, sp vs H Q E → vs.length = ps.length)
    (hbody : ∀ (cdv : Value) (A : Around) (outer : List PySem.Env) (s : Shared) (H : Hp) (vs : List V) (Q : VK) (E : XK), Room k (A.deeper (envOfC x scope s.heap.objs.size f cdv)) → A.guards = some [] → sp vs H Q E →
      ∃ t, PSs (cxOf (L2.CX P w) P w K mg base N x scope f cdv A outer s H E) body t ∧ t { nx := fun _ H' => Q .non H', rt := Q } (L2.start N vs) H) : FnG P w K mg base (k + 1) f fd ps sp := by
  obtain ⟨oc, od, dV, kV, doc, pm, an, cdv, ct, osl, rfl, lk, hcd, _, _⟩ := F.ex
  refine ⟨len, fun A outer s H args us vs Q E hr hgd e0 hb r hsp => ?_⟩
  have hl := len _ _ _ _ hsp
  have KX : K.In s.heap := e0.mod.kin.keeps fun b o e => (e0.bs b o e).1
  have lim : s.heap.NoLimit := e0.mod.nolimit.keeps fun b o e => (e0.bs b o e).1
  have hkind : ∀ y ∈ ps.zip us, scope.names.lookup y.1 = some .local ∨ (scope.names.lookup y.1 = some .cell ∧ ((cellsFrom (s.heap.objs.size + 1) scope.names []).lookup y.1).isSome = true) := fun ⟨n, v⟩ hy => by
    rcases S.par n (List.of_mem_zip hy).1 with q | q
    · exact .inl q
    · exact .inr ⟨q, PySem.W.cellsFrom_some _ _ _ (.inl q)⟩
  refine codeAny_call_function hr.depth (KX _ _ lk) rfl S.co S.gen rfl (PySem.W.codeRec_of KX hcd) (hb _ _ _ _ ?_)
  refine wpAny_newFunctionEnv_cells S.kind hkind fun env he s1 x => ?_
  subst he
  refine ⟨lim.keeps x.toInCall.keep, codeAny_func ?_⟩
  obtain ⟨t, ht, hq⟩ := hbody cdv A outer s H vs Q E (hr.deeper _) hgd hsp
  have I := inv_start (CX := L2.CX P w) (cd := cdv) (qual := _) (f := f) (E := E) S hr.hd e0 hl r x
  refine wpAny_mono (ht.run [] s1 _ H _ I hq) (fun fl s' hs => ?_) fun e s' hs => hs
  cases fl with
  | ret u =>
    obtain ⟨v, σ', H', J, rv, q⟩ := hs
    exact ⟨v, H', J.os, J.bare, J.base, J.hok, rv, q⟩
  | next =>
    obtain ⟨σ', H', J, q⟩ := hs
    exact ⟨V.non, H', J.os, J.bare, J.base, J.hok, rfl, q⟩
  | brk =>
    obtain ⟨_, _, _, q⟩ := hs
    exact False.elim q
  | cont =>
    obtain ⟨_, _, _, q⟩ := hs
    exact False.elim q
theorem fn_ok {n : Nat} (B : BaseOk T Nn P w K mg base n) {f : Nat} {x : Str} (D0 : DefOk T Nn K mg f x) :
    ∃ (a : Addr) (fd : FuncData) (ps : List Str), mg x = some (.ref a) ∧ PySem.W.keepIn K (.ref a) = true ∧ Binds K fd ps [] ∧ FnG P w K mg base (n + 1) a fd ps (spF T Nn mg K (n + 1) f) := by
  obtain ⟨a, fd, ps, N, params, body, scope, fn, h1, h2, h3, h4, F, S, h5, h6, h7⟩ := D0.ex
  refine ⟨a, fd, ps, h2, h3, h4, fnG_of F S (fun vs H Q E h => ?_) fun cdv A outer s H vs Q E hr hgd h => ?_⟩
  · obtain ⟨W, G, m, rs, hr, p, po⟩ := h
    have po : Post Nn mg K G W ((match T.fns[f]? with | some fn => runF ⟨callF T n, T.gl, T.rp, T.wf⟩ fn rs | none => M.stuck : M R) m) Q E := po
    rw [h1] at po
    unfold runF at po
    dsimp only at po
    cases e : bindA fn.modes rs with
    | none => rw [e] at po; exact po.elim
    | some ρ => rw [p.length, (bindA_len e).1, h5]
  · obtain ⟨W, G, m, rs, hr', p, po⟩ := h
    have XS : XSt T Nn n N scope E (cxOf (L2.CX P w) P w K mg base N x scope a cdv A outer s H E) :=
      ⟨⟨B, rfl, S.nd, rfl, rfl, hr, hgd, L2.passes_call (L2.takes_of rfl rfl rfl rfl) (fun _ _ _ _ h => h)⟩, fun _ => rfl, L2.passes_of rfl, S.kind⟩
    obtain ⟨t, ps', sn⟩ := h7 n E _ XS
    refine ⟨t, ps', ?_⟩
    have po : Post Nn mg K G W ((match T.fns[f]? with | some fn => runF ⟨callF T n, T.gl, T.rp, T.wf⟩ fn rs | none => M.stuck : M R) m) Q E := po
    rw [h1] at po
    have po : Post Nn mg K G W (match bindA fn.modes rs with
      | none => .st
      | some ρ => (match exSs (cxE T n) fn.body (ρ ++ List.replicate (fn.ns - ρ.length) .un) m with
        | .ok (.nx _) m => .ok ⟨.v, .non⟩ m
        | .ok (.rt r) m => .ok r m
        | .ok _ _ => .st
        | .ex x _ m => .ex x m
        | .st => .st)) Q E := po
    cases e : bindA fn.modes rs with
    | none => rw [e] at po; exact po.elim
    | some ρ =>
      rw [e, h6] at po
      have po : Post Nn mg K G W (match exSs (cxE T n) fn.body (ρ ++ List.replicate (N.length - ρ.length) .un) m with
        | .ok (.nx _) m => .ok ⟨.v, .non⟩ m
        | .ok (.rt r) m => .ok r m
        | .ok _ _ => .st
        | .ex x _ m => .ex x m
        | .st => .st) Q E := po
      have hpl : ps.length ≤ N.length := by have := congrArg List.length S.pre; rw [List.length_take] at this; omega
      refine sn _ m G G W _ H _ (start_sr e p (by rw [(bindA_len e).2, h5]; exact hpl)) hr' ?_
      cases ee : exSs (cxE T n) fn.body (ρ ++ List.replicate (N.length - ρ.length) .un) m with
      | ok fl m2 =>
        rw [ee] at po
        cases fl with
        | nx r2 => exact fun W' G' sg' H' l h' s' => po W' H' .non l (h'.unguard s'.sub) .non
        | rt r2 => exact fun W' H' v l h' q => po W' H' v l h' q
        | br _ => exact po.elim
        | ct _ => exact po.elim
      | ex z r2 m2 => rw [ee] at po; exact po
      | st => rw [ee] at po; exact po
/-- all defs of the text keep their promises -/
theorem base_ok (hrp : T.rp = rpD) (hf : ∀ x ∈ (["len", "tuple", "sorted", "int", "repr", "sum", "all", "any", "dict", "abs", "set", "list", "min", "isinstance", "range", "enumerate", "zip", "str", "bool"] : List Str), mg x = none)
    (hg : ∀ (k : Nat) (x : Str), Nn.gn[k]? = some x → ∃ u v d, mg x = some u ∧ RelV v u ∧ T.gl[k]? = some d ∧ ∀ W, RV K W v d)
    (hd : ∀ (f : Nat) (x : Str), Nn.fn[f]? = some x → DefOk T Nn K mg f x) : ∀ n, BaseOk T Nn P w K mg base n
  | 0 => ⟨hrp, hf, hg, fun f x e => by
      obtain ⟨a, fd, ps, N, params, body, scope, fn, h1, h2, h3, h4, F, S, h5, h6, h7⟩ := (hd f x e).ex
      have no : ∀ vs H Q E, spF T Nn mg K 0 f vs H Q E → False := fun vs H Q E h => by
        obtain ⟨W, G, m, rs, hr, p, po⟩ := h
        exact po.elim
      exact ⟨a, fd, ps, h2, h3, h4, ⟨fun vs H Q E h => (no _ _ _ _ h).elim, fun A outer s H args us vs Q E _ _ _ _ _ h => (no _ _ _ _ h).elim⟩⟩⟩
  | n + 1 => ⟨hrp, hf, hg, fun f x e => fn_ok (base_ok hrp hf hg hd n) (hd f x e)⟩
end
end Dn

/-! Dn16 -/
set_option Elab.async false
set_option linter.all false
set_option maxRecDepth 100000
set_option maxHeartbeats 1000000
/-! Dn16: the look at a text and its core. -/
namespace Dn
open PySem PySem.Spec PyProof.Rows L2

def okN (z : Str) : Bool := !(z == ("__debug__" : Str)) && !(z == ("__classdict__" : Str))
def visB (sc : Scope) (z : Str) : Bool := match sc.names.lookup z with
  | some .local => true | some .cell => true | some .free => true | _ => false
def locB (sc : Scope) (z : Str) : Bool := match sc.names.lookup z with
  | some .local => true | some .cell => true | _ => false
def gloB (sc : Scope) (z : Str) : Bool := match sc.names.lookup z with
  | some .globalImplicit => true | _ => false
theorem okN_ok {z : Str} (h : okN z = true) : (z == ("__debug__" : Str)) = false ∧ (z == ("__classdict__" : Str)) = false := by
  unfold okN at h
  rw [Bool.and_eq_true, Bool.not_eq_true', Bool.not_eq_true'] at h
  exact h
theorem visB_ok {sc : Scope} {z : Str} (h : visB sc z = true) : Vis sc z := by
  unfold visB at h
  split at h <;> first | (cases h; done) | skip
  · exact .inl (by assumption)
  · exact .inr (.inl (by assumption))
  · exact .inr (.inr (by assumption))
theorem locB_ok {sc : Scope} {z : Str} (h : locB sc z = true) : Loc sc z := by
  unfold locB at h
  split at h <;> first | (cases h; done) | skip
  · exact .inl (by assumption)
  · exact .inr (by assumption)
theorem gloB_ok {sc : Scope} {z : Str} (h : gloB sc z = true) : sc.names.lookup z = some .globalImplicit := by
  unfold gloB at h
  split at h <;> first | (cases h; done) | assumption
/-- one operand of and, or: the operand -/
def one : PySem.Expr → PySem.Expr
  | .BoolOp _ [a] _ => a
  | e => e
def notIf (_ : PySem.Expr) : Bool := true
def isBo : PySem.Expr → Bool
  | .BoolOp .. => true
  | _ => false
def bopB : Bop → Operator → Bool
  | .add, .Add => true | .sub, .Sub => true | .mul, .Mult => true | .mod, .Mod => true | .fdiv, .FloorDiv => true | .pow, .Pow => true | _, _ => false
def conB : D → PySem.Expr → Bool
  | .non, .Constant .none _ _ => true
  | .bl b, .Constant (.bool c) _ _ => b == c
  | .int i, .Constant (.int j) _ _ => decide (i = j)
  | .str s, .Constant (.str x) _ _ => decide (S s = x) && decide (s.length ≤ 1000) && s.all fun c => decide (c < 1114112)
  | _, _ => false
def b1N : B1 → Option Str
  | .len => some "len" | .tuple => some "tuple" | .int => some "int" | .sum => some "sum" | .all => some "all" | .any => some "any" | .repr => some "repr" | .sorted => some "sorted" | .dict => some "dict" | _ => none
/-- f(set(x)) -/
def setN : B1 → Option Str
  | .lenset => some "len" | .sortset => some "sorted" | _ => none
def isRev : PySem.Expr → Bool
  | .Slice none none (some (.UnaryOp .USub (.Constant (.int i) _ _) _)) _ => decide (i = 1)
  | _ => false
def pairs (N : List Str) (own : List Nat) : List (Str × Nat) := own.filterMap fun i => (N[i]?).map fun x => (x, i)
def blkB (N : List Str) (sc scope : Scope) (own : List (Str × Nat)) : Bool :=
  decide (scope.kind = .function) && scope.names.all (fun y => decide (scope.names.lookup y.1 = some y.2)) && own.all (fun p => decide (N[p.2]? = some p.1)) &&
    scope.names.all (fun y => !decide (y.2 = .free) || (match sc.names.lookup y.1 with | some .cell => true | some .free => true | _ => false)) &&
    scope.names.all (fun y => !(decide (y.2 = .local) || decide (y.2 = .cell)) || (own.map (·.1)).contains y.1 || !N.contains y.1)
theorem blkB_ok {N : List Str} {sc scope : Scope} {own : List (Str × Nat)} (h : blkB N sc scope own = true) : BlkOk N sc scope own := by
  unfold blkB at h
  simp only [Bool.and_eq_true, decide_eq_true_eq, List.all_eq_true, Bool.or_eq_true, Bool.not_eq_true', decide_eq_false_iff_not] at h
  obtain ⟨⟨⟨⟨h1, h2⟩, h3⟩, h4⟩, h5⟩ := h
  refine ⟨h1, h2, h3, fun y hy e => ?_, fun y hy e => ?_⟩
  · rcases h4 y hy with z | z
    · exact absurd e z
    · split at z
      · exact .inl (by assumption)
      · exact .inr (by assumption)
      · cases z
  · rcases h5 y hy with (z | z) | z
    · exfalso
      rw [Bool.or_eq_false_iff, decide_eq_false_iff_not, decide_eq_false_iff_not] at z
      rcases e with e | e
      · exact z.1 e
      · exact z.2 e
    · exact .inl (by simpa using z)
    · exact .inr (by simpa using z)
def tgB (N : List Str) (scope : Scope) (own : List Nat) (tg : PySem.Expr) (c : Tg) : Bool :=
  tgIx N tg c && (tgNms tg).all (fun x => locB scope x) && c.ixs.all fun i => own.contains i

mutual
def chkE (N : List Str) (Nn : Tn) : CE → Scope → PySem.Expr → Bool
  | .var i, sc, e => (match one e with
    | .Name z _ => (N[i]? == some z) && visB sc z && okN z
    | _ => false)
  | .con d, _, e => conB d (one e)
  | .glob k, sc, e => (match one e with
    | .Name z _ => (Nn.gn[k]? == some z) && gloB sc z && okN z
    | _ => false)
  | .tup es, sc, e => (match one e with
    | .Tuple xs _ _ => chkEs N Nn es sc xs && decide (es.len ≤ 1000)
    | _ => false)
  | .lst es, sc, e => (match one e with
    | .List xs _ => chkEs N Nn es sc xs && decide (es.len ≤ 1000)
    | _ => false)
  | .newl es, sc, e => (match one e with
    | .List xs _ => chkEs N Nn es sc xs && decide (es.len ≤ 1000)
    | _ => false)
  | .emp _, _, e => (match one e with
    | .Dict [] [] _ => true
    | _ => false)
  | .bin o a b, sc, e => (match one e with
    | .BinOp x p y _ => decide (p = pyOp o) && chkE N Nn a sc x && chkE N Nn b sc y
    | _ => false)
  | .neg a, sc, e => (match one e with
    | .UnaryOp .USub x _ => chkE N Nn a sc x
    | _ => false)
  | .cmp o a b, sc, e => (match one e with
    | .Compare x [p] [y] _ => decide (p = pyCop o) && notSet y && chkE N Nn a sc x && chkE N Nn b sc y
    | _ => false)
  | .chain o1 o2 a b c, sc, e => (match one e with
    | .Compare x [p, q] [y, z] _ => decide (p = pyCop o1) && decide (q = pyCop o2) && notSet z && chkE N Nn a sc x && chkE N Nn b sc y && chkE N Nn c sc z
    | _ => false)
  | .not a, sc, e => (match one e with
    | .UnaryOp .Not x _ => notIf x && chkE N Nn a sc x
    | _ => false)
  | .and a b, sc, e => (match one e with
    | .BoolOp .And (x :: y :: r) p => notIf x && chkE N Nn a sc x && chkE N Nn b sc (.BoolOp .And (y :: r) p)
    | _ => false)
  | .or a b, sc, e => (match one e with
    | .BoolOp .Or (x :: y :: r) p => notIf x && chkE N Nn a sc x && chkE N Nn b sc (.BoolOp .Or (y :: r) p)
    | _ => false)
  | .ife c a b, sc, e => (match one e with
    | .IfExp z x y _ => notIf z && chkE N Nn c sc z && chkE N Nn a sc x && chkE N Nn b sc y
    | _ => false)
  | .idx a i, sc, e => (match one e with
    | .Subscript x y _ => notSl y && chkE N Nn a sc x && chkE N Nn i sc y
    | _ => false)
  | .slice a lo hi, sc, e => (match one e with
    | .Subscript x (.Slice l h none _) _ => chkE N Nn a sc x && chkO N Nn lo sc l && chkO N Nn hi sc h
    | _ => false)
  | .rev a, sc, e => (match one e with
    | .Subscript x y _ => isRev y && chkE N Nn a sc x
    | _ => false)
  | .fld _ _, _, _ => false
  | .call f es, sc, e => (match one e with
    | .Call (.Name g _) (x :: xs) [] _ => (Nn.fn[f]? == some g) && gloB sc g && okN g && chkEs N Nn es sc (x :: xs)
    | _ => false)
  | .b1 f a, sc, e => (match one e with
    | .Call (.Name g _) [x] [] _ => (match setN f with
      | some g2 => (match x with
        | .Call (.Name h _) [y] [] _ => (g2 == g) && gloB sc g && (h == ("set" : Str)) && gloB sc h && notStar y && chkE N Nn a sc y
        | _ => false)
      | none => (b1N f == some g) && gloB sc g && notStar x && chkE N Nn a sc x)
    | _ => false)
  | .lsti it, sc, e => (match it with
    | .val c => (match one e with
      | .Call (.Name g _) [x] [] _ => (g == ("list" : Str)) && gloB sc g && notStar x && chkE N Nn c sc x
      | _ => false)
    | _ => false)
  | .min2 _ _, _, _ => false
  | .isi t a, sc, e => (match one e with
    | .Call (.Name g _) [x, .Name h _] [] _ => (g == ("isinstance" : Str)) && gloB sc g && (match t.tk with | some k => !decide (k = .non) | none => false) && (h == tyName t) && gloB sc h && notStar x && chkE N Nn a sc x
    | .Call (.Name g _) [x, .Tuple [.Name h _, .Name h2 _] _ _] [] _ => (g == ("isinstance" : Str)) && gloB sc g && decide (t = .intstr) && (h == ("int" : Str)) && gloB sc h && (h2 == ("str" : Str)) && gloB sc h2 && notStar x && chkE N Nn a sc x
    | _ => false)
  | .join a b, sc, e => (match one e with
    | .Call (.Attribute x m ap) [y] [] p => (m == ("join" : Str)) && plainBase x && (ap.endLine == p.line) && notStar y && chkE N Nn a sc x && chkE N Nn b sc y
    | _ => false)
  | .mindex a b, sc, e => (match one e with
    | .Call (.Attribute x m ap) [y] [] p => (m == ("index" : Str)) && plainBase x && (ap.endLine == p.line) && notStar y && chkE N Nn a sc x && chkE N Nn b sc y
    | _ => false)
  | .lindex _ _, _, _ => false
  | .mcount _ _, _, _ => false
  | .mreplace _ _ _, _, _ => false
  | .mstarts a b, sc, e => (match one e with
    | .Call (.Attribute x m ap) [y] [] p => (m == ("startswith" : Str)) && plainBase x && (ap.endLine == p.line) && notStar y && chkE N Nn a sc x && chkE N Nn b sc y
    | _ => false)
  | .mget a b c, sc, e => (match one e with
    | .Call (.Attribute x m ap) [y, z] [] p => (m == ("get" : Str)) && plainBase x && (ap.endLine == p.line) && notStar y && notStar z && chkE N Nn a sc x && chkE N Nn b sc y && chkE N Nn c sc z
    | _ => false)
  | .comp own tg it cond elt, sc, e => (match one e with
    | .ListComp x [⟨y, z, ifs, 0⟩] scope _ => decide ((pairs N own).map (·.2) = own) && blkB N sc scope (pairs N own) && tgB N scope own y tg && notSet z && chkI N Nn it sc y z && chkC N Nn cond (relS scope sc) ifs && chkE N Nn elt (relS scope sc) x
    | _ => false)
  | .sortk _ _, _, _ => false
  | .never, _, _ => true
def chkEs (N : List Str) (Nn : Tn) : CEs → Scope → List PySem.Expr → Bool
  | .nil, _, [] => true
  | .cons c cs, sc, e :: es => notStar e && chkE N Nn c sc e && chkEs N Nn cs sc es
  | _, _, _ => false
def chkO (N : List Str) (Nn : Tn) : CEo → Scope → Option PySem.Expr → Bool
  | .none, _, none => true
  | .some c, sc, some e => chkE N Nn c sc e
  | _, _, _ => false
def chkC (N : List Str) (Nn : Tn) : CEo → Scope → List PySem.Expr → Bool
  | .none, _, [] => true
  | .some c, sc, [e] => notIf e && chkE N Nn c sc e
  | _, _, _ => false
def chkI (N : List Str) (Nn : Tn) : CI → Scope → PySem.Expr → PySem.Expr → Bool
  | .val c, sc, _, e => chkE N Nn c sc e
  | .rng c, sc, _, e => (match e with
    | .Call (.Name g _) [x] [] _ => (g == ("range" : Str)) && gloB sc g && notStar x && chkE N Nn c sc x
    | _ => false)
  | .rng2 a b, sc, _, e => (match e with
    | .Call (.Name g _) [x, y] [] _ => (g == ("range" : Str)) && gloB sc g && notStar x && notStar y && chkE N Nn a sc x && chkE N Nn b sc y
    | _ => false)
  | .enum c, sc, tg, e => (match tg, e with
    | .Tuple .., .Call (.Name g _) [x] [] _ => (g == ("enumerate" : Str)) && gloB sc g && notStar x && chkE N Nn c sc x
    | _, _ => false)
  | .zip a b, sc, tg, e => (match tg, e with
    | .Tuple .., .Call (.Name g _) [x, y] [] _ => (g == ("zip" : Str)) && gloB sc g && notStar x && notStar y && chkE N Nn a sc x && chkE N Nn b sc y
    | _, _ => false)
end
/-- what the stores of a tuple are -/
def swpB (sc : Scope) (ts vs : List PySem.Expr) : Option (Option (List Str)) :=
  let names := ts.filterMap fun
    | .Name id pos => if sc.names.lookup id == some .local && pos.line == (ts.head?.map (·.pos.line)).getD 0 then some id else none
    | _ => none
  if !(ts.length == 2 || ts.length == 3) || vs.length != ts.length then some none
  else if (vs.any fun | .Starred .. => true | _ => false) then some none
  else if names.length != ts.length || names.eraseDups.length != names.length then some none
  else if vs.all (foldedForSure 8) then some none
  else if vs.all (constantsAlone 8) then none
  else some (some names)
theorem swpB_ok {sc : Scope} {ts vs : List PySem.Expr} {k k2 : Nat} {p1 p2 : Pos} {o : Option (List Str)} (hk : sc.kind = .function) (h : swpB sc ts vs = some o) : ∀ env : PySem.Env, env.scope = sc → swappedStores [.Tuple ts k p1] (.Tuple vs k2 p2) env = pure o := by
  intro env he
  have hb : env.blockKind = .function := by unfold Env.blockKind; rw [he, hk]; rfl
  have ky : ∀ y, env.kindOf y = sc.names.lookup y := fun y => by show env.scope.names.lookup y = _; rw [he]
  unfold swappedStores
  unfold swpB at h
  simp only [hb, ky, bne_self_eq_false, Bool.or_false] at h ⊢
  split at h
  · rename_i h1
    cases h
    exact if_pos h1
  · rename_i h1
    refine (if_neg h1).trans ?_
    split at h
    · rename_i h2
      cases h
      exact if_pos h2
    · rename_i h2
      refine (if_neg h2).trans ?_
      split at h
      · rename_i h3
        cases h
        exact if_pos h3
      · rename_i h3
        refine (if_neg h3).trans ?_
        split at h
        · rename_i h4
          cases h
          exact if_pos h4
        · rename_i h4
          refine (if_neg h4).trans ?_
          split at h
          · cases h
          · rename_i h5
            cases h
            exact if_neg h5
def setSw (sc : Scope) (y : Str) (py : Pos) : PySem.Expr → Bool
  | .ListComp _ _ scope pos => sc.kind == .function && sc.names.lookup y == some .local && py.line == pos.line && !(scope.names.any fun (n, k) => n == y && (k == .local || k == .cell))
  | _ => false
def isLc : PySem.Expr → Bool
  | .ListComp _ [_] _ _ => true
  | _ => false
/-! ### right = text[f(p, len(text))]; name = .. text.replace(right, "") .. -/
def cK : CE → Option (Nat × Nat × Nat × Nat)
  | .idx (.var z1) (.call f (.cons (.var p) (.cons (.b1 .len (.var z2)) .nil))) => some (z1, f, p, z2)
  | _ => none
theorem cK_ok {c : CE} {z1 f p z2 : Nat} (h : cK c = some (z1, f, p, z2)) : c = .idx (.var z1) (.call f (.cons (.var p) (.cons (.b1 .len (.var z2)) .nil))) := by
  unfold cK at h
  split at h
  · cases h; rfl
  · cases h
def eK : PySem.Expr → Option (Str × Str × Str × Str × Str)
  | .Subscript (.Name zn _) (.Call (.Name g _) [.Name pn _, .Call (.Name ln _) [.Name zn2 _] [] _] [] _) _ => some (zn, g, pn, ln, zn2)
  | _ => none
theorem eK_ok {e : PySem.Expr} {zn g pn ln zn2 : Str} (h : eK e = some (zn, g, pn, ln, zn2)) : ∃ p1 p2 p3 p4 p5 p6 p7 p8, e = .Subscript (.Name zn p1) (.Call (.Name g p2) [.Name pn p3, .Call (.Name ln p4) [.Name zn2 p5] [] p6] [] p7) p8 := by
  unfold eK at h
  split at h
  · cases h; exact ⟨_, _, _, _, _, _, _, _, rfl⟩
  · cases h
def chkK (N : List Str) (Nn : Tn) (sc : Scope) (z : Nat) (c : CE) (e : PySem.Expr) : Bool :=
  match cK c, eK e with
  | some (z1, f, p, z2), some (zn, g, pn, ln, zn2) => decide (z1 = z) && decide (z2 = z) && decide (zn2 = zn) && (ln == ("len" : Str)) && gloB sc ln && (N[z]? == some zn) && visB sc zn && okN zn && (N[p]? == some pn) && visB sc pn && okN pn && (Nn.fn[f]? == some g) && gloB sc g && okN g
  | _, _ => false
def cR : CE → Option (Nat × Nat)
  | .mreplace (.var z) (.var i) (.con (.str [])) => some (z, i)
  | _ => none
theorem cR_ok {c : CE} {z i : Nat} (h : cR c = some (z, i)) : c = .mreplace (.var z) (.var i) (.con (.str [])) := by
  unfold cR at h
  split at h
  · cases h; rfl
  · cases h
def eR : PySem.Expr → Option (Str × Str × Str × Pos × Str × Pos)
  | .Call (.Attribute (.Name zn _) m ap) [.Name yn _, .Constant (.str s) _ _] [] pos => some (zn, yn, m, ap, s, pos)
  | _ => none
theorem eR_ok {e : PySem.Expr} {zn yn m s : Str} {ap pos : Pos} (h : eR e = some (zn, yn, m, ap, s, pos)) : ∃ p1 p2 j p3, e = .Call (.Attribute (.Name zn p1) m ap) [.Name yn p2, .Constant (.str s) j p3] [] pos := by
  unfold eR at h
  split at h
  · cases h; exact ⟨_, _, _, _, rfl⟩
  · cases h
def chkN0 (N : List Str) (sc : Scope) (y : Str) (i : Nat) (c : CE) (e : PySem.Expr) : Bool :=
  match cR c, eR e with
  | some (z, i'), some (zn, yn, m, ap, s, pos) => decide (i' = i) && decide (yn = y) && (m == ("replace" : Str)) && decide (s = ⟨#[]⟩) && (ap.endLine == pos.line) && (N[z]? == some zn) && visB sc zn && okN zn
  | _, _ => false
def cC : CE → Option (Nat × Nat × CE)
  | .call f (.cons (.var p) (.cons c .nil)) => some (f, p, c)
  | _ => none
theorem cC_ok {c c' : CE} {f p : Nat} (h : cC c = some (f, p, c')) : c = .call f (.cons (.var p) (.cons c' .nil)) := by
  unfold cC at h
  split at h
  · cases h; rfl
  · cases h
def eC : PySem.Expr → Option (Str × Str × PySem.Expr)
  | .Call (.Name g _) [.Name pn _, x] [] _ => some (g, pn, x)
  | _ => none
theorem eC_ok {e x : PySem.Expr} {g pn : Str} (h : eC e = some (g, pn, x)) : ∃ p1 p2 p3, e = .Call (.Name g p1) [.Name pn p2, x] [] p3 := by
  unfold eC at h
  split at h
  · cases h; exact ⟨_, _, _, rfl⟩
  · cases h
def chkN1 (N : List Str) (Nn : Tn) (sc : Scope) (y : Str) (i : Nat) (c : CE) (e : PySem.Expr) : Bool :=
  match cC c, eC e with
  | some (f, p, c'), some (g, pn, x) => (Nn.fn[f]? == some g) && gloB sc g && okN g && (N[p]? == some pn) && visB sc pn && okN pn && notStar x && chkN0 N sc y i c' x
  | _, _ => chkN0 N sc y i c e
def sK : Stmt → Option (Str × PySem.Expr)
  | .Assign [.Name y _] e _ => some (y, e)
  | _ => none
theorem sK_ok {s : Stmt} {y : Str} {e : PySem.Expr} (h : sK s = some (y, e)) : ∃ p pos, s = .Assign [.Name y p] e pos := by
  unfold sK at h
  split at h
  · cases h; exact ⟨_, _, rfl⟩
  · cases h
def cS : CS → Option (Nat × Bool × CE)
  | .set i o c => some (i, o, c)
  | _ => none
theorem cS_ok {c : CS} {i : Nat} {o : Bool} {c' : CE} (h : cS c = some (i, o, c')) : c = .set i o c' := by
  unfold cS at h
  split at h
  · cases h; rfl
  · cases h
def chkRp (N : List Str) (Nn : Tn) (sc : Scope) (z : Nat) (c1 c2 : CS) (s1 s2 : Stmt) : Bool :=
  match cS c1, cS c2, sK s1, sK s2 with
  | some (i, o, d1), some (j, own, d2), some (y, e1), some (w, e2) => !o && (N[i]? == some y) && decide (sc.names.lookup y = some .local) && okN y && (N[j]? == some w) && locB sc w && notComp e1 && notComp e2 && chkK N Nn sc z d1 e1 && (chkN1 N Nn sc y i d2 e2 || (match d2, e2 with
    | .tup (.cons d3 ds), .Tuple (x :: xs) _ _ => notStar x && chkN1 N Nn sc y i d3 x && chkEs N Nn ds sc xs && decide (ds.len ≤ 999)
    | _, _ => false))
  | _, _, _, _ => false

mutual
def chkS (N : List Str) (Nn : Tn) (sc : Scope) : CS → Stmt → Bool
  | .set i _ c, s => (match s with
    | .Assign [.Name y _] e _ => (N[i]? == some y) && locB sc y && (notComp e || isLc e) && chkE N Nn c sc e
    | _ => false)
  | .unp is c, s => (match s with
    | .Assign [.Tuple ts _ _] e _ => nmIx N ts is && (nmsOf ts).all (fun x => locB sc x) && notTup e && chkE N Nn c sc e
    | _ => false)
  | .par is _ cs, s => (match s with
    | .Assign [.Tuple ts _ _] (.Tuple es _ _) _ => nmIx N ts is && (nmsOf ts).all (fun x => locB sc x) && decide (is.length ≤ 1000) && chkEs N Nn cs sc es && (match swpB sc ts es with
      | some none => true
      | some (some _) => (nmsOf ts).all (fun x => decide (sc.names.lookup x = some .local)) && decide is.Nodup && (is.length == 2 || is.length == 3) && decide (es.length = is.length) && decide (swpB sc ts es = some (some (nmsOf ts)))
      | none => false)
    | _ => false)
  | .oset i k c, s => (match s with
    | .Assign [.Subscript (.Name y _) x _] e _ => (N[i]? == some y) && visB sc y && okN y && notSl x && chkE N Nn k sc x && chkE N Nn c sc e
    | _ => false)
  | .sset a k c, s => (match s with
    | .Assign [.Subscript o x _] e _ => notSl x && chkE N Nn a sc o && chkE N Nn k sc x && chkE N Nn c sc e
    | _ => false)
  | .aug i o c, s => (match s with
    | .AugAssign (.Name y _) p e _ => (N[i]? == some y) && locB sc y && decide (p = augOp o) && chkE N Nn c sc e
    | _ => false)
  | .app i c, s => (match s with
    | .Expr (.Call (.Attribute (.Name y _) m ap) [e] [] p) _ => (N[i]? == some y) && visB sc y && okN y && (m == ("append" : Str)) && (ap.endLine == p.line) && notStar e && chkE N Nn c sc e
    | _ => false)
  | .ext _ _, _ => false
  | .oins i k c, s => (match s with
    | .Expr (.Call (.Attribute (.Name y _) m ap) [a, e] [] p) _ => (N[i]? == some y) && visB sc y && okN y && (m == ("insert" : Str)) && (ap.endLine == p.line) && notStar a && notStar e && chkE N Nn k sc a && chkE N Nn c sc e
    | _ => false)
  | .sdapp _ _ _, _ => false
  | .expr c, s => (match s with
    | .Expr e _ => notComp e && chkE N Nn c sc e
    | _ => false)
  | .doc, s => (match s with
    | .Expr (.Constant (.str _) _ _) _ => true
    | _ => false)
  | .pass, s => (match s with
    | .Pass _ => true
    | _ => false)
  | .frz _, _ => false
  | .isS _, _ => false
  | .ite c a b, s => (match s with
    | .If x p q _ => notIf x && chkE N Nn c sc x && chkSs N Nn sc a p && chkSs N Nn sc b q
    | _ => false)
  | .for_ tg it b, s => (match s with
    | .For x y p [] _ => tgIx N x tg && (tgNms x).all (fun z => locB sc z) && notSet y && chkI N Nn it sc x y && chkSs N Nn sc b p
    | _ => false)
  | .while_ c b, s => (match s with
    | .While x p [] _ => notIf x && chkE N Nn c sc x && chkSs N Nn sc b p
    | _ => false)
  | .ret c, s => (match s with
    | .Return (some e) _ => chkE N Nn c sc e
    | _ => false)
  | .retN, s => (match s with
    | .Return none _ => true
    | _ => false)
  | .retF i, s => (match s with
    | .Return (some (.Name z _)) _ => (N[i]? == some z) && visB sc z && okN z
    | _ => false)
  | .raise _ _, _ => false
  | .brk, s => (match s with
    | .Break _ => true
    | _ => false)
  | .cont, s => (match s with
    | .Continue _ => true
    | _ => false)
  | .never, _ => true
def chkSs (N : List Str) (Nn : Tn) (sc : Scope) : CSs → List Stmt → Bool
  | .nil, [] => true
  | .cons (.frz _) cs, ss => chkSs N Nn sc cs ss
  | .cons (.isS z) cs, ss => (match cs with
    | .cons c1 (.cons c2 cs') => (match ss with
      | s1 :: s2 :: ss' => chkRp N Nn sc z c1 c2 s1 s2 && chkSs N Nn sc cs' ss'
      | _ => false)
    | _ => false)
  | .cons c cs, s :: ss => chkS N Nn sc c s && chkSs N Nn sc cs ss
  | _, _ => false
end
end Dn

/-! Dn17 -/
set_option Elab.async false
set_option linter.all false
set_option maxRecDepth 100000
set_option maxHeartbeats 2000000
/-! Dn17: the look is sound. -/
namespace Dn
open PySem PySem.Spec PyProof.Rows L2
section
variable {T : Tb} {Nn : Tn} {n : Nat} {N : List Str} {sc : Scope} {E : XK} {X : L2.Cx} {G : Hp} {W : Wd} {sg : L2.St} {H : Hp} {m : Mu} {r : Env}
theorem pt_ife {c a b : PySem.Expr} {pos : Pos} {tc ta tb : TT} (hc : PT X c tc) (ha : PT X a ta) (hb : PT X b tb) : PT X (.IfExp c a b pos) (fun σ H Q => tc σ H fun k H1 => if k = true then ta σ H1 Q else tb σ H1 Q) := by
  refine ⟨fun pins s σ H Q I h => ?_⟩
  show wpAny _ _ (isTrue c X.env (eval c X.env) >>= fun k => if k = true then isTrue a X.env (eval a X.env) else isTrue b X.env (eval b X.env)) _ _ s
  refine wpAny_bind (thn (hc.run pins s σ H _ I h) fun k s1 ⟨H1, I1, q1⟩ => ?_)
  cases k with
  | true => exact ha.run pins s1 σ H1 Q I1 q1
  | false => exact hb.run pins s1 σ H1 Q I1 q1
theorem st_ife {c a b : PySem.Expr} {pos : Pos} {cc ca cb : CE} (hc : ST T Nn n N sc c cc) (ha : ST T Nn n N sc a ca) (hb : ST T Nn n N sc b cb) : ST T Nn n N sc (.IfExp c a b pos) (.ife cc ca cb) := by
  intro E X x
  obtain ⟨tc, pc, fc⟩ := hc E X x
  obtain ⟨ta, pa, fa⟩ := ha E X x
  obtain ⟨tb, pb, fb⟩ := hb E X x
  refine ⟨_, pt_ife pc pa pb, fun r m G W sg H Q er hr p => ?_⟩
  have p := p.toR
  have e0 : ((evE (cxE T n) (.ife cc ca cb) r m).bnd fun x m => (M.opt x.d.truth : M Bool) m) = ((evE (cxE T n) cc r m).bnd fun x m1 => ((M.opt x.d.truth : M Bool) m1).bnd fun k m2 => ((if k then evE (cxE T n) ca r else evE (cxE T n) cb r) m2).bnd fun y m3 => (M.opt y.d.truth : M Bool) m3) := by
    show (((evE (cxE T n) cc r m).bnd fun x m1 => ((M.opt x.d.truth : M Bool) m1).bnd fun k m2 => (if k then evE (cxE T n) ca r else evE (cxE T n) cb r) m2).bnd fun x m => (M.opt x.d.truth : M Bool) m) = _
    simp only [bnd_bnd]
  rw [e0] at p
  refine useT fc er hr p fun x k m1 W1 H1 l1 h1 _ p1 => ?_
  cases k with
  | true =>
    rw [if_pos rfl]
    rw [if_pos rfl] at p1
    refine fa r m1 G W1 sg H1 Q (er.mono l1 (Same.refl _)) h1 ?_
    cases e : ((evE (cxE T n) ca r m1).bnd fun y m3 => (M.opt y.d.truth : M Bool) m3) with
    | ok _ _ => rw [e] at p1; exact p1
    | ex _ _ => rw [e] at p1; exact p1
    | st => rw [e] at p1; exact p1
  | false =>
    rw [if_neg (by decide)]
    rw [if_neg (by decide)] at p1
    refine fb r m1 G W1 sg H1 Q (er.mono l1 (Same.refl _)) h1 ?_
    cases e : ((evE (cxE T n) cb r m1).bnd fun y m3 => (M.opt y.d.truth : M Bool) m3) with
    | ok _ _ => rw [e] at p1; exact p1
    | ex _ _ => rw [e] at p1; exact p1
    | st => rw [e] at p1; exact p1
structure Good (T : Tb) (Nn : Tn) (n : Nat) (N : List Str) (sc : Scope) (e : PySem.Expr) (c : CE) : Prop where
  se : SE T Nn n N sc e c
  st : ST T Nn n N sc e c
  sw : isBo e = true → SW T Nn n N sc e c
theorem Good.plain {e : PySem.Expr} {c : CE} (h : SE T Nn n N sc e c) (he : ∀ env whole, isTrue e env whole = (do let v ← whole; standAt e.pos; holding [v] (truthy v))) (hb : isBo e = false) : Good T Nn n N sc e c :=
  ⟨h, st_plain h he, fun z => by rw [hb] at z; cases z⟩
theorem Good.one {e a : PySem.Expr} {c : CE} (ha : Dn.one e = a) (g : Good T Nn n N sc a c) : Good T Nn n N sc e c := by
  cases e with
  | BoolOp op es p =>
    match es with
    | [] => have : PySem.Expr.BoolOp op [] p = a := ha; subst this; exact g
    | [x] =>
      have : x = a := ha
      subst this
      cases op with
      | And => exact ⟨se_one g.se, (sw_and1 g.st).st, fun _ => sw_and1 g.st⟩
      | Or => exact ⟨se_one g.se, (sw_or1 g.st).st, fun _ => sw_or1 g.st⟩
    | x :: y :: r => have : PySem.Expr.BoolOp op (x :: y :: r) p = a := ha; subst this; exact g
  | _ => cases ha; exact g
theorem con_ok {d : D} {a : PySem.Expr} (h : conB d a = true) : Good T Nn n N sc a (.con d) := by
  have K0 : PySem.W.Frag := default
  cases d with
  | non =>
    cases a with
    | Constant c k p =>
      cases c with
      | none => exact .plain (se_con (K := K0) (fun _ => pe_non) fun _ _ => .non) (fun _ _ => rfl) rfl
      | _ => cases h
    | _ => cases h
  | bl b =>
    cases a with
    | Constant c k p =>
      cases c with
      | bool x =>
        have h : (b == x) = true := h
        rw [← eq_of_beq h]
        exact .plain (se_con (K := K0) (fun _ => pe_bl) fun _ _ => .bl b) (fun _ _ => rfl) rfl
      | _ => cases h
    | _ => cases h
  | int i =>
    cases a with
    | Constant c k p =>
      cases c with
      | int x =>
        have h : decide (i = x) = true := h
        rw [← of_decide_eq_true h]
        exact .plain (se_con (K := K0) (fun _ => pe_int) fun _ _ => .int i) (fun _ _ => rfl) rfl
      | _ => cases h
    | _ => cases h
  | str s =>
    cases a with
    | Constant c k p =>
      cases c with
      | str x =>
        have h : (decide (S s = x) && decide (s.length ≤ 1000) && s.all fun c => decide (c < 1114112)) = true := h
        rw [Bool.and_eq_true, Bool.and_eq_true, decide_eq_true_eq, decide_eq_true_eq, List.all_eq_true] at h
        obtain ⟨⟨rfl, h2⟩, h3⟩ := h
        exact .plain (se_con (K := K0) (fun _ => pe_str) fun _ _ => .str s ⟨small_line h2, fun c hc => of_decide_eq_true (h3 c hc)⟩) (fun _ _ => rfl) rfl
      | _ => cases h
    | _ => cases h
  | _ => cases h
theorem star_any {es : List PySem.Expr} (h : ∀ e ∈ es, notStar e = true) (pos : Pos) (env : PySem.Env) : (backTo pos (starEach es env)).any (·.1) = false := by
  induction es with
  | nil => rfl
  | cons e es ih =>
    rw [star_of (h e (by simp))]
    show ((false, _) :: backTo pos (starEach es env)).any (·.1) = false
    rw [List.any_cons, ih fun x hx => h x (by simp [hx])]
    rfl
theorem chkEs_star : ∀ {cs : CEs} {sc : Scope} {es : List PySem.Expr}, chkEs N Nn cs sc es = true → ∀ e ∈ es, notStar e = true
  | .nil, _, [], _, _, he => by cases he
  | .nil, _, _ :: _, h, _, _ => by cases h
  | .cons _ _, _, [], h, _, _ => by cases h
  | .cons c cs, sc, x :: xs, h, e, he => by
    have h : (notStar x && chkE N Nn c sc x && chkEs N Nn cs sc xs) = true := h
    rw [Bool.and_eq_true, Bool.and_eq_true] at h
    rcases List.mem_cons.mp he with rfl | he
    · exact h.1.1
    · exact chkEs_star h.2 e he
theorem rev_ok {y : PySem.Expr} (h : isRev y = true) : ∃ k p1 p2 p3, y = .Slice none none (some (.UnaryOp .USub (.Constant (.int 1) k p1) p2)) p3 := by
  unfold isRev at h
  split at h
  · have := of_decide_eq_true h
    subst this
    exact ⟨_, _, _, _, rfl⟩
  · cases h
theorem plainIx_of {y : PySem.Expr} (h : notSl y = true) : PlainIx y := by
  intro o i
  cases y <;> first | rfl | cases h
theorem fold_of {z : PySem.Expr} (h : notSet z = true) : ∀ env x, foldedSetIterable z env x = pure x := by
  intro env x
  cases z <;> first | rfl | cases h
theorem pairs_ok {own : List Nat} {i : Nat} (h : (pairs N own).map (·.2) = own) (hi : own.contains i = true) : i ∈ (pairs N own).map (·.2) := by
  rw [h]; simpa using hi
structure TgOk (N : List Str) (scope : Scope) (own : List Nat) (tg : PySem.Expr) (c : Tg) : Prop where
  ix : tgIx N tg c = true
  nm : ∀ x ∈ tgNms tg, scope.names.lookup x = some .local ∨ scope.names.lookup x = some .cell
  sub : ∀ i ∈ c.ixs, own.contains i = true
theorem tgB_ok {scope : Scope} {own : List Nat} {tg : PySem.Expr} {c : Tg} (h : tgB N scope own tg c = true) : TgOk N scope own tg c := by
  unfold tgB at h
  simp only [Bool.and_eq_true, List.all_eq_true] at h
  exact ⟨h.1.1, fun x hx => locB_ok (h.1.2 x hx), h.2⟩
theorem se_never {e : PySem.Expr} : SE T Nn n N sc e .never := fun E X x => ⟨fun _ _ _ => False, ⟨fun _ _ _ _ _ _ h => h.elim⟩, fun r m G W sg H Q er hr p => p.elim⟩
theorem st_never {e : PySem.Expr} : ST T Nn n N sc e .never := fun E X x => ⟨fun _ _ _ => False, ⟨fun _ _ _ _ _ _ h => h.elim⟩, fun r m G W sg H Q er hr p => p.elim⟩
theorem sw_never {e : PySem.Expr} : SW T Nn n N sc e .never := fun E X x => ⟨fun _ _ _ => False, ⟨fun _ _ _ _ _ _ _ h => h.elim⟩, fun r m G W sg H Q er hr p => p.elim⟩
end
end Dn

/-! Dn18 -/
set_option Elab.async false
set_option linter.all false
set_option maxRecDepth 100000
set_option maxHeartbeats 4000000
/-! Dn18: the look is sound, expressions. -/
namespace Dn
open PySem PySem.Spec PyProof.Rows L2
section
variable {T : Tb} {Nn : Tn} {n : Nat} {N : List Str}
theorem ba {a b : Bool} (h : (a && b) = true) : a = true ∧ b = true := by rw [Bool.and_eq_true] at h; exact h
mutual
theorem okE : ∀ (c : CE) (sc : Scope) (e : PySem.Expr), chkE N Nn c sc e = true → Good T Nn n N sc e c
  | .var i, sc, e, h => by
    refine Good.one (a := one e) rfl ?_
    have h : (match one e with | .Name z _ => (N[i]? == some z) && visB sc z && okN z | _ => false) = true := h
    split at h
    · rename_i z p he
      rw [he]
      obtain ⟨h, h3⟩ := ba h
      obtain ⟨h1, h2⟩ := ba h
      exact .plain (se_var (eq_of_beq h1) (visB_ok h2) (okN_ok h3).1 (okN_ok h3).2) (fun _ _ => rfl) rfl
    · cases h
  | .con d, sc, e, h => Good.one (a := one e) rfl (con_ok h)
  | .glob k, sc, e, h => by
    refine Good.one (a := one e) rfl ?_
    have h : (match one e with | .Name z _ => (Nn.gn[k]? == some z) && gloB sc z && okN z | _ => false) = true := h
    split at h
    · rename_i z p he
      rw [he]
      obtain ⟨h, h3⟩ := ba h
      obtain ⟨h1, h2⟩ := ba h
      exact .plain (se_glob (eq_of_beq h1) (gloB_ok h2) (okN_ok h3).1) (fun _ _ => rfl) rfl
    · cases h
  | .tup es, sc, e, h => by
    refine Good.one (a := one e) rfl ?_
    have h : (match one e with | .Tuple xs _ _ => chkEs N Nn es sc xs && decide (es.len ≤ 1000) | _ => false) = true := h
    split at h
    · rename_i xs k p he
      rw [he]
      obtain ⟨h1, h2⟩ := ba h
      exact .plain (se_tup (okEs es sc xs h1).1 (of_decide_eq_true h2)) (fun _ _ => rfl) rfl
    · cases h
  | .lst es, sc, e, h => by
    refine Good.one (a := one e) rfl ?_
    have h : (match one e with | .List xs _ => chkEs N Nn es sc xs && decide (es.len ≤ 1000) | _ => false) = true := h
    split at h
    · rename_i xs p he
      rw [he]
      obtain ⟨h1, h2⟩ := ba h
      exact .plain (se_lst (okEs es sc xs h1).1 (of_decide_eq_true h2)) (fun _ _ => rfl) rfl
    · cases h
  | .newl es, sc, e, h => by
    refine Good.one (a := one e) rfl ?_
    have h : (match one e with | .List xs _ => chkEs N Nn es sc xs && decide (es.len ≤ 1000) | _ => false) = true := h
    split at h
    · rename_i xs p he
      rw [he]
      obtain ⟨h1, h2⟩ := ba h
      exact .plain (se_newl (okEs es sc xs h1).1 (of_decide_eq_true h2)) (fun _ _ => rfl) rfl
    · cases h
  | .emp t, sc, e, h => by
    refine Good.one (a := one e) rfl ?_
    have h : (match one e with | .Dict [] [] _ => true | _ => false) = true := h
    split at h
    · rename_i p he
      rw [he]
      exact .plain se_emp (fun _ _ => rfl) rfl
    · cases h
  | .bin o a b, sc, e, h => by
    refine Good.one (a := one e) rfl ?_
    have h : (match one e with | .BinOp x p y _ => decide (p = pyOp o) && chkE N Nn a sc x && chkE N Nn b sc y | _ => false) = true := h
    split at h
    · rename_i x p y q he
      rw [he]
      obtain ⟨h, h3⟩ := ba h
      obtain ⟨h1, h2⟩ := ba h
      have := of_decide_eq_true h1
      subst this
      exact .plain (se_bin o (okE a sc x h2).se (okE b sc y h3).se) (fun _ _ => rfl) rfl
    · cases h
  | .neg a, sc, e, h => by
    refine Good.one (a := one e) rfl ?_
    have h : (match one e with | .UnaryOp .USub x _ => chkE N Nn a sc x | _ => false) = true := h
    split at h
    · rename_i x q he
      rw [he]
      exact .plain (se_neg (okE a sc x h).se) (fun _ _ => rfl) rfl
    · cases h
  | .cmp o a b, sc, e, h => by
    refine Good.one (a := one e) rfl ?_
    have h : (match one e with | .Compare x [p] [y] _ => decide (p = pyCop o) && notSet y && chkE N Nn a sc x && chkE N Nn b sc y | _ => false) = true := h
    split at h
    · rename_i x p y q he
      rw [he]
      obtain ⟨h, h4⟩ := ba h
      obtain ⟨h, h3⟩ := ba h
      obtain ⟨h1, h2⟩ := ba h
      have := of_decide_eq_true h1
      subst this
      exact ⟨se_cmp o h2 (okE a sc x h3).se (okE b sc y h4).se, st_cmp o h2 (okE a sc x h3).se (okE b sc y h4).se, fun z => by cases z⟩
    · cases h
  | .chain o1 o2 a b c, sc, e, h => by
    refine Good.one (a := one e) rfl ?_
    have h : (match one e with | .Compare x [p, q] [y, z] _ => decide (p = pyCop o1) && decide (q = pyCop o2) && notSet z && chkE N Nn a sc x && chkE N Nn b sc y && chkE N Nn c sc z | _ => false) = true := h
    split at h
    · rename_i x p q y z pos he
      rw [he]
      obtain ⟨h, h6⟩ := ba h
      obtain ⟨h, h5⟩ := ba h
      obtain ⟨h, h4⟩ := ba h
      obtain ⟨h, h3⟩ := ba h
      obtain ⟨h1, h2⟩ := ba h
      have e1 := of_decide_eq_true h1
      have e2 := of_decide_eq_true h2
      subst e1 e2
      exact ⟨se_chain o1 o2 (okE a sc x h4).se (okE b sc y h5).se (okE c sc z h6).se h3, st_chain o1 o2 (okE a sc x h4).se (okE b sc y h5).se (okE c sc z h6).se h3, fun z => by cases z⟩
    · cases h
  | .not a, sc, e, h => by
    refine Good.one (a := one e) rfl ?_
    have h : (match one e with | .UnaryOp .Not x _ => notIf x && chkE N Nn a sc x | _ => false) = true := h
    split at h
    · rename_i x q he
      rw [he]
      obtain ⟨_, h2⟩ := ba h
      exact ⟨se_not (okE a sc x h2).se, st_not (okE a sc x h2).st, fun z => by cases z⟩
    · cases h
  | .and a b, sc, e, h => by
    refine Good.one (a := one e) rfl ?_
    have h : (match one e with | .BoolOp .And (x :: y :: r) p => notIf x && chkE N Nn a sc x && chkE N Nn b sc (.BoolOp .And (y :: r) p) | _ => false) = true := h
    split at h
    · rename_i x y r p he
      rw [he]
      obtain ⟨h, h3⟩ := ba h
      obtain ⟨_, h2⟩ := ba h
      have g1 := okE a sc x h2
      have g2 := okE b sc _ h3
      exact ⟨se_and g1.se g2.se, (sw_and g1.st (g2.sw rfl)).st, fun _ => sw_and g1.st (g2.sw rfl)⟩
    · cases h
  | .or a b, sc, e, h => by
    refine Good.one (a := one e) rfl ?_
    have h : (match one e with | .BoolOp .Or (x :: y :: r) p => notIf x && chkE N Nn a sc x && chkE N Nn b sc (.BoolOp .Or (y :: r) p) | _ => false) = true := h
    split at h
    · rename_i x y r p he
      rw [he]
      obtain ⟨h, h3⟩ := ba h
      obtain ⟨_, h2⟩ := ba h
      have g1 := okE a sc x h2
      have g2 := okE b sc _ h3
      exact ⟨se_or g1.se g2.se, (sw_or g1.st (g2.sw rfl)).st, fun _ => sw_or g1.st (g2.sw rfl)⟩
    · cases h
  | .ife c a b, sc, e, h => by
    refine Good.one (a := one e) rfl ?_
    have h : (match one e with | .IfExp z x y _ => notIf z && chkE N Nn c sc z && chkE N Nn a sc x && chkE N Nn b sc y | _ => false) = true := h
    split at h
    · rename_i z x y p he
      rw [he]
      obtain ⟨h, h4⟩ := ba h
      obtain ⟨h, h3⟩ := ba h
      obtain ⟨_, h2⟩ := ba h
      have g1 := okE c sc z h2
      have g2 := okE a sc x h3
      have g3 := okE b sc y h4
      exact ⟨se_ife g1.st g2.se g3.se, st_ife g1.st g2.st g3.st, fun z => by cases z⟩
    · cases h
  | .idx a i, sc, e, h => by
    refine Good.one (a := one e) rfl ?_
    have h : (match one e with | .Subscript x y _ => notSl y && chkE N Nn a sc x && chkE N Nn i sc y | _ => false) = true := h
    split at h
    · rename_i x y p he
      rw [he]
      obtain ⟨h, h3⟩ := ba h
      obtain ⟨h1, h2⟩ := ba h
      exact .plain (se_idx (plainIx_of h1) (okE a sc x h2).se (okE i sc y h3).se) (fun _ _ => rfl) rfl
    · cases h
  | .slice a lo hi, sc, e, h => by
    refine Good.one (a := one e) rfl ?_
    have h : (match one e with | .Subscript x (.Slice l h none _) _ => chkE N Nn a sc x && chkO N Nn lo sc l && chkO N Nn hi sc h | _ => false) = true := h
    split at h
    · rename_i x l hh p q he
      rw [he]
      obtain ⟨h, h3⟩ := ba h
      obtain ⟨h1, h2⟩ := ba h
      exact .plain (se_slice (okE a sc x h1).se (okO lo sc l h2) (okO hi sc hh h3)) (fun _ _ => rfl) rfl
    · cases h
  | .rev a, sc, e, h => by
    refine Good.one (a := one e) rfl ?_
    have h : (match one e with | .Subscript x y _ => isRev y && chkE N Nn a sc x | _ => false) = true := h
    split at h
    · rename_i x y p he
      rw [he]
      obtain ⟨h1, h2⟩ := ba h
      obtain ⟨k, p1, p2, p3, rfl⟩ := rev_ok h1
      exact .plain (se_rev (okE a sc x h2).se) (fun _ _ => rfl) rfl
    · cases h
  | .fld _ _, sc, e, h => by cases h
  | .call f es, sc, e, h => by
    refine Good.one (a := one e) rfl ?_
    have h : (match one e with | .Call (.Name g _) (x :: xs) [] _ => (Nn.fn[f]? == some g) && gloB sc g && okN g && chkEs N Nn es sc (x :: xs) | _ => false) = true := h
    split at h
    · rename_i g p x xs q he
      rw [he]
      obtain ⟨h, h4⟩ := ba h
      obtain ⟨h, h3⟩ := ba h
      obtain ⟨h1, h2⟩ := ba h
      have hs := chkEs_star h4
      exact .plain (se_call (eq_of_beq h1) (gloB_ok h2) (okEs es sc (x :: xs) h4).1 (okN_ok h3).1 (star_of (hs x (by simp)) xs) (star_any (fun y hy => hs y (by simp [hy])) q)) (fun _ _ => rfl) rfl
    · cases h
  | .b1 f a, sc, e, h => by
    refine Good.one (a := one e) rfl ?_
    have h : (match one e with
      | .Call (.Name g _) [x] [] _ => (match setN f with
        | some g2 => (match x with
          | .Call (.Name h _) [y] [] _ => (g2 == g) && gloB sc g && (h == ("set" : Str)) && gloB sc h && notStar y && chkE N Nn a sc y
          | _ => false)
        | none => (b1N f == some g) && gloB sc g && notStar x && chkE N Nn a sc x)
      | _ => false) = true := h
    split at h
    · rename_i g p x q he
      rw [he]
      split at h
      · rename_i g2 eg
        split at h
        · rename_i hn p2 y q2
          obtain ⟨h, h6⟩ := ba h
          obtain ⟨h, h5⟩ := ba h
          obtain ⟨h, h4⟩ := ba h
          obtain ⟨h, h3⟩ := ba h
          obtain ⟨h1, h2⟩ := ba h
          have h1 := eq_of_beq h1
          have h3 := eq_of_beq h3
          subst h1 h3
          refine .plain ?_ (fun _ _ => rfl) rfl
          have g1 := okE a sc y h6
          cases f with
          | lenset => cases eg; exact se_lenset (gloB_ok h2) (gloB_ok h4) g1.se h5
          | sortset => cases eg; exact se_sortset (gloB_ok h2) (gloB_ok h4) g1.se h5
          | _ => cases eg
        · cases h
      · obtain ⟨h, h4⟩ := ba h
        obtain ⟨h, h3⟩ := ba h
        obtain ⟨h1, h2⟩ := ba h
        have h1 := eq_of_beq h1
        refine .plain ?_ (fun _ _ => rfl) rfl
        have g1 := okE a sc x h4
        cases f with
        | len => cases h1; exact se_b1B (id := "len") (fun _ _ _ => b_len) (by decide) (by decide +kernel) (by decide) (by decide) (gloB_ok h2) g1.se h3
        | dict => cases h1; exact se_b1T (id := "dict") (fun hc _ _ => b_dict hc) (by decide) (by decide +kernel) (by decide) (by decide) (gloB_ok h2) g1.se h3
        | tuple => cases h1; exact se_b1T (id := "tuple") (fun hc _ _ => b_tuple hc) (by decide) (by decide +kernel) (by decide) (by decide) (gloB_ok h2) g1.se h3
        | int => cases h1; exact se_b1T (id := "int") (fun _ _ _ => b_int) (by decide) (by decide +kernel) (by decide) (by decide) (gloB_ok h2) g1.se h3
        | sum => cases h1; exact se_b1B (id := "sum") (fun hc _ _ => b_sum hc) (by decide) (by decide +kernel) (by decide) (by decide) (gloB_ok h2) g1.se h3
        | all => cases h1; exact se_b1B (id := "all") (fun hc _ _ => b_all hc) (by decide) (by decide +kernel) (by decide) (by decide) (gloB_ok h2) g1.se h3
        | any => cases h1; exact se_b1B (id := "any") (fun hc _ _ => b_any hc) (by decide) (by decide +kernel) (by decide) (by decide) (gloB_ok h2) g1.se h3
        | repr => cases h1; exact se_b1B (id := "repr") (fun _ hu hg => b_repr hu hg) (by decide) (by decide +kernel) (by decide) (by decide) (gloB_ok h2) g1.se h3
        | sorted => cases h1; exact se_b1B (id := "sorted") (fun _ hu _ => b_sorted hu) (by decide) (by decide +kernel) (by decide) (by decide) (gloB_ok h2) g1.se h3
        | _ => cases h1
    · cases h
  | .lsti (.val c), sc, e, h => by
    refine Good.one (a := one e) rfl ?_
    have h : (match one e with | .Call (.Name g _) [x] [] _ => (g == ("list" : Str)) && gloB sc g && notStar x && chkE N Nn c sc x | _ => false) = true := h
    split at h
    · rename_i g p x q he
      rw [he]
      obtain ⟨h, h4⟩ := ba h
      obtain ⟨h, h3⟩ := ba h
      obtain ⟨h1, h2⟩ := ba h
      have e1 := eq_of_beq h1
      subst e1
      exact .plain (se_lsti (gloB_ok h2) (okE c sc x h4).se h3) (fun _ _ => rfl) rfl
    · cases h
  | .lsti (.rng _), sc, e, h => by cases h
  | .lsti (.rng2 _ _), sc, e, h => by cases h
  | .lsti (.enum _), sc, e, h => by cases h
  | .lsti (.zip _ _), sc, e, h => by cases h
  | .min2 _ _, sc, e, h => by cases h
  | .isi t a, sc, e, h => by
    refine Good.one (a := one e) rfl ?_
    have h : (match one e with
      | .Call (.Name g _) [x, .Name h _] [] _ => (g == ("isinstance" : Str)) && gloB sc g && (match t.tk with | some k => !decide (k = .non) | none => false) && (h == tyName t) && gloB sc h && notStar x && chkE N Nn a sc x
      | .Call (.Name g _) [x, .Tuple [.Name h _, .Name h2 _] _ _] [] _ => (g == ("isinstance" : Str)) && gloB sc g && decide (t = .intstr) && (h == ("int" : Str)) && gloB sc h && (h2 == ("str" : Str)) && gloB sc h2 && notStar x && chkE N Nn a sc x
      | _ => false) = true := h
    split at h
    · rename_i g p x hh p2 q he
      rw [he]
      obtain ⟨h, h7⟩ := ba h
      obtain ⟨h, h6⟩ := ba h
      obtain ⟨h, h5⟩ := ba h
      obtain ⟨h, h4⟩ := ba h
      obtain ⟨h, h3⟩ := ba h
      obtain ⟨h1, h2⟩ := ba h
      have e1 := eq_of_beq h1
      have e2 := eq_of_beq h4
      subst e1 e2
      cases ht : t.tk with
      | none => rw [ht] at h3; cases h3
      | some k =>
        rw [ht] at h3
        have hk : k ≠ .non := by
          have h3 : (!decide (k = .non)) = true := h3
          rw [Bool.not_eq_true', decide_eq_false_iff_not] at h3
          exact h3
        exact .plain (se_isi ht hk (gloB_ok h2) (gloB_ok h5) (okE a sc x h7).se h6) (fun _ _ => rfl) rfl
    · rename_i g p x hh p2 hh2 p3 kk p4 q he
      rw [he]
      obtain ⟨h, h9⟩ := ba h
      obtain ⟨h, h8⟩ := ba h
      obtain ⟨h, h7⟩ := ba h
      obtain ⟨h, h6⟩ := ba h
      obtain ⟨h, h5⟩ := ba h
      obtain ⟨h, h4⟩ := ba h
      obtain ⟨h, h3⟩ := ba h
      obtain ⟨h1, h2⟩ := ba h
      have e1 := eq_of_beq h1
      have e2 := eq_of_beq h4
      have e3 := eq_of_beq h6
      have e4 := of_decide_eq_true h3
      subst e1 e2 e3 e4
      exact .plain (se_isiIS (gloB_ok h2) (gloB_ok h5) (gloB_ok h7) (okE a sc x h9).se h8) (fun _ _ => rfl) rfl
    · cases h
  | .join a b, sc, e, h => by
    refine Good.one (a := one e) rfl ?_
    have h : (match one e with | .Call (.Attribute x m ap) [y] [] p => (m == ("join" : Str)) && plainBase x && (ap.endLine == p.line) && notStar y && chkE N Nn a sc x && chkE N Nn b sc y | _ => false) = true := h
    split at h
    · rename_i x m ap y p he
      rw [he]
      obtain ⟨h, h6⟩ := ba h
      obtain ⟨h, h5⟩ := ba h
      obtain ⟨h, h4⟩ := ba h
      obtain ⟨h, h3⟩ := ba h
      obtain ⟨h1, h2⟩ := ba h
      have e1 := eq_of_beq h1
      subst e1
      exact .plain (se_join (okE a sc x h5).se (okE b sc y h6).se h2 h3 h4) (fun _ _ => rfl) rfl
    · cases h
  | .mindex a b, sc, e, h => by
    refine Good.one (a := one e) rfl ?_
    have h : (match one e with | .Call (.Attribute x m ap) [y] [] p => (m == ("index" : Str)) && plainBase x && (ap.endLine == p.line) && notStar y && chkE N Nn a sc x && chkE N Nn b sc y | _ => false) = true := h
    split at h
    · rename_i x m ap y p he
      rw [he]
      obtain ⟨h, h6⟩ := ba h
      obtain ⟨h, h5⟩ := ba h
      obtain ⟨h, h4⟩ := ba h
      obtain ⟨h, h3⟩ := ba h
      obtain ⟨h1, h2⟩ := ba h
      have e1 := eq_of_beq h1
      subst e1
      exact .plain (se_mindex (okE a sc x h5).se (okE b sc y h6).se h2 h3 h4) (fun _ _ => rfl) rfl
    · cases h
  | .lindex _ _, sc, e, h => by cases h
  | .mcount _ _, sc, e, h => by cases h
  | .mreplace _ _ _, sc, e, h => by cases h
  | .mstarts a b, sc, e, h => by
    refine Good.one (a := one e) rfl ?_
    have h : (match one e with | .Call (.Attribute x m ap) [y] [] p => (m == ("startswith" : Str)) && plainBase x && (ap.endLine == p.line) && notStar y && chkE N Nn a sc x && chkE N Nn b sc y | _ => false) = true := h
    split at h
    · rename_i x m ap y p he
      rw [he]
      obtain ⟨h, h6⟩ := ba h
      obtain ⟨h, h5⟩ := ba h
      obtain ⟨h, h4⟩ := ba h
      obtain ⟨h, h3⟩ := ba h
      obtain ⟨h1, h2⟩ := ba h
      have e1 := eq_of_beq h1
      subst e1
      exact .plain (se_starts (okE a sc x h5).se (okE b sc y h6).se h2 h3 h4) (fun _ _ => rfl) rfl
    · cases h
  | .mget a b c, sc, e, h => by
    refine Good.one (a := one e) rfl ?_
    have h : (match one e with | .Call (.Attribute x m ap) [y, z] [] p => (m == ("get" : Str)) && plainBase x && (ap.endLine == p.line) && notStar y && notStar z && chkE N Nn a sc x && chkE N Nn b sc y && chkE N Nn c sc z | _ => false) = true := h
    split at h
    · rename_i x m ap y z p he
      rw [he]
      obtain ⟨h, h8⟩ := ba h
      obtain ⟨h, h7⟩ := ba h
      obtain ⟨h, h6⟩ := ba h
      obtain ⟨h, h5⟩ := ba h
      obtain ⟨h, h4⟩ := ba h
      obtain ⟨h, h3⟩ := ba h
      obtain ⟨h1, h2⟩ := ba h
      have e1 := eq_of_beq h1
      subst e1
      exact .plain (se_mget (okE a sc x h6).se (okE b sc y h7).se (okE c sc z h8).se h2 h3 h4 h5) (fun _ _ => rfl) rfl
    · cases h
  | .comp own tg it cond elt, sc, e, h => by
    refine Good.one (a := one e) rfl ?_
    have h : (match one e with
      | .ListComp x [⟨y, z, ifs, 0⟩] scope _ => decide ((pairs N own).map (·.2) = own) && blkB N sc scope (pairs N own) && tgB N scope own y tg && notSet z && chkI N Nn it sc y z && chkC N Nn cond (relS scope sc) ifs && chkE N Nn elt (relS scope sc) x
      | _ => false) = true := h
    split at h
    · rename_i x y z ifs scope p he
      rw [he]
      obtain ⟨h, h7⟩ := ba h
      obtain ⟨h, h6⟩ := ba h
      obtain ⟨h, h5⟩ := ba h
      obtain ⟨h, h4⟩ := ba h
      obtain ⟨h, h3⟩ := ba h
      obtain ⟨h1, h2⟩ := ba h
      have e1 := of_decide_eq_true h1
      have t := tgB_ok h3
      refine .plain ?_ (fun _ _ => rfl) rfl
      have := se_comp (T := T) (Nn := Nn) (n := n) (own := pairs N own) (pos := p) (okI it sc y z h5) (blkB_ok h2) t.ix t.nm (fun i hi => pairs_ok e1 (t.sub i hi)) (okC cond (relS scope sc) ifs h6) (okE elt (relS scope sc) x h7).se (fold_of h4)
      rw [e1] at this
      exact this
    · cases h
  | .sortk _ _, sc, e, h => by cases h
  | .never, sc, e, h => ⟨se_never, st_never, fun _ => sw_never⟩
theorem okEs : ∀ (c : CEs) (sc : Scope) (es : List PySem.Expr), chkEs N Nn c sc es = true → SEs T Nn n N sc es c ∧ SP' T Nn n N sc es c
  | .nil, sc, [], h => ⟨ses_nil, sp_nil⟩
  | .nil, sc, _ :: _, h => by cases h
  | .cons _ _, sc, [], h => by cases h
  | .cons c cs, sc, e :: es, h => by
    have h : (notStar e && chkE N Nn c sc e && chkEs N Nn cs sc es) = true := h
    obtain ⟨h, h3⟩ := ba h
    obtain ⟨h1, h2⟩ := ba h
    have g1 := okE c sc e h2
    have g2 := okEs cs sc es h3
    exact ⟨ses_cons g1.se g2.1 (star_of h1 es), sp_cons g1.se g2.2 h1⟩
theorem okO : ∀ (c : CEo) (sc : Scope) (e : Option PySem.Expr), chkO N Nn c sc e = true → SO T Nn n N sc e c
  | .none, sc, none, h => so_none
  | .none, sc, some _, h => by cases h
  | .some _, sc, none, h => by cases h
  | .some c, sc, some e, h => so_some (okE c sc e h).se
theorem okC : ∀ (c : CEo) (sc : Scope) (es : List PySem.Expr), chkC N Nn c sc es = true → SC T Nn n N sc es c
  | .none, sc, [], h => sc_nil
  | .none, sc, _ :: _, h => by cases h
  | .some _, sc, [], h => by cases h
  | .some c, sc, [e], h => sc_one (okE c sc e (ba (show (notIf e && chkE N Nn c sc e) = true from h)).2).st
  | .some _, sc, _ :: _ :: _, h => by cases h
theorem okI : ∀ (c : CI) (sc : Scope) (tg e : PySem.Expr), chkI N Nn c sc tg e = true → SI T Nn n N sc tg e c
  | .val c, sc, tg, e, h => si_val (okE c sc e h).se
  | .rng c, sc, tg, e, h => by
    have h : (match (generalizing := false) e with | .Call (.Name g _) [x] [] _ => (g == ("range" : Str)) && gloB sc g && notStar x && chkE N Nn c sc x | _ => false) = true := h
    split at h
    · obtain ⟨h, h4⟩ := ba h
      obtain ⟨h, h3⟩ := ba h
      obtain ⟨h1, h2⟩ := ba h
      have e1 := eq_of_beq h1
      subst e1
      exact si_rng (gloB_ok h2) (okE c sc _ h4).se h3
    · cases h
  | .rng2 a b, sc, tg, e, h => by
    have h : (match (generalizing := false) e with | .Call (.Name g _) [x, y] [] _ => (g == ("range" : Str)) && gloB sc g && notStar x && notStar y && chkE N Nn a sc x && chkE N Nn b sc y | _ => false) = true := h
    split at h
    · obtain ⟨h, h6⟩ := ba h
      obtain ⟨h, h5⟩ := ba h
      obtain ⟨h, h4⟩ := ba h
      obtain ⟨h, h3⟩ := ba h
      obtain ⟨h1, h2⟩ := ba h
      have e1 := eq_of_beq h1
      subst e1
      exact si_rng2 (gloB_ok h2) (okE a sc _ h5).se (okE b sc _ h6).se h3 h4
    · cases h
  | .enum c, sc, tg, e, h => by
    have h : (match (generalizing := false) tg, e with | .Tuple .., .Call (.Name g _) [x] [] _ => (g == ("enumerate" : Str)) && gloB sc g && notStar x && chkE N Nn c sc x | _, _ => false) = true := h
    split at h
    · obtain ⟨h, h4⟩ := ba h
      obtain ⟨h, h3⟩ := ba h
      obtain ⟨h1, h2⟩ := ba h
      have e1 := eq_of_beq h1
      subst e1
      exact si_enum (gloB_ok h2) (okE c sc _ h4).se h3
    · cases h
  | .zip a b, sc, tg, e, h => by
    have h : (match (generalizing := false) tg, e with | .Tuple .., .Call (.Name g _) [x, y] [] _ => (g == ("zip" : Str)) && gloB sc g && notStar x && notStar y && chkE N Nn a sc x && chkE N Nn b sc y | _, _ => false) = true := h
    split at h
    · obtain ⟨h, h6⟩ := ba h
      obtain ⟨h, h5⟩ := ba h
      obtain ⟨h, h4⟩ := ba h
      obtain ⟨h, h3⟩ := ba h
      obtain ⟨h1, h2⟩ := ba h
      have e1 := eq_of_beq h1
      subst e1
      exact si_zip (gloB_ok h2) (okE a sc _ h5).se (okE b sc _ h6).se h3 h4
    · cases h
end
end
end Dn

/-! DnD -/
set_option Elab.async false
set_option linter.all false
set_option maxRecDepth 100000
set_option maxHeartbeats 1000000
/-! DnD: text.replace(sign, ""), sound. -/
namespace Dn
open PySem PySem.Spec PyProof.Rows L2
theorem replS_eq (s : Sg) (c : Nat) : Txt.replace (S s) ⟨#[c]⟩ ⟨#[]⟩ = S (replS s c []) := by
  have h := replace_strikes (S s) c
  have e : (S s).cps.toList = s := by simp [S]
  rw [e] at h
  have e2 : replS s c [] = s.filter (· != c) := by
    unfold replS
    induction s with
    | nil => rfl
    | cons a r ih =>
      have ih := ih (replace_strikes (S r) c) (by simp [S])
      rw [List.flatMap_cons, ih]
      by_cases ha : a = c
      · subst ha; simp
      · have : (a == c) = false := by simpa using ha
        simp [this, ha]
  rw [e2, ← h]
  cases Txt.replace (S s) ⟨#[c]⟩ ⟨#[]⟩ with
  | mk cps => simp [S]
theorem replS_ok {s : Sg} {c : Nat} (h : txtOk s) : txtOk (replS s c []) := by
  have e2 : ∀ x ∈ replS s c [], x ∈ s := fun x hx => by
    unfold replS at hx
    obtain ⟨a, ha, hx⟩ := List.mem_flatMap.mp hx
    split at hx
    · cases hx
    · have : x = a := by simpa using hx
      rw [this]; exact ha
  have e1 : ∀ t : Sg, (replS t c []).length ≤ t.length := fun t => by
    unfold replS
    induction t with
    | nil => exact Nat.le_refl _
    | cons a r ih =>
      rw [List.flatMap_cons, List.length_append, List.length_cons]
      split
      · rw [List.length_nil]; omega
      · rw [List.length_singleton]; omega
  exact ⟨Nat.le_trans (e1 s) h.1, fun x hx => h.2 x (e2 x hx)⟩
section
variable {T : Tb} {Nn : Tn} {n : Nat} {N : List Str} {sc : Scope} {E : XK} {X : L2.Cx} {G G0 : Hp} {W : Wd} {sg : L2.St} {H : Hp} {m : Mu} {r : Env} {D : Ends}
def SEn (T : Tb) (Nn : Tn) (n : Nat) (N : List Str) (sc : Scope) (y : Str) (i : Nat) (e : PySem.Expr) (c : CE) : Prop := ∀ (E : XK) (X : L2.Cx), XOk T Nn n N sc E X → ∃ t, PEn X y i e t ∧ Snd T Nn n X E c t
/-- the same, of an environment where z is a text -/
def SndZ (T : Tb) (Nn : Tn) (n : Nat) (X : L2.Cx) (E : XK) (z : Nat) (c : CE) (t : TE) : Prop := ∀ (r : Env) (m : Mu) (G : Hp) (W : Wd) (sg : L2.St) (H : Hp) (Q : VK), (∃ s, r[z]? = some (.val (.str s))) → ER X.K W G sg r → HR X.K W G H m → Post Nn X.mg X.K G W (evE (cxE T n) c r m) Q E → t sg H Q
def SEK (T : Tb) (Nn : Tn) (n : Nat) (N : List Str) (sc : Scope) (z : Nat) (e : PySem.Expr) (c : CE) : Prop := ∀ (E : XK) (X : L2.Cx), XOk T Nn n N sc E X → ∃ t, PEK X e t ∧ SndZ T Nn n X E z c t

theorem RD.keep {K : PySem.W.Frag} {v : V} {d : Dn.D} (q : RD K W G v d) (d' : Dn.D) (e : (⟨.p, d⟩ : R).keep = some d') : d' = d ∧ RV K W v d' := by
  rcases q with q | ⟨a, _, q⟩
  · cases d <;> first | (cases e; exact ⟨rfl, q⟩) | cases e
  · cases d <;> first | (cases e; done) | exact q.elim
theorem var_at (er : ER X.K W G sg r) {i : Nat} {a : R} (h : (r[i]?).bind Sl.read = some a) : ∃ v, sg[i]? = some (some v) ∧ ArgR X.K W G v a := by
  cases e1 : r[i]? with
  | none => rw [e1] at h; cases h
  | some s =>
    rw [e1] at h
    have q := er.at_ i s e1
    cases s with
    | un => cases h
    | grp _ => cases h
    | val d =>
      have h : some (⟨.v, d⟩ : R) = some a := h
      cases h
      obtain ⟨y, e2, q⟩ := q
      exact ⟨y, e2, .inl q, fun d' e => by cases e; exact ⟨rfl, q⟩⟩
    | own d =>
      have h : some (⟨.p, d⟩ : R) = some a := h
      cases h
      obtain ⟨y, e2, q⟩ := q
      exact ⟨y, e2, q, q.keep⟩
    | bor d =>
      have h : some (⟨.p, d⟩ : R) = some a := h
      cases h
      obtain ⟨y, e2, q⟩ := q
      exact ⟨y, e2, q, q.keep⟩
/-- a run in the middle -/
theorem PostR.un {o : Out R} {α : Type} {g : R → Mu → Out α} {P : α → Mu → Wd → Hp → Prop} {Q : VK} {mg : Str → Option Value} {K : PySem.W.Frag} (h : PostR Nn mg K G W (o.bnd g) P E)
    (k : ∀ x m1 W1 H1 v, W.Le W1 → HR K W1 G H1 m1 → ArgR K W1 G v x → PostR Nn mg K G W1 (g x m1) P E → Q v H1) : Post Nn mg K G W o Q E := by
  refine PostD.post ?_
  cases o with
  | ok x m1 => exact fun W1 H1 v l h1 q => k x m1 W1 H1 v l h1 q (PostR.mono (show PostR Nn mg K G W (g x m1) P E from h) l)
  | ex x m1 => exact h
  | st => exact h
/-- text[f(p, len(text))] -/
theorem sek_ix {z f p : Nat} {zn g pn : Str} {p1 p2 p3 p4 p5 p6 p7 p8 : Pos} (hz : N[z]? = some zn) (vz : visB sc zn = true) (oz : okN zn = true) (hp : N[p]? = some pn) (vp : visB sc pn = true) (op : okN pn = true) (hf : Nn.fn[f]? = some g) (gg : gloB sc g = true) (og : okN g = true) (gl : gloB sc "len" = true) :
    SEK T Nn n N sc z (.Subscript (.Name zn p1) (.Call (.Name g p2) [.Name pn p3, .Call (.Name "len" p4) [.Name zn p5] [] p6] [] p7) p8) (.idx (.var z) (.call f (.cons (.var p) (.cons (.b1 .len (.var z)) .nil)))) := by
  intro E X x
  obtain ⟨a, fd, ps, e1, e2, e3, e4⟩ := x.base.fn f g hf
  have hz' : X.N[z]? = some zn := by rw [x.pN]; exact hz
  have hp' : X.N[p]? = some pn := by rw [x.pN]; exact hp
  have l1 : PE1 X (.Call (.Name "len" p4) [.Name zn p5] [] p6) (tLenS z) := pe1_len hz' (x.vis (visB_ok vz)) (x.gl (gloB_ok gl)) (x.base.free _ (by decide)) (okN_ok oz).1 (okN_ok oz).2
  have l2 := pe1_call2 (p := p2) (pos := p7) e4 x.room x.gds (x.gl (gloB_ok gg)) e1 e2 e3 x.pass (pe_var (pos := p3) hp' (x.vis (visB_ok vp)) (okN_ok op).1 (okN_ok op).2) l1 (okN_ok og).1 rfl rfl
  refine ⟨_, pek_ix (p := p1) (pos := p8) hz' (x.vis (visB_ok vz)) l2 (fun _ _ => rfl) (okN_ok oz).1 (okN_ok oz).2, fun r m G W sg H Q hs er hr h => ?_⟩
  obtain ⟨s, hs⟩ := hs
  have ev : (r[z]?).bind Sl.read = some (⟨.v, .str s⟩ : R) := by rw [hs]; rfl
  obtain ⟨v, hv, av⟩ := var_at er ev
  obtain ⟨rfl, tx⟩ := av.1.str
  refine ⟨S s, hv, by rw [S_len]; exact tx.1, ?_⟩
  have h : PostR Nn X.mg X.K G W (((M.opt ((r[z]?).bind Sl.read)) m).bnd fun x0 m0 => ((((M.opt ((r[p]?).bind Sl.read)) m0).bnd fun x1 m1 => (((((M.opt ((r[z]?).bind Sl.read)) m1).bnd fun x2 m2 => (M.opt (b1D T.rp .len x2.d)) m2).bnd fun x3 m3 => Out.ok [x3] m3).bnd fun xs m4 => Out.ok (x1 :: xs) m4)).bnd fun rs m5 => callF T n f rs m5).bnd fun y m6 => (match ixS m6 x0.d y.d with | some d => .ok (R.v d) m6 | none => .st)) _ E := Post.toR h
  rw [ev] at h
  cases ep : (r[p]?).bind Sl.read with
  | none => rw [ep] at h; exact h.elim
  | some a1 =>
    rw [ep] at h
    obtain ⟨w, hw, aw⟩ := var_at er ep
    have h : PostR Nn X.mg X.K G W ((callF T n f [a1, ⟨.v, .int s.length⟩] m).bnd fun y m6 => (match ixS m6 (.str s) y.d with | some d => .ok (R.v d) m6 | none => .st)) _ E := h
    refine ⟨w, hw, S s, hv, by rw [S_len]; exact tx.1, W, G, m, [a1, ⟨.v, .int s.length⟩], hr, .cons aw (.cons ?_ .nil), h.un fun y m1 W1 H1 u l1 h1 q1 h2 => ?_⟩
    · rw [S_len]
      exact ⟨.inl (.int _), fun d e => by cases e; exact ⟨rfl, .int _⟩⟩
    · cases eix : ixS m1 (.str s) y.d with
      | none => rw [eix] at h2; exact h2.elim
      | some d =>
        rw [eix] at h2
        have eix : idxD (.str s) y.d = some d := eix
        cases hy : y.d with
        | int i =>
          rw [hy] at eix
          have eix : ((atN s.length i).bind fun j => (s[j]?).map fun c => D.str [c]) = some d := eix
          have q := q1.1
          rw [hy] at q
          cases e1 : atN s.length i with
          | none => rw [e1] at eix; cases eix
          | some j =>
            rw [e1] at eix
            have hj := atN_lt e1
            have eix : (s[j]?).map (fun c => D.str [c]) = some d := eix
            rw [List.getElem?_eq_getElem hj] at eix
            cases eix
            refine ⟨i, s[j], q.int, ?_, h2.ok h1 _ (.str [s[j]] ⟨by simp; decide, fun c hc => ?_⟩)⟩
            · show (ixN (S s).cps.toList.length i).bind _ = _
              have : (S s).cps.toList = s := by simp [S]
              rw [this, ← atN_eq, e1]
              exact List.getElem?_eq_getElem hj
            · have : c = s[j] := by simpa using hc
              subst this
              exact tx.2 _ (List.getElem_mem hj)
        | _ => rw [hy] at eix; cases eix
/-- text.replace(y, "") -/
theorem sen_repl {z i : Nat} {zn y : Str} {p1 p2 p3 ap pos : Pos} {j : Nat} (hz : N[z]? = some zn) (vz : visB sc zn = true) (oz : okN zn = true) (hy : sc.names.lookup y = some .local) (oy : okN y = true) (hl : (ap.endLine == pos.line) = true) :
    SEn T Nn n N sc y i (.Call (.Attribute (.Name zn p1) "replace" ap) [.Name y p2, .Constant (.str ⟨#[]⟩) j p3] [] pos) (.mreplace (.var z) (.var i) (.con (.str []))) := by
  intro E X x
  have hz' : X.N[z]? = some zn := by rw [x.pN]; exact hz
  refine ⟨_, pen_repl (iz := z) (iy := i) hz' (x.vis (visB_ok vz)) (by rw [show X.env.scope = sc from x.psc]; exact hy) (okN_ok oz).1 (okN_ok oz).2 (okN_ok oy).1 hl, fun r m G W sg H Q er hr h => ?_⟩
  have h : PostR Nn X.mg X.K G W (((M.opt ((r[z]?).bind Sl.read)) m).bnd fun x0 m0 => ((M.opt x0.d.str?) m0).bnd fun s m1 => ((M.opt ((r[i]?).bind Sl.read)) m1).bnd fun y0 m2 => ((M.opt y0.d.chr?) m2).bnd fun k m3 => ((M.guard (decide (s.length + (s.length + 1) * 0 ≤ big))) m3).bnd fun _ m4 => Out.ok (⟨.v, .str (replS s k [])⟩ : R) m4) _ E := Post.toR h
  obtain ⟨a, ea, h⟩ := h.opt
  obtain ⟨s, es, h⟩ := h.opt
  obtain ⟨b, eb, h⟩ := h.opt
  obtain ⟨k, ek, h⟩ := h.opt
  obtain ⟨v, hv, av⟩ := var_at er ea
  obtain ⟨w, hw, aw⟩ := var_at er eb
  have ed : a.d = .str s := by
    cases hd : a.d <;> rw [hd] at es <;> first | (cases es; rfl) | cases es
  have ed2 : b.d = .str [k] := by
    cases hd : b.d with
    | str t =>
      rw [hd] at ek
      match t, ek with
      | [c], ek => cases ek; rfl
    | _ => rw [hd] at ek; cases ek
  have qa := av.1
  rw [ed] at qa
  obtain ⟨rfl, tx⟩ := qa.str
  have qb := aw.1
  rw [ed2] at qb
  obtain ⟨rfl, _⟩ := qb.str
  by_cases hb : s.length + (s.length + 1) * 0 ≤ big
  · rw [show decide (s.length + (s.length + 1) * 0 ≤ big) = true from decide_eq_true hb] at h
    refine ⟨S s, k, hv, hw, ?_, ?_⟩
    · rw [S_len]
      exact tx.1
    · rw [replS_eq]
      exact PostR.ok (show PostR Nn X.mg X.K G W (.ok (⟨.v, .str (replS s k [])⟩ : R) m) _ E from h) hr _ (.str _ (replS_ok tx))
  · rw [show decide (s.length + (s.length + 1) * 0 ≤ big) = false from decide_eq_false hb] at h
    exact h.elim
theorem chkN0_ok {y : Str} {i : Nat} {c : CE} {e : PySem.Expr} (hy : sc.names.lookup y = some .local) (oy : okN y = true) (h : chkN0 N sc y i c e = true) : SEn T Nn n N sc y i e c := by
  unfold chkN0 at h
  split at h
  · rename_i z i' zn yn m ap s pos h1 h2
    obtain ⟨h, b8⟩ := ba h
    obtain ⟨h, b7⟩ := ba h
    obtain ⟨h, b6⟩ := ba h
    obtain ⟨h, b5⟩ := ba h
    obtain ⟨h, b4⟩ := ba h
    obtain ⟨h, b3⟩ := ba h
    obtain ⟨b1, b2⟩ := ba h
    obtain ⟨p1, p2, j, p3, rfl⟩ := eR_ok h2
    have := cR_ok h1
    subst this
    have := of_decide_eq_true b1
    subst this
    have := of_decide_eq_true b2
    subst this
    have := eq_of_beq b3
    subst this
    have := of_decide_eq_true b4
    subst this
    exact sen_repl (eq_of_beq b6) b7 b8 hy oy b5
  · cases h
/-- f(p, e) -/
theorem sen_call {y : Str} {i f p : Nat} {g pn : Str} {p1 p2 p3 : Pos} {b : PySem.Expr} {c : CE} (hf : Nn.fn[f]? = some g) (gg : gloB sc g = true) (og : okN g = true) (hp : N[p]? = some pn) (vp : visB sc pn = true) (op : okN pn = true) (hb : notStar b = true) (h : SEn T Nn n N sc y i b c) :
    SEn T Nn n N sc y i (.Call (.Name g p1) [.Name pn p2, b] [] p3) (.call f (.cons (.var p) (.cons c .nil))) := by
  intro E X x
  obtain ⟨a, fd, ps, e1, e2, e3, e4⟩ := x.base.fn f g hf
  obtain ⟨t, pe, fa⟩ := h E X x
  have hp' : X.N[p]? = some pn := by rw [x.pN]; exact hp
  refine ⟨_, pen_call2 e4 x.room x.gds (x.gl (gloB_ok gg)) e1 e2 e3 x.pass hp' (x.vis (visB_ok vp)) (okN_ok op).1 (okN_ok op).2 pe (okN_ok og).1 hb, fun r m G W sg H Q er hr h => ?_⟩
  have h : PostR Nn X.mg X.K G W ((((M.opt ((r[p]?).bind Sl.read)) m).bnd fun x1 m1 => (((evE (cxE T n) c r m1).bnd fun x3 m3 => Out.ok [x3] m3).bnd fun xs m4 => Out.ok (x1 :: xs) m4)).bnd fun rs m5 => callF T n f rs m5) _ E := Post.toR h
  cases ep : (r[p]?).bind Sl.read with
  | none => rw [ep] at h; exact h.elim
  | some a1 =>
    rw [ep] at h
    obtain ⟨w, hw, aw⟩ := var_at er ep
    have h : PostR Nn X.mg X.K G W ((((evE (cxE T n) c r m).bnd fun x3 m3 => Out.ok [x3] m3).bnd fun xs m4 => Out.ok (a1 :: xs) m4).bnd fun rs m5 => callF T n f rs m5) _ E := h
    rw [bnd_bnd, bnd_bnd] at h
    refine ⟨w, hw, use1 fa er hr h fun x m1 W1 H1 v l1 h1 q1 p1 => ?_⟩
    exact ⟨W1, G, m1, [a1, x], h1, .cons (aw.mono l1) (.cons q1 .nil), Post.fromR p1⟩
theorem chkN1_ok {y : Str} {i : Nat} {c : CE} {e : PySem.Expr} (hy : sc.names.lookup y = some .local) (oy : okN y = true) (h : chkN1 N Nn sc y i c e = true) : SEn T Nn n N sc y i e c := by
  unfold chkN1 at h
  split at h
  · rename_i f p c' g pn x h1 h2
    obtain ⟨h, b8⟩ := ba h
    obtain ⟨h, b7⟩ := ba h
    obtain ⟨h, b6⟩ := ba h
    obtain ⟨h, b5⟩ := ba h
    obtain ⟨h, b4⟩ := ba h
    obtain ⟨h, b3⟩ := ba h
    obtain ⟨b1, b2⟩ := ba h
    obtain ⟨p1, p2, p3, rfl⟩ := eC_ok h2
    have := cC_ok h1
    subst this
    exact sen_call (eq_of_beq b1) b2 b3 (eq_of_beq b4) b5 b6 b7 (chkN0_ok hy oy b8)
  · exact chkN0_ok hy oy h
/-- (e, ..) -/
theorem sen_tup {y : Str} {i : Nat} {e : PySem.Expr} {es : List PySem.Expr} {c : CE} {cs : CEs} {k : Nat} {pos : Pos} (h1 : SEn T Nn n N sc y i e c) (h2 : SEs T Nn n N sc es cs) (hs : notStar e = true) (hl : cs.len ≤ 999) : SEn T Nn n N sc y i (.Tuple (e :: es) k pos) (.tup (.cons c cs)) := by
  intro E X x
  obtain ⟨t, pe, f⟩ := h1 E X x
  obtain ⟨u, pa, g⟩ := h2 E X x
  refine ⟨_, pen_tup (pan_cons pe pa hs), fun r m G W sg H Q er hr p => ?_⟩
  have p : PostR Nn X.mg X.K G W (((evE (cxE T n) c r m).bnd fun x m1 => (evEs (cxE T n) cs r m1).bnd fun xs m2 => .ok (x :: xs) m2).bnd fun rs m1 => ((M.opt (keepAll rs)) m1).bnd fun ds m2 => .ok (R.v (.tup ds)) m2) _ E := Post.toR p
  simp only [bnd_bnd] at p
  refine use1 f er hr p fun x m1 W1 H1 v l1 h1 q1 p1 => ?_
  refine useA g (er.mono l1 (Same.refl _)) h1 p1 fun rs m2 W2 H2 vs l2 h2 q2 e2 p2 => ?_
  have p2 : PostR Nn X.mg X.K G W2 (((M.opt (keepAll (x :: rs))) m2).bnd fun ds m2 => .ok (R.v (.tup ds)) m2) _ E := p2
  obtain ⟨ds, e3, p3⟩ := p2.opt
  have q := keepAll_vs (.cons (q1.mono l2) q2) e3
  refine ⟨small_line ?_, fun a o ho ha => ?_⟩
  · rw [q.length, keepAll_len e3]
    show rs.length + 1 ≤ 1000
    omega
  · obtain ⟨l3, h3, q3⟩ := new_tup h2 ho ha q (small_line (by rw [keepAll_len e3]; show rs.length + 1 ≤ 1000; omega))
    exact (p3.mono l3).ok h3 _ q3
/-- a statement in front -/
theorem seq_post {c : CS} {cs : CSs} {mg : Str → Option Value} {K : PySem.W.Frag} {U : L2.St → Hp → Prop} (p : PostS Nn mg K G0 W (exSs (cxE T n) (.cons c cs) r m) D E)
    (g : ∀ r2 m2 W' G' sg' H', W.Le W' → HR K W' G' H' m2 → SR K W' G0 G' sg' r2 → PostS Nn mg K G0 W' (exSs (cxE T n) cs r2 m2) D E → U sg' H') : PostS Nn mg K G0 W (exS (cxE T n) c r m) { D with nx := U } E := by
  have p : PostS Nn mg K G0 W (match exS (cxE T n) c r m with | .ok (.nx r2) m2 => exSs (cxE T n) cs r2 m2 | o => o) D E := p
  cases e : exS (cxE T n) c r m with
  | ok fl m2 =>
    rw [e] at p
    cases fl with
    | nx r2 => exact fun W' G' sg' H' l h1 s1 => g r2 m2 W' G' sg' H' l h1 s1 (p.mono l)
    | br r2 => exact p
    | ct r2 => exact p
    | rt x => exact p
  | ex x r2 m2 => rw [e] at p; exact p
  | st => rw [e] at p; exact p
theorem sss_rep {e1 e2 : PySem.Expr} {c1 c2 : CE} {cs : CSs} {y w : Str} {i j z : Nat} {own : Bool} {p1 q1 p2 q2 : Pos} {rest : List Stmt} (hi : N[i]? = some y) (hj : N[j]? = some w) (hk : sc.names.lookup y = some .local) (hw : Loc sc w) (n1 : notComp e1 = true) (n2 : notComp e2 = true)
    (h1 : SEK T Nn n N sc z e1 c1) (h2 : SEn T Nn n N sc y i e2 c2) (h3 : SSs T Nn n N sc rest cs) :
    SSs T Nn n N sc (.Assign [.Name y p1] e1 q1 :: .Assign [.Name w p2] e2 q2 :: rest) (.cons (.isS z) (.cons (.set i false c1) (.cons (.set j own c2) cs))) := by
  intro E X x
  obtain ⟨t1, pe1, f1⟩ := h1 E X x.x
  obtain ⟨t2, pe2, f2⟩ := h2 E X x.x
  obtain ⟨u, qs, g⟩ := h3 E X x
  refine ⟨_, pss_rep x.nd (x.ix hi) (x.ix hj) (by rw [show X.env.scope = sc from x.x.psc]; exact hk) (x.loc hw) (x.fnA w) pe1 pe2 qs (sw_no n1 _ _ _) (sw_no n2 _ _ _), fun r m G0 G W sg H D sr hr p => ?_⟩
  have p : PostS Nn X.mg X.K G0 W (match (match r[z]? with | some (.val (.str _)) => (.ok (.nx r) m : OutS) | _ => .st) with | .ok (.nx r2) m2 => exSs (cxE T n) (.cons (.set i false c1) (.cons (.set j own c2) cs)) r2 m2 | o => o) D E := p
  have hz : ∃ s, r[z]? = some (.val (.str s)) := by
    cases e : r[z]? with
    | none => rw [e] at p; exact p.elim
    | some sl =>
      rw [e] at p
      cases sl with
      | val d =>
        cases d with
        | str s => exact ⟨s, rfl⟩
        | _ => exact p.elim
      | _ => exact p.elim
  obtain ⟨s, hz⟩ := hz
  rw [hz] at p
  have p : PostS Nn X.mg X.K G0 W (exSs (cxE T n) (.cons (.set i false c1) (.cons (.set j own c2) cs)) r m) D E := p
  have p1 := seq_post (U := tSeq (tAsg t2 (gName j)) u D) p fun r2 m2 W' G' sg' H' l h1 s1 p => by
    have p2 := seq_post (U := u D) p fun r3 m3 W3 G3 sg3 H3 l3 h3 s3 p => g r3 m3 G0 G3 W3 sg3 H3 D s3 h3 p
    have p2 : PostS Nn X.mg X.K G0 W' (onE (evE (cxE T n) c2 r2) r2 (fun x m => nxt ((slotOf own x).map fun s => r2.set j s) m) m2) _ E := p2
    exact useRaw f2 s1.er h1 (onE_R s1.sub p2) fun x m1 W1 H1 v l1 h1 q1 p1 => set_done (s1.mono l1) h1 q1 p1
  have p1 : PostS Nn X.mg X.K G0 W (onE (evE (cxE T n) c1 r) r (fun x m => nxt ((slotOf false x).map fun s => r.set i s) m) m) _ E := p1
  have p1 := onE_R sr.sub p1
  refine f1 r m G W sg H _ ⟨s, hz⟩ sr.er hr ?_
  cases e : evE (cxE T n) c1 r m with
  | ok x m1 => rw [e] at p1; exact fun W1 H1 v l1 h1 q => set_done (sr.mono l1) h1 q (p1 W1 H1 l1 h1)
  | ex x m1 => rw [e] at p1; exact p1
  | st => rw [e] at p1; exact p1
end
end Dn

/-! Dn19 -/
set_option Elab.async false
set_option linter.all false
set_option maxRecDepth 100000
set_option maxHeartbeats 4000000
/-! Dn19: the look is sound, statements. -/
namespace Dn
open PySem PySem.Spec PyProof.Rows L2
section
variable {T : Tb} {Nn : Tn} {n : Nat} {N : List Str} {sc : Scope}
/-- name = e -/
theorem okSet {i : Nat} {y : Str} {p1 pos : Pos} {e : PySem.Expr} {own : Bool} {c : CE} (hk : sc.kind = .function) (h1 : N[i]? = some y) (h2 : locB sc y = true) (h3 : (notComp e || isLc e) = true) (h4 : chkE N Nn c sc e = true) : SS T Nn n N sc (.Assign [.Name y p1] e pos) (.set i own c) := by
  by_cases hn : notComp e = true
  · exact ss_set h1 (locB_ok h2) (okE c sc e h4).se fun env _ => sw_no hn _ _ _
  · have hn : notComp e = false := by simpa using hn
    rw [hn, Bool.false_or] at h3
    match e, h3, h4 with
    | .ListComp elt [g] scope p2, h3, h4 =>
      cases hb : (sc.kind == .function && sc.names.lookup y == some .local && p1.line == p2.line && !(scope.names.any fun (n, k) => n == y && (k == .local || k == .cell))) with
      | false => exact ss_set h1 (locB_ok h2) (okE c sc _ h4).se (sw_false hb hk)
      | true =>
        obtain ⟨hb, b4⟩ := ba hb
        obtain ⟨hb, b3⟩ := ba hb
        obtain ⟨b1, b2⟩ := ba hb
        rw [Bool.not_eq_true'] at b4
        by_cases hc : ∃ own' tg it cond elt', c = .comp own' tg it cond elt'
        · obtain ⟨own', tg, it, cond, elt', rfl⟩ := hc
          have h : (match one (.ListComp elt [g] scope p2) with
            | .ListComp x [⟨y, z, ifs, 0⟩] scope _ => decide ((pairs N own').map (·.2) = own') && blkB N sc scope (pairs N own') && tgB N scope own' y tg && notSet z && chkI N Nn it sc y z && chkC N Nn cond (relS scope sc) ifs && chkE N Nn elt' (relS scope sc) x
            | _ => false) = true := h4
          split at h
          · rename_i x y2 z ifs scope2 p he
            have he : PySem.Expr.ListComp elt [g] scope p2 = PySem.Expr.ListComp x [⟨y2, z, ifs, 0⟩] scope2 p := he
            cases he
            obtain ⟨h, h7⟩ := ba h
            obtain ⟨h, h6⟩ := ba h
            obtain ⟨h, h5⟩ := ba h
            obtain ⟨h, h4⟩ := ba h
            obtain ⟨h, h3⟩ := ba h
            obtain ⟨h1', h2'⟩ := ba h
            have e1 := of_decide_eq_true h1'
            have t := tgB_ok h3
            have := ss_setLc (T := T) (Nn := Nn) (n := n) (own := pairs N own') (pos := p2) (spos := pos) (py := p1) (ow := own) h1 (eq_of_beq b2) b3 b4 (okI it sc y2 z h5) (blkB_ok h2') t.ix t.nm (fun i hi => pairs_ok e1 (t.sub i hi)) (okC cond (relS scope sc) ifs h6) (okE elt' (relS scope sc) elt h7).se (fold_of h4)
            rw [e1] at this
            exact this
          · cases h
        · by_cases hnv : c = .never
          · subst hnv
            exact fun E X x => ⟨_, ps_never, fun r m G0 G W sg H D sr hr p => p.elim⟩
          exfalso
          cases c with
          | comp a b c d e => exact hc ⟨_, _, _, _, _, rfl⟩
          | con d => cases d <;> cases h4
          | lsti it => cases it <;> cases h4
          | never => exact hnv rfl
          | _ => cases h4
theorem nms_all : ∀ {ts : List PySem.Expr} {is : List Nat}, nmIx N ts is = true → ∃ ys : List (Str × Pos), ts = ys.map (fun q => .Name q.1 q.2) ∧ nmsOf ts = ys.map (·.1) ∧ ys.length = is.length ∧ ∀ (j : Nat) (q : Str × Pos) (i : Nat), ys[j]? = some q → is[j]? = some i → N[i]? = some q.1
  | [], [], _ => ⟨[], rfl, rfl, rfl, fun j q i h => by simp at h⟩
  | [], _ :: _, h => by cases h
  | e :: _, [], h => by cases e <;> cases h
  | e :: es, i :: is, h => by
    cases e with
    | Name x p =>
      obtain ⟨h1, h2⟩ := ba (show ((N[i]? == some x) && nmIx N es is) = true from h)
      obtain ⟨ys, a1, a2, a3, a4⟩ := nms_all h2
      refine ⟨(x, p) :: ys, by rw [a1]; rfl, by show x :: nmsOf es = _; rw [a2]; rfl, by simp [a3], fun j q i' q1 q2 => ?_⟩
      cases j with
      | zero => simp at q1 q2; subst q1; subst q2; exact eq_of_beq h1
      | succ j => exact a4 j q i' (by simpa using q1) (by simpa using q2)
    | _ => cases h
theorem okPar {ts es : List PySem.Expr} {k k2 : Nat} {p1 p2 pos : Pos} {is : List Nat} {os : List Bool} {cs : CEs} (h1 : nmIx N ts is = true) (q1 : ∀ x ∈ nmsOf ts, sc.names.lookup x = some .local) (q2 : is.Nodup) (q3 : (is.length == 2 || is.length == 3) = true) (q4 : es.length = is.length)
    (g : SP' T Nn n N sc es cs) (hw : ∀ env : PySem.Env, env.scope = sc → swappedStores [.Tuple ts k p1] (.Tuple es k2 p2) env = pure (some (nmsOf ts))) : SS T Nn n N sc (.Assign [.Tuple ts k p1] (.Tuple es k2 p2) pos) (.par is os cs) := by
  obtain ⟨ys, rfl, a2, a3, a4⟩ := nms_all h1
  rw [a2] at q1 hw
  match is, q3, es, q4, ys, a3 with
  | [i, j], _, [a, b], _, [y, z], _ =>
    exact ss_par2 (a4 0 y i rfl rfl) (a4 1 z j rfl rfl) (by simpa using q2) (q1 _ (by simp)) (q1 _ (by simp)) g hw
  | [i, j, l], _, [a, b, c], _, [y, z, u], _ =>
    have q2 : (i ≠ j ∧ i ≠ l) ∧ j ≠ l := by simpa using q2
    exact ss_par3 (a4 0 y i rfl rfl) (a4 1 z j rfl rfl) (a4 2 u l rfl rfl) q2.1.1 q2.1.2 q2.2 (q1 _ (by simp)) (q1 _ (by simp)) (q1 _ (by simp)) g hw
  | [], q3, _, _, _, _ => cases q3
  | [_], q3, _, _, _, _ => cases q3
  | _ :: _ :: _ :: _ :: _, q3, _, _, _, _ => simp at q3
theorem okRp (hk : sc.kind = .function) {z : Nat} {c1 c2 : CS} {s1 s2 : Stmt} {cs : CSs} {ss : List Stmt} (h : chkRp N Nn sc z c1 c2 s1 s2 = true) (g : SSs T Nn n N sc ss cs) : SSs T Nn n N sc (s1 :: s2 :: ss) (.cons (.isS z) (.cons c1 (.cons c2 cs))) := by
  unfold chkRp at h
  split at h
  · rename_i i o d1 j own d2 y e1 w e2 a1 a2 a3 a4
    obtain ⟨h, b10⟩ := ba h
    obtain ⟨h, b9⟩ := ba h
    obtain ⟨h, b8⟩ := ba h
    obtain ⟨h, b7⟩ := ba h
    obtain ⟨h, b6⟩ := ba h
    obtain ⟨h, b5⟩ := ba h
    obtain ⟨h, b4⟩ := ba h
    obtain ⟨h, b3⟩ := ba h
    obtain ⟨b1, b2⟩ := ba h
    have := cS_ok a1
    subst this
    have := cS_ok a2
    subst this
    obtain ⟨p1, q1, rfl⟩ := sK_ok a3
    obtain ⟨p2, q2, rfl⟩ := sK_ok a4
    have ho : o = false := by simpa using b1
    subst ho
    have hy := of_decide_eq_true b3
    refine sss_rep (eq_of_beq b2) (eq_of_beq b5) hy (locB_ok b6) b7 b8 ?_ ?_ g
    · unfold chkK at b9
      split at b9
      · rename_i z1 f p z2 zn g pn ln zn2 k1 k2
        obtain ⟨h, c14⟩ := ba b9
        obtain ⟨h, c13⟩ := ba h
        obtain ⟨h, c12⟩ := ba h
        obtain ⟨h, c11⟩ := ba h
        obtain ⟨h, c10⟩ := ba h
        obtain ⟨h, c9⟩ := ba h
        obtain ⟨h, c8⟩ := ba h
        obtain ⟨h, c7⟩ := ba h
        obtain ⟨h, c6⟩ := ba h
        obtain ⟨h, c5⟩ := ba h
        obtain ⟨h, c4⟩ := ba h
        obtain ⟨h, c3⟩ := ba h
        obtain ⟨c1, c2⟩ := ba h
        have := cK_ok k1
        subst this
        obtain ⟨_, _, _, _, _, _, _, _, rfl⟩ := eK_ok k2
        have := of_decide_eq_true c1
        subst this
        have := of_decide_eq_true c2
        subst this
        have := of_decide_eq_true c3
        subst this
        have := eq_of_beq c4
        subst this
        exact sek_ix (eq_of_beq c6) c7 c8 (eq_of_beq c9) c10 c11 (eq_of_beq c12) c13 c14 c5
      · cases b9
    · rw [Bool.or_eq_true] at b10
      rcases b10 with b10 | b10
      · exact chkN1_ok hy b4 b10
      · split at b10
        · rename_i d3 ds x xs k p _ _
          obtain ⟨h, c4⟩ := ba b10
          obtain ⟨h, c3⟩ := ba h
          obtain ⟨c1, c2⟩ := ba h
          exact sen_tup (chkN1_ok hy b4 c2) (okEs ds sc xs c3).1 c1 (of_decide_eq_true c4)
        · cases b10
  · cases h
mutual
theorem okS (hk : sc.kind = .function) : ∀ (c : CS) (s : Stmt), chkS N Nn sc c s = true → SS T Nn n N sc s c
  | .set i own c, s, h => by
    have h : (match (generalizing := false) s with
      | .Assign [.Name y _] e _ => (N[i]? == some y) && locB sc y && (notComp e || isLc e) && chkE N Nn c sc e
      | _ => false) = true := h
    split at h
    · obtain ⟨h, h4⟩ := ba h
      obtain ⟨h, h3⟩ := ba h
      obtain ⟨h1, h2⟩ := ba h
      exact okSet hk (eq_of_beq h1) h2 h3 h4
    · cases h
  | .unp is c, s, h => by
    have h : (match (generalizing := false) s with
      | .Assign [.Tuple ts _ _] e _ => nmIx N ts is && (nmsOf ts).all (fun x => locB sc x) && notTup e && chkE N Nn c sc e
      | _ => false) = true := h
    split at h
    · obtain ⟨h, h4⟩ := ba h
      obtain ⟨h, h3⟩ := ba h
      obtain ⟨h1, h2⟩ := ba h
      exact ss_unp h1 (fun x hx => locB_ok (List.all_eq_true.mp h2 x hx)) (okE c sc _ h4).se h3
    · cases h
  | .par is os cs, s, h => by
    have h : (match (generalizing := false) s with
      | .Assign [.Tuple ts k p1] (.Tuple es k2 p2) pos => nmIx N ts is && (nmsOf ts).all (fun x => locB sc x) && decide (is.length ≤ 1000) && chkEs N Nn cs sc es && (match swpB sc ts es with
        | some none => true
        | some (some _) => (nmsOf ts).all (fun x => decide (sc.names.lookup x = some .local)) && decide is.Nodup && (is.length == 2 || is.length == 3) && decide (es.length = is.length) && decide (swpB sc ts es = some (some (nmsOf ts)))
        | none => false)
      | _ => false) = true := h
    split at h
    · rename_i ts k p1 es k2 p2 pos _
      obtain ⟨h, h5⟩ := ba h
      obtain ⟨h, h4⟩ := ba h
      obtain ⟨h, h3⟩ := ba h
      obtain ⟨h1, h2⟩ := ba h
      have hl : ∀ x ∈ nmsOf ts, Loc sc x := fun x hx => locB_ok (List.all_eq_true.mp h2 x hx)
      have gs := (okEs (T := T) (n := n) cs sc es h4).2
      split at h5
      · rename_i e0
        exact ss_par h1 hl gs (swpB_ok hk e0) (of_decide_eq_true h3)
      · obtain ⟨h, q5⟩ := ba h5
        obtain ⟨h, q4⟩ := ba h
        obtain ⟨h, q3⟩ := ba h
        obtain ⟨q1, q2⟩ := ba h
        have q1 := fun x hx => of_decide_eq_true (List.all_eq_true.mp q1 x hx)
        have q2 := of_decide_eq_true q2
        have q4 := of_decide_eq_true q4
        have q5 := of_decide_eq_true q5
        exact okPar h1 q1 q2 q3 q4 gs (swpB_ok hk q5)
      · cases h5
    · cases h
  | .oset i k c, s, h => by
    have h : (match (generalizing := false) s with
      | .Assign [.Subscript (.Name y _) x _] e _ => (N[i]? == some y) && visB sc y && okN y && notSl x && chkE N Nn k sc x && chkE N Nn c sc e
      | _ => false) = true := h
    split at h
    · obtain ⟨h, h6⟩ := ba h
      obtain ⟨h, h5⟩ := ba h
      obtain ⟨h, h4⟩ := ba h
      obtain ⟨h, h3⟩ := ba h
      obtain ⟨h1, h2⟩ := ba h
      exact ss_oset (eq_of_beq h1) (visB_ok h2) (okN_ok h3).1 (okN_ok h3).2 (okE k sc _ h5).se (okE c sc _ h6).se h4
    · cases h
  | .sset a k c, s, h => by
    have h : (match (generalizing := false) s with
      | .Assign [.Subscript o x _] e _ => notSl x && chkE N Nn a sc o && chkE N Nn k sc x && chkE N Nn c sc e
      | _ => false) = true := h
    split at h
    · obtain ⟨h, h4⟩ := ba h
      obtain ⟨h, h3⟩ := ba h
      obtain ⟨h1, h2⟩ := ba h
      exact ss_sset (okE a sc _ h2).se (okE k sc _ h3).se (okE c sc _ h4).se h1
    · cases h
  | .aug i o c, s, h => by
    have h : (match (generalizing := false) s with
      | .AugAssign (.Name y _) p e _ => (N[i]? == some y) && locB sc y && decide (p = augOp o) && chkE N Nn c sc e
      | _ => false) = true := h
    split at h
    · obtain ⟨h, h4⟩ := ba h
      obtain ⟨h, h3⟩ := ba h
      obtain ⟨h1, h2⟩ := ba h
      have := of_decide_eq_true h3
      subst this
      exact ss_aug o (eq_of_beq h1) (locB_ok h2) (okE c sc _ h4).se
    · cases h
  | .app i c, s, h => by
    have h : (match (generalizing := false) s with
      | .Expr (.Call (.Attribute (.Name y _) m ap) [e] [] p) _ => (N[i]? == some y) && visB sc y && okN y && (m == ("append" : Str)) && (ap.endLine == p.line) && notStar e && chkE N Nn c sc e
      | _ => false) = true := h
    split at h
    · obtain ⟨h, h7⟩ := ba h
      obtain ⟨h, h6⟩ := ba h
      obtain ⟨h, h5⟩ := ba h
      obtain ⟨h, h4⟩ := ba h
      obtain ⟨h, h3⟩ := ba h
      obtain ⟨h1, h2⟩ := ba h
      have := eq_of_beq h4
      subst this
      exact ss_app (eq_of_beq h1) (visB_ok h2) (okN_ok h3).1 (okN_ok h3).2 (okE c sc _ h7).se h5 h6
    · cases h
  | .ext _ _, s, h => by cases h
  | .oins i k c, s, h => by
    have h : (match (generalizing := false) s with
      | .Expr (.Call (.Attribute (.Name y _) m ap) [a, e] [] p) _ => (N[i]? == some y) && visB sc y && okN y && (m == ("insert" : Str)) && (ap.endLine == p.line) && notStar a && notStar e && chkE N Nn k sc a && chkE N Nn c sc e
      | _ => false) = true := h
    split at h
    · obtain ⟨h, h9⟩ := ba h
      obtain ⟨h, h8⟩ := ba h
      obtain ⟨h, h7⟩ := ba h
      obtain ⟨h, h6⟩ := ba h
      obtain ⟨h, h5⟩ := ba h
      obtain ⟨h, h4⟩ := ba h
      obtain ⟨h, h3⟩ := ba h
      obtain ⟨h1, h2⟩ := ba h
      have := eq_of_beq h4
      subst this
      exact ss_oins (eq_of_beq h1) (visB_ok h2) (okN_ok h3).1 (okN_ok h3).2 (okE k sc _ h8).se (okE c sc _ h9).se h5 h6 h7
    · cases h
  | .sdapp _ _ _, s, h => by cases h
  | .expr c, s, h => by
    have h : (match (generalizing := false) s with
      | .Expr e _ => notComp e && chkE N Nn c sc e
      | _ => false) = true := h
    split at h
    · obtain ⟨h1, h2⟩ := ba h
      exact ss_expr (okE c sc _ h2).se h1
    · cases h
  | .doc, s, h => by
    have h : (match (generalizing := false) s with | .Expr (.Constant (.str _) _ _) _ => true | _ => false) = true := h
    split at h
    · exact ss_doc
    · cases h
  | .pass, s, h => by
    have h : (match (generalizing := false) s with | .Pass _ => true | _ => false) = true := h
    split at h
    · exact ss_pass
    · cases h
  | .frz _, s, h => by cases h
  | .isS _, s, h => by cases h
  | .ite c a b, s, h => by
    have h : (match (generalizing := false) s with
      | .If x p q _ => notIf x && chkE N Nn c sc x && chkSs N Nn sc a p && chkSs N Nn sc b q
      | _ => false) = true := h
    split at h
    · obtain ⟨h, h4⟩ := ba h
      obtain ⟨h, h3⟩ := ba h
      obtain ⟨_, h2⟩ := ba h
      exact ss_ite (okE c sc _ h2).st (okSs hk a _ h3) (okSs hk b _ h4)
    · cases h
  | .for_ tg it b, s, h => by
    have h : (match (generalizing := false) s with
      | .For x y p [] _ => tgIx N x tg && (tgNms x).all (fun z => locB sc z) && notSet y && chkI N Nn it sc x y && chkSs N Nn sc b p
      | _ => false) = true := h
    split at h
    · obtain ⟨h, h5⟩ := ba h
      obtain ⟨h, h4⟩ := ba h
      obtain ⟨h, h3⟩ := ba h
      obtain ⟨h1, h2⟩ := ba h
      exact ss_for (okI it sc _ _ h4) h1 (fun x hx => locB_ok (List.all_eq_true.mp h2 x hx)) (okSs hk b _ h5) (fold_of h3)
    · cases h
  | .while_ c b, s, h => by
    have h : (match (generalizing := false) s with
      | .While x p [] _ => notIf x && chkE N Nn c sc x && chkSs N Nn sc b p
      | _ => false) = true := h
    split at h
    · obtain ⟨h, h3⟩ := ba h
      obtain ⟨_, h2⟩ := ba h
      exact ss_while (okE c sc _ h2).st (okSs hk b _ h3)
    · cases h
  | .ret c, s, h => by
    have h : (match (generalizing := false) s with | .Return (some e) _ => chkE N Nn c sc e | _ => false) = true := h
    split at h
    · exact ss_ret (okE c sc _ h).se
    · cases h
  | .retN, s, h => by
    have h : (match (generalizing := false) s with | .Return none _ => true | _ => false) = true := h
    split at h
    · exact ss_retN
    · cases h
  | .retF i, s, h => by
    have h : (match (generalizing := false) s with | .Return (some (.Name z _)) _ => (N[i]? == some z) && visB sc z && okN z | _ => false) = true := h
    split at h
    · obtain ⟨h, h3⟩ := ba h
      obtain ⟨h1, h2⟩ := ba h
      exact ss_retF (eq_of_beq h1) (visB_ok h2) (okN_ok h3).1 (okN_ok h3).2
    · cases h
  | .raise _ _, s, h => by cases h
  | .brk, s, h => by
    have h : (match (generalizing := false) s with | .Break _ => true | _ => false) = true := h
    split at h
    · exact ss_brk
    · cases h
  | .cont, s, h => by
    have h : (match (generalizing := false) s with | .Continue _ => true | _ => false) = true := h
    split at h
    · exact ss_cont
    · cases h
  | .never, s, h => ss_never
theorem okSs (hk : sc.kind = .function) : ∀ (c : CSs) (ss : List Stmt), chkSs N Nn sc c ss = true → SSs T Nn n N sc ss c
  | .nil, [], h => sss_nil
  | .nil, _ :: _, h => by cases h
  | .cons c cs, ss, h => by
    by_cases hf : ∃ i, c = .frz i
    · obtain ⟨i, rfl⟩ := hf
      have h : chkSs N Nn sc cs ss = true := by cases ss <;> exact h
      exact sss_frz (okSs hk cs ss h)
    · by_cases hz : ∃ z, c = .isS z
      · obtain ⟨z, rfl⟩ := hz
        match cs, ss, h with
        | .cons c1 (.cons c2 cs'), s1 :: s2 :: ss', h =>
          have h : (chkRp N Nn sc z c1 c2 s1 s2 && chkSs N Nn sc cs' ss') = true := h
          obtain ⟨h1, h2⟩ := ba h
          exact okRp hk h1 (okSs hk cs' ss' h2)
        | .nil, ss, h => cases ss <;> cases h
        | .cons _ .nil, ss, h => cases ss <;> cases h
        | .cons _ (.cons _ _), [], h => cases h
        | .cons _ (.cons _ _), [_], h => cases h
      · cases ss with
        | nil => exfalso; cases c <;> first | exact hf ⟨_, rfl⟩ | exact hz ⟨_, rfl⟩ | cases h
        | cons s ss =>
          have h : (chkS N Nn sc c s && chkSs N Nn sc cs ss) = true := by cases c <;> first | exact absurd ⟨_, rfl⟩ hf | exact absurd ⟨_, rfl⟩ hz | exact h
          obtain ⟨h1, h2⟩ := ba h
          exact sss_cons (okS hk c s h1) (okSs hk cs ss h2)
end
end
end Dn

/-! DnE -/
set_option Elab.async false
set_option linter.all false
set_option maxRecDepth 100000
set_option maxHeartbeats 1000000
/-! DnE: the law's call, from the core's outcome. -/
namespace Dn
open PySem PySem.Spec PyProof.Rows L2
/-- the script's call, its def's promise known -/
theorem law_dn {P : Program} {w : World} {K : PySem.W.Frag} {mg mb : Str → Option Value} {k f : Nat} {T : Tb} {Nn : Tn} {fa a : Addr} {x : Str} {s₁ : Shared} {vs : List Value} {ns : List Int}
    (KX : K.In s₁.heap) (hns : s₁.heap.Ns mainGlobals mg) (hb : s₁.heap.Ns builtinsNs mb) (hbb : ∀ x : Str, x ≠ "__name__" → mb x = bootBuiltins x) (hlim : s₁.heap.NoLimit) (hg : s₁.gens = #[])
    (ha : s₁.heap.get? a = some { cls := .type "list", data := .seq vs.toArray }) (hi : IntsAre vs ns) (hl : ns.length ≤ sizeLine) (hr : Room k callerA)
    (F : ∀ base : Heap, K.In base → base.Ns mainGlobals mg → BaseOk T Nn P w K mg base k) (hf : Nn.fn[f]? = some x) (hm : mg x = some (.ref fa))
    (law : ∃ m', callF T k f [⟨.v, .scr ns⟩] [] = .ok ⟨.v, .bl true⟩ m') :
    codeAny (model P w) callerA (.call (.ref fa) ⟨[.ref a], []⟩) (fun r s' => r = .ok (.ret (.bool true)) ∧ OldK s₁.heap s'.heap ∧ s'.os = s₁.os ∧ AllBare s'.gens) s₁ := by
  have rv := vals_ints hi
  have lenV := hi.length
  have main : ∀ H : Hp, (∀ b u, H b = some u → b = a ∧ K.lookup a = none ∧ u = .frz { cls := .type "list", data := .seq vs.toArray } (.lst (ns.map V.int))) → SqL K H a (ns.map V.int) →
      codeAny (model P w) callerA (.call (.ref fa) ⟨[.ref a], []⟩) (fun r s' => r = .ok (.ret (.bool true)) ∧ OldK s₁.heap s'.heap ∧ s'.os = s₁.os ∧ AllBare s'.gens) s₁ := by
    intro H hH hS
    have out : ∀ {b : Addr} {o : Obj}, s₁.heap.get? b = some o → (b = a → o ≠ { cls := .type "list", data := .seq vs.toArray }) → H b = none := fun {b o} e n => by
      cases q : H b with
      | none => rfl
      | some u =>
        obtain ⟨rfl, _⟩ := hH b u q
        rw [ha] at e
        exact absurd (Option.some.inj e).symm (n rfl)
    have ns' : ∀ {b : Addr} {m : Str → Option Value}, s₁.heap.Ns b m → (hidT s₁.heap H).Ns b m := fun {b m} ⟨o, es, ep, e, d, r⟩ => by
      refine ⟨o, es, ep, hidT_get e (out e fun _ q => ?_), d, r⟩
      rw [q] at d
      cases d
    have hok : HOk P w H s₁.heap := fun b u z => by
      obtain ⟨rfl, _, rfl⟩ := hH b u z
      exact ⟨ha, by rw [List.length_map]; exact hl, vs, _, rv, ha⟩
    have hKb : K.In (hidT s₁.heap H) := fun b o e => hidT_get (KX b o e) (by
      cases q : H b with
      | none => rfl
      | some u =>
        obtain ⟨rfl, hn, _⟩ := hH b u q
        rw [hn] at e; cases e)
    have hM : Mod K mg (hidT s₁.heap H) := ⟨hKb, ns' hns, ⟨mb, ns' hb, hbb⟩, let ⟨mc, h1, h2⟩ := hlim; ⟨mc, ns' h1, h2⟩⟩
    have e0 : Env0 P w K mg (hidT s₁.heap H) callerA [] s₁ H := ⟨rfl, hM, fun b o e => of_hidT e, Nat.le_of_eq (hidT_size _ _), trivial, fun b hb => absurd (show b ∈ ([] : List Addr) from hb) (by simp), hok, .of_eq hg⟩
    have sp : spF T Nn mg K k f [.ref a] H (fun v _ => v = .bl true) fun _ _ _ => False := by
      refine ⟨⟨H, []⟩, fun _ => none, [], [⟨.v, .scr ns⟩], ⟨Same.refl _, fun b u z => (by cases z), fun b u z => (by cases z), rfl, fun k b c e => (by simp at e), fun b hb => (by simp at hb), fun b hb => rfl, List.nodup_nil⟩, .cons ?_ .nil, ?_⟩
      · have q : RV K ⟨H, []⟩ (.ref a) (.scr ns) := .scr hS hl
        exact ⟨.inl q, fun d e => by cases e; exact ⟨rfl, q⟩⟩
      · obtain ⟨m', e⟩ := law
        rw [e]
        intro W' H' v l h q
        have q : RV K W' v (.bl true) := q
        cases q
        rfl
    obtain ⟨fa', fd, ps, g1, g2, g3, g4⟩ := (F _ hKb (ns' hns)).fn f x hf
    rw [hm] at g1
    cases g1
    have hb' := g3 s₁ [.ref a] KX (g4.len _ _ _ _ sp)
    rw [List.append_nil] at hb'
    refine codeAny_mono (g4.run callerA [] s₁ H ⟨[.ref a], []⟩ [.ref a] [.ref a] _ _ hr rfl e0 hb' (.cons rfl .nil) sp) fun r s' h => ?_
    cases r with
    | error e =>
      obtain ⟨_, _, _, _, _, _, _, _, _, _, _, _, z⟩ := h
      exact z.elim
    | ok fl =>
      cases fl with
      | next => exact False.elim h
      | brk => exact False.elim h
      | cont => exact False.elim h
      | ret u =>
        obtain ⟨v, H', os, bare, un, hok', r', q⟩ := h
        have q' : v = .bl true := q
        subst q'
        obtain rfl : u = Value.bool true := r'
        refine ⟨rfl, OldK.of_keep fun b o e => ?_, os, bare⟩
        cases q : H b with
        | none => exact un.keep b o e q (by intro z; exact absurd (show b ∈ ([] : List Addr) from z) (by simp)) (by simp)
        | some u =>
          obtain ⟨rfl, _, rfl⟩ := hH b u q
          obtain ⟨e2, _⟩ := hok' _ _ (un.frzs _ _ _ q)
          rw [ha] at e
          rw [← e]
          exact e2
  cases hk : K.lookup a with
  | some o =>
    have e := KX a o hk
    rw [ha] at e
    cases e
    exact main (fun _ => none) (fun b u z => by cases z) (.inr ⟨_, vs.toArray, _, hk, rfl, rfl, rfl, by rw [List.size_toArray, lenV]; exact hl, by simpa using rv⟩)
  | none =>
    refine main (fun b => if b = a then some (.frz { cls := .type "list", data := .seq vs.toArray } (.lst (ns.map V.int))) else none) (fun b u z => ?_) (.inl (.inr ⟨{ cls := .type "list", data := .seq vs.toArray }, if_pos rfl⟩))
    by_cases hb : b = a
    · have z' := (if_pos hb).symm.trans z
      exact ⟨hb, hk, (Option.some.inj z').symm⟩
    · have z' := (if_neg hb).symm.trans z
      cases z'
/-- a law, over a head by facts -/
theorem walk_dn {l : PySem.W.OpenLaw} {n k : Nat} {q : Program} {loose : List Str} {XP : (Str → Option Value) → Heap → Prop} {YP : World → Heap → Prop} {d : DefRec}
    (hn : l.most = some n) (hn2 : n ≤ sizeLine) (hdf : d.params.defaults = []) (hr : Room k callerA)
    (F : ∀ (w : World) (mg : Str → Option Value) (fa : Addr) (h : Heap), YP w h → h.Ns mainGlobals mg → mg d.name = some (.ref fa) →
      ∃ (K : PySem.W.Frag) (T : Tb) (Nn : Tn) (f : Nat), K.In h ∧ Nn.fn[f]? = some d.name ∧
        (∀ ns : List Int, ns.length ≤ n → ∃ m', callF T k f [⟨.v, .scr ns⟩] [] = .ok ⟨.v, .bl true⟩ m') ∧
        ∀ base : Heap, K.In base → base.Ns mainGlobals mg → BaseOk T Nn l.prog w K mg base k) :
    PySem.W.WalkO q loose XP YP l.row.toRowW d [] (fun f vs => PySem.call f vs) := by
  refine Att.attach_call hn hdf fun w s₀ s₁ mg mb fa o pm cd doc a vs ns G Y ho hd hcd hmg hobj hints hlen hg => ?_
  obtain ⟨K, T, Nn, f, KX, hb, law, hF⟩ := F w mg fa _ Y G.T.g hmg
  exact law_dn KX G.T.g G.T.b G.T.builtins G.T.nolimit hg hobj hints (Nat.le_trans hlen hn2) hr hF hb hmg (law ns hlen)
/-- the names of built-ins that a text may not shadow -/
def freeNames : List Str := ["len", "tuple", "sorted", "int", "repr", "sum", "all", "any", "dict", "abs", "set", "list", "min", "isinstance", "range", "enumerate", "zip", "str", "bool"]
/-- a def of the text is as its core says -/
theorem def_ok {T : Tb} {Nn : Tn} {K : PySem.W.Frag} {mg : Str → Option Value} {f : Nat} {x : Str} {a : Addr} {fd : FuncData} {ps N : List Str} {params : Arguments} {body : List Stmt} {scope : Scope} {fn : Fn} (F : FunD K x x params body scope [] [] a fd) (g : mg x = some (.ref a)) (hf : T.fns[f]? = some fn)
    (hb : ∀ (kV doc pm : Value) (an : Option Addr) (cdv ct : Value) (us : List Value), us.length = ps.length → bindArgs (PySem.W.fnOf x x params body scope .none kV doc pm an cdv ct) ⟨us, []⟩ = pure (ps.zip us))
    (hs : C8.scC N ps scope = true) (hl : fn.modes.length = ps.length ∧ fn.ns = N.length) (hk : chkSs N Nn scope fn.body body = true) : DefOk T Nn K mg f x :=
  ⟨a, fd, ps, N, params, body, scope, fn, hf, g, F.kp, F.bindsN hb, F, C8.fnScope_by hs, hl.1, hl.2, fun n => okSs (C8.fnScope_by hs).kind fn.body body hk⟩
/-! ### tuples of the module -/
def tupNB (K : PySem.W.Frag) (x : Str) (vs : List He.Dv) : Bool := He.tupB K x vs && (match K.lookup (He.ga K x) with | some o => o.dict.isNone | none => false)
theorem tupNB_ok {K : PySem.W.Frag} {x : Str} {vs : List He.Dv} (h : tupNB K x vs = true) (H : Hp) : SqN K H (He.ga K x) (vs.map (He.Dv.v K)) := by
  unfold tupNB at h
  rw [Bool.and_eq_true] at h
  rcases He.tupB_ok h.1 (fun _ => none) with (q | ⟨_, q⟩) | ⟨o, its, n, e, hc, r⟩
  · cases q
  · cases q
  · have h2 := h.2
    rw [e] at h2
    exact .inr ⟨o, its, n, e, hc, Option.isNone_iff_eq_none.mp h2, r⟩
end Dn

/-! K02F -/
set_option Elab.async false
set_option linter.all false
set_option maxRecDepth 100000
set_option maxHeartbeats 4000000
namespace K02
open Dn
def glD : List D := [(.str [97, 98, 99, 100, 101, 102, 103, 104, 105, 106, 107, 108, 109, 110, 111, 112, 113, 114, 115, 116, 117, 118, 119, 120, 121, 122]), (.int 5)]
def f_is_integer : Fn := ⟨[false], 1, (.cons (.ret (.and (.isi .int (.var 0)) (.not (.isi .bool (.var 0))))) .nil)⟩
def f_is_column_set : Fn := ⟨[false, false], 3, (.cons (.ite (.or (.not (.isi .str (.var 1))) (.not (.b1 .all (.comp [2] (.nm 2) (.val (.var 1)) .none (.cmp .isin (.var 2) (.var 0)))))) (.cons (.ret (.con (.bl false))) .nil) .nil) (.cons (.ret (.cmp .eq (.lsti (.val (.var 1))) (.b1 .sortset (.var 1)))) .nil))⟩
def f_is_column : Fn := ⟨[false, false], 2, (.cons (.ret (.and (.isi .str (.var 1)) (.and (.cmp .eq (.b1 .len (.var 1)) (.con (.int 1))) (.cmp .isin (.var 1) (.var 0))))) .nil)⟩
def f_is_rule : Fn := ⟨[false, false], 2, (.cons (.ite (.or (.not (.isi .tup (.var 1))) (.or (.cmp .ne (.b1 .len (.var 1)) (.con (.int 2))) (.not (.call 1 (.cons (.var 0) (.cons (.idx (.var 1) (.con (.int 0))) .nil)))))) (.cons (.ret (.con (.bl false))) .nil) .nil) (.cons (.ret (.and (.call 2 (.cons (.var 0) (.cons (.idx (.var 1) (.con (.int 1))) .nil))) (.cmp .notin (.idx (.var 1) (.con (.int 1))) (.idx (.var 1) (.con (.int 0)))))) .nil))⟩
def f_is_schema : Fn := ⟨[false], 6, (.cons (.ite (.or (.not (.isi .tup (.var 0))) (.cmp .ne (.b1 .len (.var 0)) (.con (.int 3)))) (.cons (.ret (.con (.bl false))) .nil) .nil) (.cons (.unp [1, 2, 3] (.var 0)) (.cons (.ite (.or (.not (.call 1 (.cons (.glob 0) (.cons (.var 1) .nil)))) (.not (.chain .le .le (.con (.int 1)) (.b1 .len (.var 1)) (.glob 1)))) (.cons (.ret (.con (.bl false))) .nil) .nil) (.cons (.ite (.or (.not (.isi .tup (.var 2))) (.not (.b1 .all (.comp [4] (.nm 4) (.val (.var 2)) .none (.call 3 (.cons (.var 1) (.cons (.var 4) .nil))))))) (.cons (.ret (.con (.bl false))) .nil) .nil) (.cons (.ite (.or (.not (.isi .tup (.var 3))) (.not (.b1 .all (.comp [5] (.nm 5) (.val (.var 3)) .none (.and (.call 1 (.cons (.var 1) (.cons (.var 5) .nil))) (.cmp .ne (.var 5) (.con (.str [])))))))) (.cons (.ret (.con (.bl false))) .nil) .nil) (.cons (.ret (.and (.cmp .eq (.b1 .lenset (.var 2)) (.b1 .len (.var 2))) (.cmp .eq (.b1 .lenset (.var 3)) (.b1 .len (.var 3))))) .nil))))))⟩
def f_contains_all : Fn := ⟨[false, false], 3, (.cons (.ret (.b1 .all (.comp [2] (.nm 2) (.val (.var 1)) .none (.cmp .isin (.var 2) (.var 0))))) .nil)⟩
def f_is_unique : Fn := ⟨[false, false], 4, (.cons (.set 2 false (.call 7 (.cons (.var 0) (.cons (.var 1) .nil)))) (.cons (.ret (.b1 .any (.comp [3] (.nm 3) (.val (.idx (.var 0) (.con (.int 2)))) .none (.call 5 (.cons (.var 2) (.cons (.var 3) .nil)))))) .nil))⟩
def f_closure : Fn := ⟨[false, false], 7, (.cons (.par [2, 3] [false, false] (.cons (.var 1) (.cons (.con .non) .nil))) (.cons (.while_ (.cmp .ne (.var 2) (.var 3)) (.cons (.set 3 false (.var 2)) (.cons (.for_ (.tp [4, 5]) (.val (.idx (.var 0) (.con (.int 1)))) (.cons (.ite (.and (.call 5 (.cons (.var 2) (.cons (.var 4) .nil))) (.cmp .notin (.var 5) (.var 2))) (.cons (.aug 2 .add (.var 5)) .nil) .nil) .nil)) (.cons (.ite (.b1 .any (.comp [6] (.nm 6) (.val (.idx (.var 0) (.con (.int 2)))) .none (.call 5 (.cons (.var 2) (.cons (.var 6) .nil))))) (.cons (.set 2 false (.idx (.var 0) (.con (.int 0)))) .nil) .nil) .nil)))) (.cons (.ret (.join (.con (.str [])) (.b1 .sortset (.var 2)))) .nil)))⟩
def f_values_of : Fn := ⟨[false, false, false], 4, (.cons (.ret (.comp [3] (.nm 3) (.val (.var 2)) .none (.idx (.var 1) (.mindex (.idx (.var 0) (.con (.int 0))) (.var 3))))) .nil)⟩
def f_is_row : Fn := ⟨[false, false], 3, (.cons (.ite (.or (.not (.isi .tup (.var 1))) (.cmp .ne (.b1 .len (.var 1)) (.b1 .len (.idx (.var 0) (.con (.int 0)))))) (.cons (.ret (.con (.bl false))) .nil) .nil) (.cons (.ret (.b1 .all (.comp [2] (.nm 2) (.val (.var 1)) .none (.call 0 (.cons (.var 2) .nil))))) .nil))⟩
def f_fit_together : Fn := ⟨[false, false, false], 6, (.cons (.for_ (.tp [3, 4]) (.val (.idx (.var 0) (.con (.int 1)))) (.cons (.ite (.cmp .eq (.call 8 (.cons (.var 0) (.cons (.var 1) (.cons (.var 3) .nil)))) (.call 8 (.cons (.var 0) (.cons (.var 2) (.cons (.var 3) .nil))))) (.cons (.ite (.cmp .ne (.call 8 (.cons (.var 0) (.cons (.var 1) (.cons (.var 4) .nil)))) (.call 8 (.cons (.var 0) (.cons (.var 2) (.cons (.var 4) .nil))))) (.cons (.ret (.con (.bl false))) .nil) .nil) .nil) .nil) .nil)) (.cons (.ret (.b1 .all (.comp [5] (.nm 5) (.val (.idx (.var 0) (.con (.int 2)))) .none (.cmp .ne (.call 8 (.cons (.var 0) (.cons (.var 1) (.cons (.var 5) .nil)))) (.call 8 (.cons (.var 0) (.cons (.var 2) (.cons (.var 5) .nil)))))))) .nil))⟩
def f_is_table : Fn := ⟨[false, false], 5, (.cons (.ite (.or (.not (.isi .lst (.var 1))) (.not (.b1 .all (.comp [3] (.nm 3) (.val (.var 1)) .none (.call 9 (.cons (.var 0) (.cons (.var 3) .nil))))))) (.cons (.ret (.con (.bl false))) .nil) .nil) (.cons (.for_ (.tp [2, 3]) (.enum (.var 1)) (.cons (.ite (.not (.b1 .all (.comp [4] (.nm 4) (.val (.slice (.var 1) .none (.some (.var 2)))) .none (.call 10 (.cons (.var 0) (.cons (.var 3) (.cons (.var 4) .nil))))))) (.cons (.ret (.con (.bl false))) .nil) .nil) .nil)) (.cons (.ret (.con (.bl true))) .nil)))⟩
def f_alike_table : Fn := ⟨[false, false, false], 6, (.cons (.ite (.and (.cmp .gt (.var 2) (.con (.int 1))) (.call 6 (.cons (.var 0) (.cons (.var 1) .nil)))) (.cons .never .nil) .nil) (.cons (.set 3 false (.call 7 (.cons (.var 0) (.cons (.var 1) .nil)))) (.cons (.ret (.comp [4] (.nm 4) (.rng (.var 2)) .none (.b1 .tuple (.comp [5] (.nm 5) (.val (.idx (.var 0) (.con (.int 0)))) .none (.ife (.cmp .isin (.var 5) (.var 3)) (.con (.int 0)) (.var 4)))))) .nil)))⟩
def f__law_open : Fn := ⟨[false], 4, (.cons (.set 1 true (.lsti (.val (.slice (.var 0) .none (.some (.con (.int 12))))))) (.cons (.for_ (.tp [2, 3]) (.enum (.slice (.var 0) (.some (.con (.int 12))) (.some (.con (.int 63))))) (.cons (.oset 1 (.bin .mod (.var 2) (.con (.int 12))) (.bin .add (.idx (.var 1) (.bin .mod (.var 2) (.con (.int 12)))) (.var 3))) .nil)) (.cons (.frz 1) (.cons (.ret (.newl (.cons (.var 1) (.cons (.con (.int 0)) (.cons (.con (.int 0)) .nil))))) .nil))))⟩
def f__law_spread : Fn := ⟨[false, false], 6, (.cons (.ite (.cmp .ge (.var 0) (.bin .pow (.con (.int 10)) (.con (.int 18)))) (.cons (.ret (.var 0)) .nil) .nil) (.cons (.set 2 false (.lst (.cons (.con (.int 2147483629)) (.cons (.con (.int 2147483587)) (.cons (.con (.int 2147483579)) (.cons (.con (.int 2147483563)) (.cons (.con (.int 2147483549)) (.cons (.con (.int 2147483543)) (.cons (.con (.int 2147483497)) (.cons (.con (.int 2147483489)) .nil)))))))))) (.cons (.set 2 false (.bin .add (.var 2) (.lst (.cons (.con (.int 2147483477)) (.cons (.con (.int 2147483423)) (.cons (.con (.int 2147483399)) (.cons (.con (.int 2147483353)) (.cons (.con (.int 2147483323)) .nil)))))))) (.cons (.set 3 false (.bin .mod (.bin .pow (.bin .add (.bin .add (.bin .mul (.bin .mod (.var 0) (.con (.int 1000000007))) (.bin .add (.bin .mul (.con (.int 2)) (.var 1)) (.con (.int 69069)))) (.bin .mul (.var 1) (.con (.int 40503)))) (.con (.int 977))) (.con (.int 3))) (.idx (.var 2) (.bin .mod (.var 1) (.con (.int 13)))))) (.cons (.set 4 false (.bin .mod (.bin .pow (.bin .add (.bin .add (.bin .mul (.var 3) (.bin .add (.var 1) (.con (.int 3)))) (.bin .mod (.var 0) (.con (.int 65537)))) (.con (.int 5))) (.con (.int 5))) (.idx (.var 2) (.bin .mod (.bin .add (.var 1) (.con (.int 5))) (.con (.int 13)))))) (.cons (.set 5 false (.bin .mod (.bin .pow (.bin .add (.bin .add (.var 4) (.bin .mod (.var 3) (.con (.int 1009)))) (.var 1)) (.con (.int 3))) (.idx (.var 2) (.bin .mod (.bin .add (.var 1) (.con (.int 7))) (.con (.int 13)))))) (.cons (.ret (.bin .add (.bin .mul (.bin .add (.bin .mul (.var 3) (.con (.int 2147483647))) (.var 4)) (.con (.int 2147483647))) (.var 5))) .nil)))))))⟩
def f__law_take : Fn := ⟨[false, false], 5, (.cons (.ite (.cmp .lt (.idx (.var 0) (.con (.int 2))) (.var 1)) (.cons (.set 3 false (.idx (.var 0) (.con (.int 1)))) (.cons (.set 4 false (.con (.int 0))) (.cons (.ite (.cmp .lt (.var 3) (.b1 .len (.idx (.var 0) (.con (.int 0))))) (.cons (.set 4 false (.idx (.idx (.var 0) (.con (.int 0))) (.var 3))) .nil) (.cons (.ite (.cmp .gt (.b1 .len (.idx (.var 0) (.con (.int 0)))) (.con (.int 0))) (.cons (.set 4 false (.bin .mod (.idx (.idx (.var 0) (.con (.int 0))) (.bin .mod (.bin .add (.bin .mul (.var 3) (.con (.int 5))) (.con (.int 3))) (.b1 .len (.idx (.var 0) (.con (.int 0)))))) (.bin .add (.bin .pow (.con (.int 10)) (.con (.int 17))) (.var 3)))) .nil) .nil) .nil)) (.cons (.sset (.var 0) (.con (.int 1)) (.bin .add (.var 3) (.con (.int 1)))) (.cons (.sset (.var 0) (.con (.int 2)) (.call 14 (.cons (.var 4) (.cons (.var 3) .nil)))) .nil))))) .nil) (.cons (.set 2 false (.bin .mod (.idx (.var 0) (.con (.int 2))) (.var 1))) (.cons (.sset (.var 0) (.con (.int 2)) (.bin .fdiv (.idx (.var 0) (.con (.int 2))) (.var 1))) (.cons (.ret (.var 2)) .nil))))⟩
def f__law_subset : Fn := ⟨[false, false], 3, (.cons (.ret (.join (.con (.str [])) (.comp [2] (.nm 2) (.val (.var 1)) (.some (.cmp .eq (.call 15 (.cons (.var 0) (.cons (.con (.int 2)) .nil))) (.con (.int 0)))) (.var 2)))) .nil)⟩
def f__law_draw_schema : Fn := ⟨[false, false], 11, (.cons (.set 2 false (.idx (.lst (.cons (.con (.str [97, 98, 99, 100, 101])) (.cons (.con (.str [97, 99, 120, 121, 122])) (.cons (.con (.str [98, 100, 101, 113, 122])) (.cons (.con (.str [104, 105, 106, 107, 108])) (.cons (.con (.str [103, 110, 111, 112, 114])) (.cons (.con (.str [114, 115, 117, 118, 119])) (.cons (.con (.str [102, 109, 116, 119, 121])) .nil)))))))) (.call 15 (.cons (.var 0) (.cons (.con (.int 7)) .nil))))) (.cons (.par [4, 5, 6] [false, false, false] (.cons (.slice (.var 2) .none (.some (.bin .add (.con (.int 1)) (.call 15 (.cons (.var 0) (.cons (.var 1) .nil)))))) (.cons (.lst .nil) (.cons (.lst .nil) .nil)))) (.cons (.for_ (.nm 3) (.rng (.idx (.lst (.cons (.con (.int 0)) (.cons (.con (.int 0)) (.cons (.con (.int 1)) (.cons (.con (.int 2)) (.cons (.con (.int 3)) .nil)))))) (.call 15 (.cons (.var 0) (.cons (.con (.int 5)) .nil))))) (.cons (.isS 4) (.cons (.set 7 false (.idx (.var 4) (.call 15 (.cons (.var 0) (.cons (.b1 .len (.var 4)) .nil))))) (.cons (.set 8 false (.call 16 (.cons (.var 0) (.cons (.mreplace (.var 4) (.var 7) (.con (.str []))) .nil)))) (.cons (.set 5 false (.bin .add (.var 5) (.bin .mul (.lst (.cons (.tup (.cons (.var 8) (.cons (.var 7) .nil))) .nil)) (.b1 .int (.cmp .notin (.tup (.cons (.var 8) (.cons (.var 7) .nil))) (.var 5)))))) .nil))))) (.cons (.ite (.cmp .eq (.call 15 (.cons (.var 0) (.cons (.con (.int 6)) .nil))) (.con (.int 0))) (.cons (.set 5 false (.rev (.comp [10] (.nm 10) (.rng (.bin .sub (.b1 .len (.var 4)) (.con (.int 1)))) .none (.tup (.cons (.idx (.var 4) (.var 10)) (.cons (.idx (.var 4) (.bin .add (.var 10) (.con (.int 1)))) .nil)))))) (.cons (.set 5 false (.bin .add (.var 5) (.bin .mul (.lst (.cons (.tup (.cons (.con (.str [])) (.cons (.idx (.var 4) (.con (.int 0))) .nil))) .nil)) (.call 15 (.cons (.var 0) (.cons (.con (.int 2)) .nil)))))) .nil)) .nil) (.cons (.for_ (.nm 3) (.rng (.idx (.lst (.cons (.con (.int 0)) (.cons (.con (.int 0)) (.cons (.con (.int 1)) (.cons (.con (.int 2)) .nil))))) (.call 15 (.cons (.var 0) (.cons (.con (.int 4)) .nil))))) (.cons (.set 9 false (.or (.call 16 (.cons (.var 0) (.cons (.var 4) .nil))) (.idx (.var 4) (.neg (.con (.int 1)))))) (.cons (.set 6 false (.bin .add (.var 6) (.bin .mul (.lst (.cons (.var 9) .nil)) (.b1 .int (.cmp .notin (.var 9) (.var 6)))))) .nil))) (.cons (.ret (.tup (.cons (.var 4) (.cons (.b1 .tuple (.var 5)) (.cons (.b1 .tuple (.var 6)) .nil))))) .nil))))))⟩
def f__law_all_in : Fn := ⟨[false, false], 3, (.cons (.ret (.cmp .eq (.comp [2] (.nm 2) (.val (.var 0)) (.some (.cmp .notin (.var 2) (.var 1))) (.var 2)) (.lst .nil))) .nil)⟩
def f__law_union : Fn := ⟨[false, false, false], 4, (.cons (.ret (.join (.con (.str [])) (.comp [3] (.nm 3) (.val (.var 0)) (.some (.cmp .isin (.var 3) (.bin .add (.var 1) (.var 2)))) (.var 3)))) .nil)⟩
def f__law_pair_right : Fn := ⟨[false, false, false], 6, (.cons (.set 3 false (.call 7 (.cons (.var 0) (.cons (.call 19 (.cons (.idx (.var 0) (.con (.int 0))) (.cons (.var 1) (.cons (.var 2) .nil)))) .nil)))) (.cons (.for_ (.nm 4) (.val (.lst (.cons (.var 1) (.cons (.var 2) .nil)))) (.cons (.set 5 false (.call 7 (.cons (.var 0) (.cons (.var 4) .nil)))) (.cons (.ite (.or (.not (.call 18 (.cons (.var 4) (.cons (.var 5) .nil)))) (.or (.cmp .ne (.call 7 (.cons (.var 0) (.cons (.var 5) .nil))) (.var 5)) (.not (.call 18 (.cons (.var 5) (.cons (.var 3) .nil)))))) (.cons (.ret (.con (.bl false))) .nil) .nil) .nil))) (.cons (.ret (.cmp .eq (.var 3) (.call 7 (.cons (.var 0) (.cons (.call 19 (.cons (.idx (.var 0) (.con (.int 0))) (.cons (.call 7 (.cons (.var 0) (.cons (.var 1) .nil))) (.cons (.call 7 (.cons (.var 0) (.cons (.var 2) .nil))) .nil)))) .nil))))) .nil)))⟩
def f_law : Fn := ⟨[false], 15, (.cons (.set 1 false (.call 13 (.cons (.var 0) .nil))) (.cons (.for_ (.nm 2) (.rng (.con (.int 6))) (.cons (.set 3 false (.call 17 (.cons (.var 1) (.cons (.con (.int 5)) .nil)))) (.cons (.unp [6, 7, 8] (.var 3)) (.cons (.par [9, 10] [false, false] (.cons (.call 16 (.cons (.var 1) (.cons (.var 6) .nil))) (.cons (.call 16 (.cons (.var 1) (.cons (.var 6) .nil))) .nil))) (.cons (.ite (.not (.call 20 (.cons (.var 3) (.cons (.var 9) (.cons (.var 10) .nil))))) (.cons (.ret (.con (.bl false))) .nil) .nil) (.cons (.isS 6) (.cons (.set 4 false (.idx (.var 6) (.call 15 (.cons (.var 1) (.cons (.b1 .len (.var 6)) .nil))))) (.cons (.set 5 false (.mreplace (.var 9) (.var 4) (.con (.str [])))) (.cons (.ite (.cmp .notin (.tup (.cons (.var 5) (.cons (.var 4) .nil))) (.var 7)) (.cons (.set 11 false (.tup (.cons (.var 6) (.cons (.bin .add (.var 7) (.tup (.cons (.tup (.cons (.var 5) (.cons (.var 4) .nil))) .nil))) (.cons (.var 8) .nil))))) (.cons (.set 12 false (.cmp .isin (.var 4) (.call 7 (.cons (.var 3) (.cons (.var 5) .nil))))) (.cons (.ite (.or (.cmp .isnot (.call 4 (.cons (.var 11) .nil)) (.con (.bl true))) (.not (.call 18 (.cons (.call 7 (.cons (.var 3) (.cons (.var 10) .nil))) (.cons (.call 7 (.cons (.var 11) (.cons (.var 10) .nil))) .nil))))) (.cons (.ret (.con (.bl false))) .nil) .nil) (.cons (.ite (.and (.var 12) (.cmp .ne (.call 7 (.cons (.var 11) (.cons (.var 10) .nil))) (.call 7 (.cons (.var 3) (.cons (.var 10) .nil))))) (.cons (.ret (.con (.bl false))) .nil) .nil) (.cons (.set 13 false (.cmp .notin (.con (.bl true)) (.comp [14] (.nm 14) (.val (.var 8)) .none (.call 18 (.cons (.var 14) (.cons (.call 7 (.cons (.var 3) (.cons (.var 5) .nil))) .nil)))))) (.cons (.ite (.and (.var 13) (.cmp .ne (.call 11 (.cons (.var 11) (.cons (.call 12 (.cons (.var 3) (.cons (.var 5) (.cons (.con (.int 2)) .nil)))) .nil))) (.var 12))) (.cons (.ret (.con (.bl false))) .nil) .nil) .nil)))))) .nil) (.cons (.ite (.and (.cmp .ne (.var 9) (.con (.str []))) (.cmp .notin (.var 9) (.var 8))) (.cons (.set 11 false (.tup (.cons (.var 6) (.cons (.var 7) (.cons (.bin .add (.var 8) (.tup (.cons (.var 9) .nil))) .nil))))) (.cons (.ite (.or (.not (.call 18 (.cons (.call 7 (.cons (.var 3) (.cons (.var 10) .nil))) (.cons (.call 7 (.cons (.var 11) (.cons (.var 10) .nil))) .nil)))) (.cmp .ne (.call 7 (.cons (.var 11) (.cons (.var 9) .nil))) (.var 6))) (.cons (.ret (.con (.bl false))) .nil) .nil) .nil)) .nil) .nil)))))))))) (.cons (.ret (.con (.bl true))) .nil)))⟩
def fns : List Fn := [f_is_integer, f_is_column_set, f_is_column, f_is_rule, f_is_schema, f_contains_all, f_is_unique, f_closure, f_values_of, f_is_row, f_fit_together, f_is_table, f_alike_table, f__law_open, f__law_spread, f__law_take, f__law_subset, f__law_draw_schema, f__law_all_in, f__law_union, f__law_pair_right, f_law]
def TT : Tb := ⟨fns, glD, rpD, 1000⟩
end K02

/-! K02a -/
set_option Elab.async false
set_option linter.all false
set_option maxRecDepth 100000
set_option maxHeartbeats 4000000
namespace K02
open Dn PySem.W PySem.Calls PyProof.Rows
def fnN : List PySem.Str := [("is_integer" : PySem.Str), ("is_column_set" : PySem.Str), ("is_column" : PySem.Str), ("is_rule" : PySem.Str), ("is_schema" : PySem.Str), ("contains_all" : PySem.Str), ("is_unique" : PySem.Str), ("closure" : PySem.Str), ("values_of" : PySem.Str), ("is_row" : PySem.Str), ("fit_together" : PySem.Str), ("is_table" : PySem.Str), ("alike_table" : PySem.Str), ("_law_open" : PySem.Str), ("_law_spread" : PySem.Str), ("_law_take" : PySem.Str), ("_law_subset" : PySem.Str), ("_law_draw_schema" : PySem.Str), ("_law_all_in" : PySem.Str), ("_law_union" : PySem.Str), ("_law_pair_right" : PySem.Str), ("law" : PySem.Str)]
def glN : List PySem.Str := [("LETTERS" : PySem.Str), ("MAX_COLUMNS" : PySem.Str)]
def NN : Tn := ⟨fnN, glN, []⟩
abbrev top (i : Nat) : PySem.Stmt := PySem.Challenge.pw_openties_k02_whole_closures.main.body.getD i (.Pass ⟨0, 0, 0, 0⟩)
def p_is_integer : List PySem.Str := [("value" : PySem.Str)]
def n_is_integer : List PySem.Str := [("value" : PySem.Str)]
theorem k_is_integer : chkSs n_is_integer NN (L2.defScope (top 6)) f_is_integer.body (L2.defBody (top 6)) = true := by decide +kernel
def p_is_column_set : List PySem.Str := [("columns" : PySem.Str), ("value" : PySem.Str)]
def n_is_column_set : List PySem.Str := [("columns" : PySem.Str), ("value" : PySem.Str), ("column" : PySem.Str)]
theorem k_is_column_set : chkSs n_is_column_set NN (L2.defScope (top 7)) f_is_column_set.body (L2.defBody (top 7)) = true := by decide +kernel
def p_is_column : List PySem.Str := [("columns" : PySem.Str), ("value" : PySem.Str)]
def n_is_column : List PySem.Str := [("columns" : PySem.Str), ("value" : PySem.Str)]
theorem k_is_column : chkSs n_is_column NN (L2.defScope (top 8)) f_is_column.body (L2.defBody (top 8)) = true := by decide +kernel
def p_is_rule : List PySem.Str := [("columns" : PySem.Str), ("value" : PySem.Str)]
def n_is_rule : List PySem.Str := [("columns" : PySem.Str), ("value" : PySem.Str)]
theorem k_is_rule : chkSs n_is_rule NN (L2.defScope (top 9)) f_is_rule.body (L2.defBody (top 9)) = true := by decide +kernel
def p_is_schema : List PySem.Str := [("value" : PySem.Str)]
def n_is_schema : List PySem.Str := [("value" : PySem.Str), ("columns" : PySem.Str), ("rules" : PySem.Str), ("keys" : PySem.Str), ("rule" : PySem.Str), ("key" : PySem.Str)]
theorem k_is_schema : chkSs n_is_schema NN (L2.defScope (top 10)) f_is_schema.body (L2.defBody (top 10)) = true := by decide +kernel
def p_contains_all : List PySem.Str := [("columns" : PySem.Str), ("part" : PySem.Str)]
def n_contains_all : List PySem.Str := [("columns" : PySem.Str), ("part" : PySem.Str), ("column" : PySem.Str)]
theorem k_contains_all : chkSs n_contains_all NN (L2.defScope (top 11)) f_contains_all.body (L2.defBody (top 11)) = true := by decide +kernel
def p_is_unique : List PySem.Str := [("schema" : PySem.Str), ("columns" : PySem.Str)]
def n_is_unique : List PySem.Str := [("schema" : PySem.Str), ("columns" : PySem.Str), ("found" : PySem.Str), ("key" : PySem.Str)]
theorem k_is_unique : chkSs n_is_unique NN (L2.defScope (top 12)) f_is_unique.body (L2.defBody (top 12)) = true := by decide +kernel
def p_closure : List PySem.Str := [("schema" : PySem.Str), ("columns" : PySem.Str)]
def n_closure : List PySem.Str := [("schema" : PySem.Str), ("columns" : PySem.Str), ("found" : PySem.Str), ("before" : PySem.Str), ("left" : PySem.Str), ("right" : PySem.Str), ("key" : PySem.Str)]
theorem k_closure : chkSs n_closure NN (L2.defScope (top 13)) f_closure.body (L2.defBody (top 13)) = true := by decide +kernel
def p_values_of : List PySem.Str := [("schema" : PySem.Str), ("row" : PySem.Str), ("columns" : PySem.Str)]
def n_values_of : List PySem.Str := [("schema" : PySem.Str), ("row" : PySem.Str), ("columns" : PySem.Str), ("column" : PySem.Str)]
theorem k_values_of : chkSs n_values_of NN (L2.defScope (top 14)) f_values_of.body (L2.defBody (top 14)) = true := by decide +kernel
def p_is_row : List PySem.Str := [("schema" : PySem.Str), ("value" : PySem.Str)]
def n_is_row : List PySem.Str := [("schema" : PySem.Str), ("value" : PySem.Str), ("part" : PySem.Str)]
theorem k_is_row : chkSs n_is_row NN (L2.defScope (top 15)) f_is_row.body (L2.defBody (top 15)) = true := by decide +kernel
def p_fit_together : List PySem.Str := [("schema" : PySem.Str), ("row" : PySem.Str), ("other" : PySem.Str)]
def n_fit_together : List PySem.Str := [("schema" : PySem.Str), ("row" : PySem.Str), ("other" : PySem.Str), ("left" : PySem.Str), ("right" : PySem.Str), ("key" : PySem.Str)]
theorem k_fit_together : chkSs n_fit_together NN (L2.defScope (top 16)) f_fit_together.body (L2.defBody (top 16)) = true := by decide +kernel
def p_is_table : List PySem.Str := [("schema" : PySem.Str), ("value" : PySem.Str)]
def n_is_table : List PySem.Str := [("schema" : PySem.Str), ("value" : PySem.Str), ("index" : PySem.Str), ("row" : PySem.Str), ("other" : PySem.Str)]
theorem k_is_table : chkSs n_is_table NN (L2.defScope (top 17)) f_is_table.body (L2.defBody (top 17)) = true := by decide +kernel
def p_alike_table : List PySem.Str := [("schema" : PySem.Str), ("columns" : PySem.Str), ("count" : PySem.Str)]
def n_alike_table : List PySem.Str := [("schema" : PySem.Str), ("columns" : PySem.Str), ("count" : PySem.Str), ("fixed" : PySem.Str), ("index" : PySem.Str), ("column" : PySem.Str)]
theorem k_alike_table : chkSs n_alike_table NN (L2.defScope (top 18)) f_alike_table.body (L2.defBody (top 18)) = true := by decide +kernel
def p__law_open : List PySem.Str := [("script" : PySem.Str)]
def n__law_open : List PySem.Str := [("script" : PySem.Str), ("cells" : PySem.Str), ("k" : PySem.Str), ("cell" : PySem.Str)]
theorem k__law_open : chkSs n__law_open NN (L2.defScope (top 20)) f__law_open.body (L2.defBody (top 20)) = true := by decide +kernel
def p__law_spread : List PySem.Str := [("cell" : PySem.Str), ("at" : PySem.Str)]
def n__law_spread : List PySem.Str := [("cell" : PySem.Str), ("at" : PySem.Str), ("primes" : PySem.Str), ("one" : PySem.Str), ("two" : PySem.Str), ("three" : PySem.Str)]
theorem k__law_spread : chkSs n__law_spread NN (L2.defScope (top 21)) f__law_spread.body (L2.defBody (top 21)) = true := by decide +kernel
def p__law_take : List PySem.Str := [("pen" : PySem.Str), ("amount" : PySem.Str)]
def n__law_take : List PySem.Str := [("pen" : PySem.Str), ("amount" : PySem.Str), ("found" : PySem.Str), ("at" : PySem.Str), ("cell" : PySem.Str)]
theorem k__law_take : chkSs n__law_take NN (L2.defScope (top 22)) f__law_take.body (L2.defBody (top 22)) = true := by decide +kernel
def p__law_subset : List PySem.Str := [("pen" : PySem.Str), ("columns" : PySem.Str)]
def n__law_subset : List PySem.Str := [("pen" : PySem.Str), ("columns" : PySem.Str), ("column" : PySem.Str)]
theorem k__law_subset : chkSs n__law_subset NN (L2.defScope (top 24)) f__law_subset.body (L2.defBody (top 24)) = true := by decide +kernel
def p__law_draw_schema : List PySem.Str := [("pen" : PySem.Str), ("most" : PySem.Str)]
def n__law_draw_schema : List PySem.Str := [("pen" : PySem.Str), ("most" : PySem.Str), ("letters" : PySem.Str), ("again" : PySem.Str), ("columns" : PySem.Str), ("rules" : PySem.Str), ("keys" : PySem.Str), ("right" : PySem.Str), ("left" : PySem.Str), ("one" : PySem.Str), ("k" : PySem.Str)]
theorem k__law_draw_schema : chkSs n__law_draw_schema NN (L2.defScope (top 26)) f__law_draw_schema.body (L2.defBody (top 26)) = true := by decide +kernel
def p__law_all_in : List PySem.Str := [("some" : PySem.Str), ("columns" : PySem.Str)]
def n__law_all_in : List PySem.Str := [("some" : PySem.Str), ("columns" : PySem.Str), ("column" : PySem.Str)]
theorem k__law_all_in : chkSs n__law_all_in NN (L2.defScope (top 30)) f__law_all_in.body (L2.defBody (top 30)) = true := by decide +kernel
def p__law_union : List PySem.Str := [("columns" : PySem.Str), ("one" : PySem.Str), ("other" : PySem.Str)]
def n__law_union : List PySem.Str := [("columns" : PySem.Str), ("one" : PySem.Str), ("other" : PySem.Str), ("column" : PySem.Str)]
theorem k__law_union : chkSs n__law_union NN (L2.defScope (top 37)) f__law_union.body (L2.defBody (top 37)) = true := by decide +kernel
def p__law_pair_right : List PySem.Str := [("schema" : PySem.Str), ("one" : PySem.Str), ("other" : PySem.Str)]
def n__law_pair_right : List PySem.Str := [("schema" : PySem.Str), ("one" : PySem.Str), ("other" : PySem.Str), ("both" : PySem.Str), ("some" : PySem.Str), ("fixed" : PySem.Str)]
theorem k__law_pair_right : chkSs n__law_pair_right NN (L2.defScope (top 38)) f__law_pair_right.body (L2.defBody (top 38)) = true := by decide +kernel
def p_law : List PySem.Str := [("script" : PySem.Str)]
def n_law : List PySem.Str := [("script" : PySem.Str), ("pen" : PySem.Str), ("turn" : PySem.Str), ("schema" : PySem.Str), ("right" : PySem.Str), ("left" : PySem.Str), ("columns" : PySem.Str), ("rules" : PySem.Str), ("keys" : PySem.Str), ("one" : PySem.Str), ("other" : PySem.Str), ("more" : PySem.Str), ("follows" : PySem.Str), ("is_free" : PySem.Str), ("some" : PySem.Str)]
theorem k_law : chkSs n_law NN (L2.defScope (top 39)) f_law.body (L2.defBody (top 39)) = true := by decide +kernel
def dd (x : PySem.Str) (i : Nat) : He.DefD := ⟨(x, none), x, x, L2.defArgs (top i), L2.defBody (top i), L2.defScope (top i), [], []⟩
def fnl : List He.DefD := [dd "is_integer" 6, dd "is_column_set" 7, dd "is_column" 8, dd "is_rule" 9, dd "is_schema" 10, dd "contains_all" 11, dd "is_unique" 12, dd "closure" 13, dd "values_of" 14, dd "is_row" 15, dd "fit_together" 16, dd "is_table" 17, dd "alike_table" 18, dd "_law_open" 20, dd "_law_spread" 21, dd "_law_take" 22, dd "_law_subset" 24, dd "_law_draw_schema" 26, dd "_law_all_in" 30, dd "_law_union" 37, dd "_law_pair_right" 38, dd "law" 39]
def fa : List He.Fa := fnN.map He.Fa.glo ++ freeNames.map He.Fa.free ++ [.str "LETTERS" "abcdefghijklmnopqrstuvwxyz", .int "MAX_COLUMNS" 5]
def ex (K : PySem.W.Frag) : Bool := true
abbrev RR : PySem.W.OpenRow := PySem.W.OpenLaw.row PySem.Challenge.rw_openties_k02_whole_closures
abbrev hk : PySem.W.Hook := He.hookX 4 fa fnl [] [] ex
def ob (s : PySem.W.SharedT) : He.AlX := He.obsX 4 fa fnl [] [] ex (HandSHeadRun.getT s)
theorem ob_eq (s : PySem.W.SharedT) : ob s = hk.obs s.abs := He.obsX_eq (HandSHeadRun.getT_eq s)
def loose : List PySem.Str := [("is_integer" : PySem.Str), ("is_column_set" : PySem.Str), ("is_column" : PySem.Str), ("is_rule" : PySem.Str), ("is_schema" : PySem.Str), ("contains_all" : PySem.Str), ("is_unique" : PySem.Str), ("closure" : PySem.Str), ("values_of" : PySem.Str), ("is_row" : PySem.Str), ("fit_together" : PySem.Str), ("is_table" : PySem.Str), ("alike_table" : PySem.Str), ("_law_open" : PySem.Str), ("_law_spread" : PySem.Str), ("_law_take" : PySem.Str), ("_law_same" : PySem.Str), ("_law_subset" : PySem.Str), ("_law_mixed" : PySem.Str), ("_law_draw_schema" : PySem.Str), ("_law_cells" : PySem.Str), ("_law_fits" : PySem.Str), ("_law_draw_table" : PySem.Str), ("_law_all_in" : PySem.Str), ("_law_closure" : PySem.Str), ("_law_draw_step" : PySem.Str), ("_law_draw_report" : PySem.Str), ("_law_kept" : PySem.Str), ("_law_ended" : PySem.Str), ("_law_one_way" : PySem.Str), ("_law_union" : PySem.Str), ("_law_pair_right" : PySem.Str), ("LETTERS" : PySem.Str), ("MAX_COLUMNS" : PySem.Str), ("OpentiesError" : PySem.Str), ("NoTable" : PySem.Str)]
theorem run (w : PySem.World) : HandSHeadRun.RunEq RR (PySem.W.view RR.prog [39]) hk ob 4000 loose w := by
  intro os
  kernel_rfl
theorem ba1 {a b : Bool} (h : (a && b) = true) : a = true := (Bool.and_eq_true _ _ ▸ h).1
theorem ba2 {a b : Bool} (h : (a && b) = true) : b = true := (Bool.and_eq_true _ _ ▸ h).2
section
variable {K : PySem.W.Frag} {h : PySem.Heap} {mg : PySem.Str → Option PySem.Value}
theorem defs (X : K.In h) (G : h.Ns PySem.mainGlobals mg) (c : He.SaysD fa fnl K) : ∀ (f : Nat) (x : PySem.Str), NN.fn[f]? = some x → DefOk TT NN K mg f x
  | 0, _, e => by
    cases e
    obtain ⟨fd, F⟩ := c.def_ 0 (d := dd "is_integer" 6) rfl
    exact def_ok (fn := f_is_integer) (ps := p_is_integer) (N := n_is_integer) F (He.glo_ok X G (c.fact 0 (f := .glo "is_integer") rfl)) rfl (fun _ _ _ _ _ _ us hl => match us, hl with | [_], _ => rfl) (by decide +kernel) ⟨rfl, rfl⟩ k_is_integer
  | 1, _, e => by
    cases e
    obtain ⟨fd, F⟩ := c.def_ 1 (d := dd "is_column_set" 7) rfl
    exact def_ok (fn := f_is_column_set) (ps := p_is_column_set) (N := n_is_column_set) F (He.glo_ok X G (c.fact 1 (f := .glo "is_column_set") rfl)) rfl (fun _ _ _ _ _ _ us hl => match us, hl with | [_, _], _ => rfl) (by decide +kernel) ⟨rfl, rfl⟩ k_is_column_set
  | 2, _, e => by
    cases e
    obtain ⟨fd, F⟩ := c.def_ 2 (d := dd "is_column" 8) rfl
    exact def_ok (fn := f_is_column) (ps := p_is_column) (N := n_is_column) F (He.glo_ok X G (c.fact 2 (f := .glo "is_column") rfl)) rfl (fun _ _ _ _ _ _ us hl => match us, hl with | [_, _], _ => rfl) (by decide +kernel) ⟨rfl, rfl⟩ k_is_column
  | 3, _, e => by
    cases e
    obtain ⟨fd, F⟩ := c.def_ 3 (d := dd "is_rule" 9) rfl
    exact def_ok (fn := f_is_rule) (ps := p_is_rule) (N := n_is_rule) F (He.glo_ok X G (c.fact 3 (f := .glo "is_rule") rfl)) rfl (fun _ _ _ _ _ _ us hl => match us, hl with | [_, _], _ => rfl) (by decide +kernel) ⟨rfl, rfl⟩ k_is_rule
  | 4, _, e => by
    cases e
    obtain ⟨fd, F⟩ := c.def_ 4 (d := dd "is_schema" 10) rfl
    exact def_ok (fn := f_is_schema) (ps := p_is_schema) (N := n_is_schema) F (He.glo_ok X G (c.fact 4 (f := .glo "is_schema") rfl)) rfl (fun _ _ _ _ _ _ us hl => match us, hl with | [_], _ => rfl) (by decide +kernel) ⟨rfl, rfl⟩ k_is_schema
  | 5, _, e => by
    cases e
    obtain ⟨fd, F⟩ := c.def_ 5 (d := dd "contains_all" 11) rfl
    exact def_ok (fn := f_contains_all) (ps := p_contains_all) (N := n_contains_all) F (He.glo_ok X G (c.fact 5 (f := .glo "contains_all") rfl)) rfl (fun _ _ _ _ _ _ us hl => match us, hl with | [_, _], _ => rfl) (by decide +kernel) ⟨rfl, rfl⟩ k_contains_all
  | 6, _, e => by
    cases e
    obtain ⟨fd, F⟩ := c.def_ 6 (d := dd "is_unique" 12) rfl
    exact def_ok (fn := f_is_unique) (ps := p_is_unique) (N := n_is_unique) F (He.glo_ok X G (c.fact 6 (f := .glo "is_unique") rfl)) rfl (fun _ _ _ _ _ _ us hl => match us, hl with | [_, _], _ => rfl) (by decide +kernel) ⟨rfl, rfl⟩ k_is_unique
  | 7, _, e => by
    cases e
    obtain ⟨fd, F⟩ := c.def_ 7 (d := dd "closure" 13) rfl
    exact def_ok (fn := f_closure) (ps := p_closure) (N := n_closure) F (He.glo_ok X G (c.fact 7 (f := .glo "closure") rfl)) rfl (fun _ _ _ _ _ _ us hl => match us, hl with | [_, _], _ => rfl) (by decide +kernel) ⟨rfl, rfl⟩ k_closure
  | 8, _, e => by
    cases e
    obtain ⟨fd, F⟩ := c.def_ 8 (d := dd "values_of" 14) rfl
    exact def_ok (fn := f_values_of) (ps := p_values_of) (N := n_values_of) F (He.glo_ok X G (c.fact 8 (f := .glo "values_of") rfl)) rfl (fun _ _ _ _ _ _ us hl => match us, hl with | [_, _, _], _ => rfl) (by decide +kernel) ⟨rfl, rfl⟩ k_values_of
  | 9, _, e => by
    cases e
    obtain ⟨fd, F⟩ := c.def_ 9 (d := dd "is_row" 15) rfl
    exact def_ok (fn := f_is_row) (ps := p_is_row) (N := n_is_row) F (He.glo_ok X G (c.fact 9 (f := .glo "is_row") rfl)) rfl (fun _ _ _ _ _ _ us hl => match us, hl with | [_, _], _ => rfl) (by decide +kernel) ⟨rfl, rfl⟩ k_is_row
  | 10, _, e => by
    cases e
    obtain ⟨fd, F⟩ := c.def_ 10 (d := dd "fit_together" 16) rfl
    exact def_ok (fn := f_fit_together) (ps := p_fit_together) (N := n_fit_together) F (He.glo_ok X G (c.fact 10 (f := .glo "fit_together") rfl)) rfl (fun _ _ _ _ _ _ us hl => match us, hl with | [_, _, _], _ => rfl) (by decide +kernel) ⟨rfl, rfl⟩ k_fit_together
  | 11, _, e => by
    cases e
    obtain ⟨fd, F⟩ := c.def_ 11 (d := dd "is_table" 17) rfl
    exact def_ok (fn := f_is_table) (ps := p_is_table) (N := n_is_table) F (He.glo_ok X G (c.fact 11 (f := .glo "is_table") rfl)) rfl (fun _ _ _ _ _ _ us hl => match us, hl with | [_, _], _ => rfl) (by decide +kernel) ⟨rfl, rfl⟩ k_is_table
  | 12, _, e => by
    cases e
    obtain ⟨fd, F⟩ := c.def_ 12 (d := dd "alike_table" 18) rfl
    exact def_ok (fn := f_alike_table) (ps := p_alike_table) (N := n_alike_table) F (He.glo_ok X G (c.fact 12 (f := .glo "alike_table") rfl)) rfl (fun _ _ _ _ _ _ us hl => match us, hl with | [_, _, _], _ => rfl) (by decide +kernel) ⟨rfl, rfl⟩ k_alike_table
  | 13, _, e => by
    cases e
    obtain ⟨fd, F⟩ := c.def_ 13 (d := dd "_law_open" 20) rfl
    exact def_ok (fn := f__law_open) (ps := p__law_open) (N := n__law_open) F (He.glo_ok X G (c.fact 13 (f := .glo "_law_open") rfl)) rfl (fun _ _ _ _ _ _ us hl => match us, hl with | [_], _ => rfl) (by decide +kernel) ⟨rfl, rfl⟩ k__law_open
  | 14, _, e => by
    cases e
    obtain ⟨fd, F⟩ := c.def_ 14 (d := dd "_law_spread" 21) rfl
    exact def_ok (fn := f__law_spread) (ps := p__law_spread) (N := n__law_spread) F (He.glo_ok X G (c.fact 14 (f := .glo "_law_spread") rfl)) rfl (fun _ _ _ _ _ _ us hl => match us, hl with | [_, _], _ => rfl) (by decide +kernel) ⟨rfl, rfl⟩ k__law_spread
  | 15, _, e => by
    cases e
    obtain ⟨fd, F⟩ := c.def_ 15 (d := dd "_law_take" 22) rfl
    exact def_ok (fn := f__law_take) (ps := p__law_take) (N := n__law_take) F (He.glo_ok X G (c.fact 15 (f := .glo "_law_take") rfl)) rfl (fun _ _ _ _ _ _ us hl => match us, hl with | [_, _], _ => rfl) (by decide +kernel) ⟨rfl, rfl⟩ k__law_take
  | 16, _, e => by
    cases e
    obtain ⟨fd, F⟩ := c.def_ 16 (d := dd "_law_subset" 24) rfl
    exact def_ok (fn := f__law_subset) (ps := p__law_subset) (N := n__law_subset) F (He.glo_ok X G (c.fact 16 (f := .glo "_law_subset") rfl)) rfl (fun _ _ _ _ _ _ us hl => match us, hl with | [_, _], _ => rfl) (by decide +kernel) ⟨rfl, rfl⟩ k__law_subset
  | 17, _, e => by
    cases e
    obtain ⟨fd, F⟩ := c.def_ 17 (d := dd "_law_draw_schema" 26) rfl
    exact def_ok (fn := f__law_draw_schema) (ps := p__law_draw_schema) (N := n__law_draw_schema) F (He.glo_ok X G (c.fact 17 (f := .glo "_law_draw_schema") rfl)) rfl (fun _ _ _ _ _ _ us hl => match us, hl with | [_, _], _ => rfl) (by decide +kernel) ⟨rfl, rfl⟩ k__law_draw_schema
  | 18, _, e => by
    cases e
    obtain ⟨fd, F⟩ := c.def_ 18 (d := dd "_law_all_in" 30) rfl
    exact def_ok (fn := f__law_all_in) (ps := p__law_all_in) (N := n__law_all_in) F (He.glo_ok X G (c.fact 18 (f := .glo "_law_all_in") rfl)) rfl (fun _ _ _ _ _ _ us hl => match us, hl with | [_, _], _ => rfl) (by decide +kernel) ⟨rfl, rfl⟩ k__law_all_in
  | 19, _, e => by
    cases e
    obtain ⟨fd, F⟩ := c.def_ 19 (d := dd "_law_union" 37) rfl
    exact def_ok (fn := f__law_union) (ps := p__law_union) (N := n__law_union) F (He.glo_ok X G (c.fact 19 (f := .glo "_law_union") rfl)) rfl (fun _ _ _ _ _ _ us hl => match us, hl with | [_, _, _], _ => rfl) (by decide +kernel) ⟨rfl, rfl⟩ k__law_union
  | 20, _, e => by
    cases e
    obtain ⟨fd, F⟩ := c.def_ 20 (d := dd "_law_pair_right" 38) rfl
    exact def_ok (fn := f__law_pair_right) (ps := p__law_pair_right) (N := n__law_pair_right) F (He.glo_ok X G (c.fact 20 (f := .glo "_law_pair_right") rfl)) rfl (fun _ _ _ _ _ _ us hl => match us, hl with | [_, _, _], _ => rfl) (by decide +kernel) ⟨rfl, rfl⟩ k__law_pair_right
  | 21, _, e => by
    cases e
    obtain ⟨fd, F⟩ := c.def_ 21 (d := dd "law" 39) rfl
    exact def_ok (fn := f_law) (ps := p_law) (N := n_law) F (He.glo_ok X G (c.fact 21 (f := .glo "law") rfl)) rfl (fun _ _ _ _ _ _ us hl => match us, hl with | [_], _ => rfl) (by decide +kernel) ⟨rfl, rfl⟩ k_law
  | _ + 22, _, e => by cases e
theorem free (X : K.In h) (G : h.Ns PySem.mainGlobals mg) (c : He.SaysD fa fnl K) : ∀ x ∈ freeNames, mg x = none := fun x hx =>
  have m : He.Fa.free x ∈ fa := List.mem_append_left _ (List.mem_append_right _ (List.mem_map.mpr ⟨x, hx, rfl⟩))
  have ⟨i, hi⟩ := List.getElem?_of_mem m
  He.free_ok X G (c.fact i (f := .free x) hi)
theorem globs (X : K.In h) (G : h.Ns PySem.mainGlobals mg) (c : He.SaysD fa fnl K) (cx : ex K = true) : ∀ (k : Nat) (x : PySem.Str), NN.gn[k]? = some x → ∃ u v d, mg x = some u ∧ L2.RelV v u ∧ TT.gl[k]? = some d ∧ ∀ W, RV K W v d
  | 0, _, e => by
    cases e
    obtain ⟨t, h⟩ := He.str_ok X G (c.fact 41 (f := .str "LETTERS" "abcdefghijklmnopqrstuvwxyz") rfl)
    exact ⟨_, .str (Dn.S [97, 98, 99, 100, 101, 102, 103, 104, 105, 106, 107, 108, 109, 110, 111, 112, 113, 114, 115, 116, 117, 118, 119, 120, 121, 122]), .str [97, 98, 99, 100, 101, 102, 103, 104, 105, 106, 107, 108, 109, 110, 111, 112, 113, 114, 115, 116, 117, 118, 119, 120, 121, 122], h, ⟨t, rfl⟩, rfl, fun W => .str _ ⟨by decide, by decide⟩⟩
  | 1, _, e => by
    cases e
    obtain ⟨t, h⟩ := He.int_ok X G (c.fact 42 (f := .int "MAX_COLUMNS" 5) rfl)
    exact ⟨_, .int 5, .int 5, h, ⟨t, rfl⟩, rfl, fun W => .int _⟩
  | _ + 2, _, e => by cases e
theorem fnG (P : PySem.Program) (w : PySem.World) (base : PySem.Heap) (n : Nat) (X : K.In h) (G : h.Ns PySem.mainGlobals mg) (c : He.SaysX fa fnl [] [] ex w h K) : BaseOk TT NN P w K mg base n := base_ok rfl (free X G c.t.d) (globs X G c.t.d c.more) (defs X G c.t.d) n
end
theorem holds (k : Nat) (hr : L2.Room k PySem.callerA) (law : ∀ ns : List Int, ns.length ≤ 63 → ∃ m', callF TT k 21 [⟨.v, .scr ns⟩] [] = .ok ⟨.v, .bl true⟩ m') : RR.Holds := by
  refine HandSHeadRun.head_any (r := RR) (q := PySem.W.view RR.prog [39]) (H := hk) (ob := ob) (M := 4000) (loose := loose) (d := HandSHeadRun.topDef RR.prog 39) (kwd := []) ob_eq
    (by kernel_rfl) (fun s => by kernel_rfl) run (by kernel_rfl) (by kernel_rfl) (by kernel_rfl) (by rfl) (by first | assumption | decide +kernel) (by decide +kernel) ⟨rfl, rfl, rfl, rfl, rfl, by decide +kernel⟩ ?hw ?hc
  case hw => w_witness2
  case hc =>
    refine walk_dn (l := PySem.Challenge.rw_openties_k02_whole_closures) (n := 63) (k := k) rfl (by decide) (by kernel_rfl) hr ?_
    intro w mg fa0 h Y G hmg0
    obtain ⟨K, KX, c⟩ := Y
    exact ⟨K, TT, NN, 21, KX, by kernel_rfl, law, fun base hb hG => fnG _ w base k KX G c⟩

end K02

/-! DnM -/
set_option Elab.async false
set_option linter.all false
set_option maxRecDepth 100000
set_option maxHeartbeats 1000000
/-! DnM: the evaluator, for proofs about data. -/
namespace Dn
@[simp] theorem keep_v (d : D) : (⟨.v, d⟩ : R).keep = some d := by cases d <;> rfl
@[simp] theorem keep_f (d : D) : (⟨.f, d⟩ : R).keep = some d := by cases d <;> rfl
@[simp] theorem mb_bind {α β : Type} (x : M α) (f : α → M β) (m : Mu) : (x >>= f) m = (x m).bnd f := rfl
@[simp] theorem mb_pure {α : Type} (a : α) (m : Mu) : (pure a : M α) m = .ok a m := rfl
@[simp] theorem mb_some {α : Type} (a : α) (m : Mu) : (M.opt (some a)) m = .ok a m := rfl
@[simp] theorem mb_none {α : Type} (m : Mu) : (M.opt (none : Option α)) m = .st := rfl
@[simp] theorem mb_guard (m : Mu) : (M.guard true) m = .ok () m := rfl
@[simp] theorem mb_ok {α β : Type} (a : α) (m : Mu) (f : α → Mu → Out β) : (Out.ok a m).bnd f = f a m := rfl
@[simp] theorem mb_st {α β : Type} (f : α → Mu → Out β) : (Out.st : Out α).bnd f = .st := rfl
@[simp] theorem nxt_some (ρ : Env) (m : Mu) : nxt (some ρ) m = .ok (.nx ρ) m := rfl
theorem onE_ok {α : Type} {x : M α} {ρ : Env} {f : α → Mu → OutS} {m m' : Mu} {a : α} (h : x m = .ok a m') : onE x ρ f m = f a m' := by unfold onE; rw [h]
theorem callF_at {T : Tb} {f : Nat} {fn : Fn} (n : Nat) (h : T.fns[f]? = some fn) (args : List R) : callF T (n + 1) f args = runF ⟨callF T n, T.gl, T.rp, T.wf⟩ fn args := by
  show (match T.fns[f]? with | some fn => runF ⟨callF T n, T.gl, T.rp, T.wf⟩ fn args | none => M.stuck) = _
  rw [h]
theorem runF_ret {C : Cx} {fn : Fn} {args : List R} {ρ : Env} {m m' : Mu} {r : R} (h : bindA fn.modes args = some ρ) (e : exSs C fn.body (ρ ++ List.replicate (fn.ns - ρ.length) .un) m = .ok (.rt r) m') : runF C fn args m = .ok r m' := by
  unfold runF
  rw [h]
  dsimp only
  rw [e]
/-- a comprehension that changes nothing -/
theorem mapR_pure {f : D → M (Option D)} {g : D → Option D} {m : Mu} : ∀ {ds : List D}, (∀ d ∈ ds, f d m = .ok (g d) m) → mapR f ds m = .ok (ds.filterMap g) m
  | [], _ => rfl
  | x :: r, h => by
    show ((f x m).bnd fun y m1 => (mapR f r m1).bnd fun ys m2 => .ok (match y with | some y => y :: ys | none => ys) m2) = _
    rw [h x (by simp), mb_ok, mapR_pure fun d hd => h d (by simp [hd]), mb_ok]
    cases e : g x <;> simp [List.filterMap_cons, e]
end Dn
namespace Dn
/-- it ends so -/
def Ok {α : Type} (o : Out α) (P : α → Mu → Prop) : Prop := match o with | .ok a m => P a m | _ => False
def OkS (o : OutS) (P : Fl → Mu → Prop) : Prop := match o with | .ok f m => P f m | _ => False
@[simp] theorem Ok_ok {α : Type} (a : α) (m : Mu) (P : α → Mu → Prop) : Ok (.ok a m) P ↔ P a m := Iff.rfl
@[simp] theorem Ok_st {α : Type} (P : α → Mu → Prop) : Ok (.st : Out α) P ↔ False := Iff.rfl
@[simp] theorem OkS_ok (a : Fl) (m : Mu) (P : Fl → Mu → Prop) : OkS (.ok a m) P ↔ P a m := Iff.rfl
@[simp] theorem OkS_st (P : Fl → Mu → Prop) : OkS .st P ↔ False := Iff.rfl
@[simp] theorem Ok_bnd {α β : Type} (o : Out α) (f : α → Mu → Out β) (P : β → Mu → Prop) : Ok (o.bnd f) P ↔ Ok o fun a m => Ok (f a m) P := by cases o <;> rfl
@[simp] theorem Ok_opt {α : Type} (o : Option α) (m : Mu) (P : α → Mu → Prop) : Ok (M.opt o m) P ↔ ∃ a, o = some a ∧ P a m := by
  cases o with
  | none => exact ⟨fun h => h.elim, fun ⟨_, e, _⟩ => by cases e⟩
  | some a => exact ⟨fun h => ⟨a, rfl, h⟩, fun ⟨_, e, h⟩ => by cases e; exact h⟩
@[simp] theorem Ok_guard (c : Bool) (m : Mu) (P : Unit → Mu → Prop) : Ok (M.guard c m) P ↔ c = true ∧ P () m := by
  cases c with
  | false => exact ⟨fun h => h.elim, fun ⟨e, _⟩ => by cases e⟩
  | true => exact ⟨fun h => ⟨rfl, h⟩, fun ⟨_, h⟩ => h⟩
@[simp] theorem Ok_ix (o : Option D) (m : Mu) (P : R → Mu → Prop) : Ok (match o with | some d => .ok ⟨.v, d⟩ m | none => .st) P ↔ ∃ d, o = some d ∧ P ⟨.v, d⟩ m := by
  cases o with
  | none => exact ⟨fun h => h.elim, fun ⟨_, e, _⟩ => by cases e⟩
  | some a => exact ⟨fun h => ⟨a, rfl, h⟩, fun ⟨_, e, h⟩ => by cases e; exact h⟩
@[simp] theorem Ok_noex {α : Type} (x : M α) (m : Mu) (P : α → Mu → Prop) : Ok (x.noex m) P ↔ Ok (x m) P := by
  show Ok (match x m with | .ok a m => .ok a m | _ => .st) P ↔ _
  cases x m <;> rfl
@[simp] theorem OkS_onE {α : Type} (x : M α) (ρ : Env) (f : α → Mu → OutS) (m : Mu) (P : Fl → Mu → Prop) : OkS (onE x ρ f m) P ↔ Ok (x m) fun a m => OkS (f a m) P := by
  unfold onE
  cases x m <;> rfl
@[simp] theorem OkS_nxt (o : Option Env) (m : Mu) (P : Fl → Mu → Prop) : OkS (nxt o m) P ↔ ∃ ρ, o = some ρ ∧ P (.nx ρ) m := by
  cases o with
  | none => exact ⟨fun h => h.elim, fun ⟨_, e, _⟩ => by cases e⟩
  | some a => exact ⟨fun h => ⟨a, rfl, h⟩, fun ⟨_, e, h⟩ => by cases e; exact h⟩
/-- what follows a statement -/
def Nx (P : Fl → Mu → Prop) (k : Env → Mu → OutS) (f : Fl) (m : Mu) : Prop := match f with | .nx ρ => OkS (k ρ m) P | f => P f m
@[simp] theorem Nx_nx (P : Fl → Mu → Prop) (k : Env → Mu → OutS) (ρ : Env) (m : Mu) : Nx P k (.nx ρ) m ↔ OkS (k ρ m) P := Iff.rfl
@[simp] theorem Nx_rt (P : Fl → Mu → Prop) (k : Env → Mu → OutS) (r : R) (m : Mu) : Nx P k (.rt r) m ↔ P (.rt r) m := Iff.rfl
@[simp] theorem Nx_br (P : Fl → Mu → Prop) (k : Env → Mu → OutS) (r : Env) (m : Mu) : Nx P k (.br r) m ↔ P (.br r) m := Iff.rfl
@[simp] theorem Nx_ct (P : Fl → Mu → Prop) (k : Env → Mu → OutS) (r : Env) (m : Mu) : Nx P k (.ct r) m ↔ P (.ct r) m := Iff.rfl
@[simp] theorem OkS_nil (C : Cx) (ρ : Env) (m : Mu) (P : Fl → Mu → Prop) : OkS (exSs C .nil ρ m) P ↔ P (.nx ρ) m := Iff.rfl
@[simp] theorem OkS_cons (C : Cx) (s : CS) (ss : CSs) (ρ : Env) (m : Mu) (P : Fl → Mu → Prop) : OkS (exSs C (.cons s ss) ρ m) P ↔ OkS (exS C s ρ m) (Nx P (exSs C ss)) := by
  show OkS (match exS C s ρ m with | .ok (.nx ρ2) m2 => exSs C ss ρ2 m2 | o => o) P ↔ _
  cases exS C s ρ m with
  | ok f m2 => cases f <;> rfl
  | ex _ _ _ => rfl
  | st => rfl
theorem Ok.mono {α : Type} {o : Out α} {P Q : α → Mu → Prop} (h : Ok o P) (k : ∀ a m, P a m → Q a m) : Ok o Q := by
  cases o with
  | ok a m => exact k a m h
  | ex _ _ => exact h
  | st => exact h
theorem OkS.mono {o : OutS} {P Q : Fl → Mu → Prop} (h : OkS o P) (k : ∀ a m, P a m → Q a m) : OkS o Q := by
  cases o with
  | ok a m => exact k a m h
  | ex _ _ _ => exact h
  | st => exact h
theorem Ok.eq {α : Type} {o : Out α} {P : α → Mu → Prop} (h : Ok o P) : ∃ a m, o = .ok a m ∧ P a m := by
  cases o with
  | ok a m => exact ⟨a, m, rfl, h⟩
  | ex _ _ => exact h.elim
  | st => exact h.elim
/-- a def's end -/
def End (P : R → Mu → Prop) (f : Fl) (m : Mu) : Prop := match f with | .nx _ => P ⟨.v, .non⟩ m | .rt r => P r m | _ => False
@[simp] theorem End_rt (P : R → Mu → Prop) (r : R) (m : Mu) : End P (.rt r) m ↔ P r m := Iff.rfl
@[simp] theorem End_nx (P : R → Mu → Prop) (r : Env) (m : Mu) : End P (.nx r) m ↔ P ⟨.v, .non⟩ m := Iff.rfl
theorem Ok_call {T : Tb} {f n : Nat} {fn : Fn} {args : List R} {ρ : Env} {m : Mu} {P : R → Mu → Prop} (h : T.fns[f]? = some fn) (hb : bindA fn.modes args = some ρ) (k : OkS (exSs ⟨callF T n, T.gl, T.rp, T.wf⟩ fn.body (ρ ++ List.replicate (fn.ns - ρ.length) .un) m) (End P)) : Ok (callF T (n + 1) f args m) P := by
  rw [callF_at n h]
  unfold runF
  rw [hb]
  dsimp only
  cases e : exSs ⟨callF T n, T.gl, T.rp, T.wf⟩ fn.body (ρ ++ List.replicate (fn.ns - ρ.length) .un) m with
  | ok fl m2 =>
    rw [e] at k
    cases fl <;> exact k
  | ex _ _ _ => rw [e] at k; exact k
  | st => rw [e] at k; exact k
inductive Pr {α β : Type} (Q : α → β → Prop) : List α → List β → Prop
  | nil : Pr Q [] []
  | cons {a b l k} : Q a b → Pr Q l k → Pr Q (a :: l) (b :: k)
/-- a comprehension -/
theorem Ok_mapR {f : D → M (Option D)} {I : Nat → Mu → Prop} {Q : D → Option D → Prop} : ∀ (ds : List D) (b c : Nat) (m : Mu), I b m → (∀ d ∈ ds, ∀ b' m', b' + c ≤ b + ds.length * c → I b' m' → Ok (f d m') fun y m2 => I (b' + c) m2 ∧ Q d y) →
    Ok (mapR f ds m) fun ys m2 => I (b + ds.length * c) m2 ∧ ∃ os, Pr Q ds os ∧ ys = os.filterMap id
  | [], b, c, m, i, _ => by
    show I (b + 0 * c) m ∧ _
    rw [Nat.zero_mul]
    exact ⟨i, [], .nil, rfl⟩
  | d :: ds, b, c, m, i, h => by
    have e : b + c + ds.length * c = b + (d :: ds).length * c := by rw [List.length_cons, Nat.succ_mul]; omega
    show Ok ((f d m).bnd fun y m1 => (mapR f ds m1).bnd fun ys m2 => .ok (match y with | some y => y :: ys | none => ys) m2) _
    rw [Ok_bnd]
    refine (h d (by simp) b m (by rw [← e]; omega) i).mono fun y m1 ⟨i1, q1⟩ => ?_
    rw [Ok_bnd]
    refine (Ok_mapR ds (b + c) c m1 i1 fun d' hd b' m' hb i' => h d' (by simp [hd]) b' m' (by rw [← e]; exact hb) i').mono fun ys m2 ⟨i2, os, p, ey⟩ => ?_
    rw [e] at i2
    refine ⟨i2, y :: os, .cons q1 p, ?_⟩
    subst ey
    cases y <;> rfl
/-- a for -/
theorem OkS_for {tg : Tg} {body : Env → Mu → OutS} {P : Fl → Mu → Prop} {J : Nat → List D → Env → Mu → Prop} {c : Nat} : ∀ (ds : List D) (b : Nat) (ρ : Env) (m : Mu), J b ds ρ m →
    (∀ d r b' ρ' m', J b' (d :: r) ρ' m' → ∃ ρ1, bindT tg d ρ' = some ρ1 ∧ OkS (body ρ1 m') fun f m2 => match f with | .nx ρ2 => J (b' + c) r ρ2 m2 | .ct ρ2 => J (b' + c) r ρ2 m2 | .br ρ2 => P (.nx ρ2) m2 | .rt r => P (.rt r) m2) →
    (∀ b' ρ' m', J b' [] ρ' m' → P (.nx ρ') m') → OkS (forS tg body ds ρ m) P
  | [], b, ρ, m, j, _, e => e b ρ m j
  | d :: ds, b, ρ, m, j, h, e => by
    obtain ⟨ρ1, hb, k⟩ := h d ds b ρ m j
    show OkS (match bindT tg d ρ with
      | none => .st
      | some ρ1 => (match body ρ1 m with
        | .ok (.nx ρ2) m2 => forS tg body ds ρ2 m2
        | .ok (.ct ρ2) m2 => forS tg body ds ρ2 m2
        | .ok (.br ρ2) m2 => .ok (.nx ρ2) m2
        | .ok (.rt r) m2 => .ok (.rt r) m2
        | .ex x ρ2 m2 => .ex x ρ2 m2
        | .st => .st)) P
    rw [hb]
    dsimp only
    cases e1 : body ρ1 m with
    | ok f m2 =>
      rw [e1] at k
      cases f with
      | nx ρ2 => exact OkS_for ds (b + c) ρ2 m2 k h e
      | ct ρ2 => exact OkS_for ds (b + c) ρ2 m2 k h e
      | br ρ2 => exact k
      | rt r => exact k
    | ex _ _ _ => rw [e1] at k; exact k
    | st => rw [e1] at k; exact k
end Dn

/-! DnR -/
set_option Elab.async false
set_option linter.all false
set_option maxRecDepth 100000
set_option maxHeartbeats 1000000
/-! DnR: the evaluator, rule by rule. -/
namespace Dn
section
variable {C : Cx} {ρ ρ' : Env} {m m1 m2 m3 m' : Mu} {a b c e : CE} {x y z r : R} {d d1 d2 : D} {i j : Int} {t t1 t2 : Tag} {P : Fl → Mu → Prop} {ss : CSs}
/-- e runs so -/
abbrev EV (C : Cx) (ρ : Env) (m : Mu) (e : CE) (r : R) (m' : Mu) : Prop := evE C e ρ m = .ok r m'
abbrev EVs (C : Cx) (ρ : Env) (m : Mu) (e : CEs) (r : List R) (m' : Mu) : Prop := evEs C e ρ m = .ok r m'
abbrev EVo (C : Cx) (ρ : Env) (m : Mu) (e : CEo) (r : Option Int) (m' : Mu) : Prop := evO C e ρ m = .ok r m'
abbrev EVi (C : Cx) (ρ : Env) (m : Mu) (e : CI) (r : List D) (m' : Mu) : Prop := evI C e ρ m = .ok r m'
theorem bnd_of {α β : Type} {o : Out α} {a : α} {f : α → Mu → Out β} {v : Out β} (h : o = .ok a m) (k : f a m = v) : o.bnd f = v := by rw [h]; exact k
theorem opt_of {α : Type} {o : Option α} {a : α} (h : o = some a) : (M.opt o) m = .ok a m := by rw [h]; rfl
theorem guard_of {c : Bool} (h : c = true) : (M.guard c) m = .ok () m := by rw [h]; rfl
theorem noex_ok {α : Type} {x : M α} {a : α} (h : x m = .ok a m') : x.noex m = .ok a m' := by
  unfold M.noex
  rw [h]
theorem x_var {k : Nat} (h : (ρ[k]?).bind Sl.read = some r) : EV C ρ m (.var k) r m := opt_of h
theorem x_con : EV C ρ m (.con d) ⟨.v, d⟩ m := rfl
theorem x_nil : EVs C ρ m .nil [] m := rfl
theorem x_cons {es : CEs} {rs : List R} (h1 : EV C ρ m e r m1) (h2 : EVs C ρ m1 es rs m2) : EVs C ρ m (.cons e es) (r :: rs) m2 := bnd_of h1 (bnd_of h2 rfl)
theorem x_tup {es : CEs} {rs : List R} {ds : List D} (h : EVs C ρ m es rs m') (k : keepAll rs = some ds) : EV C ρ m (.tup es) ⟨.v, .tup ds⟩ m' := bnd_of h (bnd_of (opt_of k) rfl)
theorem x_lst {es : CEs} {rs : List R} {ds : List D} (h : EVs C ρ m es rs m') (k : keepAll rs = some ds) : EV C ρ m (.lst es) ⟨.f, .lst ds⟩ m' := bnd_of h (bnd_of (opt_of k) rfl)
theorem x_emp {t : Bool} : EV C ρ m (.emp t) ⟨.f, .dic t []⟩ m := rfl
@[reducible] def tagOf (d : D) : Tag := match d with | .lst _ => .f | _ => .v
theorem x_bin {op : Bop} (h1 : EV C ρ m a x m1) (h2 : EV C ρ m1 b y m2) (k : binD op x.d y.d = some d) : EV C ρ m (.bin op a b) ⟨tagOf d, d⟩ m2 := bnd_of h1 (bnd_of h2 (bnd_of (opt_of k) (by cases d <;> rfl)))
theorem x_add (h1 : EV C ρ m a ⟨t1, .int i⟩ m1) (h2 : EV C ρ m1 b ⟨t2, .int j⟩ m2) : EV C ρ m (.bin .add a b) ⟨.v, .int (i + j)⟩ m2 := x_bin (d := .int (i + j)) h1 h2 rfl
theorem x_sub (h1 : EV C ρ m a ⟨t1, .int i⟩ m1) (h2 : EV C ρ m1 b ⟨t2, .int j⟩ m2) : EV C ρ m (.bin .sub a b) ⟨.v, .int (i - j)⟩ m2 := x_bin (d := .int (i - j)) h1 h2 rfl
theorem x_mul (h1 : EV C ρ m a ⟨t1, .int i⟩ m1) (h2 : EV C ρ m1 b ⟨t2, .int j⟩ m2) (k : i.natAbs.log2 + j.natAbs.log2 < 1000000) : EV C ρ m (.bin .mul a b) ⟨.v, .int (i * j)⟩ m2 := x_bin (d := .int (i * j)) h1 h2 (by show mulD (.int i) (.int j) = _; unfold mulD; exact if_pos k)
theorem x_mod (h1 : EV C ρ m a ⟨t1, .int i⟩ m1) (h2 : EV C ρ m1 b ⟨t2, .int j⟩ m2) (k : 0 < j) : EV C ρ m (.bin .mod a b) ⟨.v, .int (i % j)⟩ m2 := x_bin (d := .int (i % j)) h1 h2 (by show modD (.int i) (.int j) = _; unfold modD; exact if_pos k)
theorem x_fdiv (h1 : EV C ρ m a ⟨t1, .int i⟩ m1) (h2 : EV C ρ m1 b ⟨t2, .int j⟩ m2) (k : 0 < j ∧ j.natAbs.log2 < 9000) : EV C ρ m (.bin .fdiv a b) ⟨.v, .int (i / j)⟩ m2 := x_bin (d := .int (i / j)) h1 h2 (by show fdivD (.int i) (.int j) = _; unfold fdivD; exact if_pos k)
theorem x_pow (h1 : EV C ρ m a ⟨t1, .int i⟩ m1) (h2 : EV C ρ m1 b ⟨t2, .int j⟩ m2) (k : 0 ≤ j ∧ j ≤ 1000000 ∧ i.natAbs < 2 ^ 64) : EV C ρ m (.bin .pow a b) ⟨.v, .int (i ^ j.toNat)⟩ m2 := x_bin (d := .int (i ^ j.toNat)) h1 h2 (by show powD (.int i) (.int j) = _; unfold powD; exact if_pos k)
theorem x_neg (h : EV C ρ m a ⟨t, .int i⟩ m1) : EV C ρ m (.neg a) ⟨.v, .int (-i)⟩ m1 := bnd_of h rfl
theorem x_cmp {op : Cop} {k : Bool} (h1 : EV C ρ m a x m1) (h2 : EV C ρ m1 b y m2) (h : cmpD op x.d y.d = some k) : EV C ρ m (.cmp op a b) ⟨.v, .bl k⟩ m2 := bnd_of h1 (bnd_of h2 (bnd_of (opt_of h) rfl))
theorem x_not {k : Bool} (h : EV C ρ m a x m1) (q : x.d.truth = some k) : EV C ρ m (.not a) ⟨.v, .bl (!k)⟩ m1 := bnd_of h (bnd_of (opt_of q) rfl)
theorem x_and {k : Bool} (h : EV C ρ m a x m1) (q : x.d.truth = some k) (h2 : k = true → EV C ρ m1 b y m2) (h3 : k = false → y = x.lo ∧ m2 = m1) : EV C ρ m (.and a b) y m2 := by
  refine bnd_of h (bnd_of (opt_of q) ?_)
  cases k with
  | true => exact h2 rfl
  | false => obtain ⟨rfl, rfl⟩ := h3 rfl; rfl
theorem x_or {k : Bool} (h : EV C ρ m a x m1) (q : x.d.truth = some k) (h2 : k = false → EV C ρ m1 b y m2) (h3 : k = true → y = x.lo ∧ m2 = m1) : EV C ρ m (.or a b) y m2 := by
  refine bnd_of h (bnd_of (opt_of q) ?_)
  cases k with
  | false => exact h2 rfl
  | true => obtain ⟨rfl, rfl⟩ := h3 rfl; rfl
theorem x_idx (h1 : EV C ρ m a x m1) (h2 : EV C ρ m1 b y m2) (h : ixS m2 x.d y.d = some d) : EV C ρ m (.idx a b) ⟨.v, d⟩ m2 := by
  refine bnd_of h1 (bnd_of h2 ?_)
  show (match ixS m2 x.d y.d with | some d => (Out.ok ⟨.v, d⟩ m2 : Out R) | none => .st) = _
  rw [h]
theorem x_slice {lo hi : CEo} {u v : Option Int} (h1 : EV C ρ m a x m1) (h2 : EVo C ρ m1 lo u m2) (h3 : EVo C ρ m2 hi v m3) (h : sliceD x.d u v = some d) : EV C ρ m (.slice a lo hi) ⟨tagOf d, d⟩ m3 := bnd_of h1 (bnd_of h2 (bnd_of h3 (bnd_of (opt_of h) (by cases d <;> rfl))))
theorem xo_none : EVo C ρ m .none none m := rfl
theorem xo_some (h : EV C ρ m e ⟨t, .int i⟩ m1) (k : -1000000000 < i ∧ i < 1000000000) : EVo C ρ m (.some e) (some i) m1 := by
  refine bnd_of h ?_
  show ((M.guard (decide (-1000000000 < i ∧ i < 1000000000))) m1).bnd (fun _ m => .ok (some i) m) = _
  rw [guard_of (decide_eq_true k)]; rfl
theorem x_slc {ns : List Int} {lo hi : CEo} {u v : Option Int} (h1 : EV C ρ m a ⟨t, .scr ns⟩ m1) (h2 : EVo C ρ m1 lo u m2) (h3 : EVo C ρ m2 hi v m3) : EV C ρ m (.slice a lo hi) ⟨.f, .lst ((sliL ns u v).map .int)⟩ m3 := x_slice (d := .lst ((sliL ns u v).map .int)) h1 h2 h3 rfl
theorem x_sll {ds : List D} {lo hi : CEo} {u v : Option Int} (h1 : EV C ρ m a ⟨t, .lst ds⟩ m1) (h2 : EVo C ρ m1 lo u m2) (h3 : EVo C ρ m2 hi v m3) : EV C ρ m (.slice a lo hi) ⟨.f, .lst (sliL ds u v)⟩ m3 := x_slice (d := .lst (sliL ds u v)) h1 h2 h3 rfl
theorem x_slt {ds : List D} {lo hi : CEo} {u v : Option Int} (h1 : EV C ρ m a ⟨t, .tup ds⟩ m1) (h2 : EVo C ρ m1 lo u m2) (h3 : EVo C ρ m2 hi v m3) : EV C ρ m (.slice a lo hi) ⟨.v, .tup (sliL ds u v)⟩ m3 := x_slice (d := .tup (sliL ds u v)) h1 h2 h3 rfl
theorem x_sls {s : Sg} {lo hi : CEo} {u v : Option Int} (h1 : EV C ρ m a ⟨t, .str s⟩ m1) (h2 : EVo C ρ m1 lo u m2) (h3 : EVo C ρ m2 hi v m3) : EV C ρ m (.slice a lo hi) ⟨.v, .str (sliL s u v)⟩ m3 := x_slice (d := .str (sliL s u v)) h1 h2 h3 rfl
theorem x_addl {xs ys : List D} (h1 : EV C ρ m a ⟨t1, .lst xs⟩ m1) (h2 : EV C ρ m1 b ⟨t2, .lst ys⟩ m2) (k : xs.length + ys.length ≤ big) : EV C ρ m (.bin .add a b) ⟨.f, .lst (xs ++ ys)⟩ m2 := x_bin (d := .lst (xs ++ ys)) h1 h2 (by show addD (.lst xs) (.lst ys) = _; unfold addD; exact if_pos k)
theorem x_addt {xs ys : List D} (h1 : EV C ρ m a ⟨t1, .tup xs⟩ m1) (h2 : EV C ρ m1 b ⟨t2, .tup ys⟩ m2) (k : xs.length + ys.length ≤ big) : EV C ρ m (.bin .add a b) ⟨.v, .tup (xs ++ ys)⟩ m2 := x_bin (d := .tup (xs ++ ys)) h1 h2 (by show addD (.tup xs) (.tup ys) = _; unfold addD; exact if_pos k)
theorem x_adds {xs ys : Sg} (h1 : EV C ρ m a ⟨t1, .str xs⟩ m1) (h2 : EV C ρ m1 b ⟨t2, .str ys⟩ m2) (k : xs.length + ys.length ≤ big) : EV C ρ m (.bin .add a b) ⟨.v, .str (xs ++ ys)⟩ m2 := x_bin (d := .str (xs ++ ys)) h1 h2 (by show addD (.str xs) (.str ys) = _; unfold addD; exact if_pos k)
theorem x_mull {xs : List D} (h1 : EV C ρ m a ⟨t1, .lst xs⟩ m1) (h2 : EV C ρ m1 b ⟨t2, .int i⟩ m2) (k : xs.length ≤ 1000 ∧ -1000 ≤ i ∧ i ≤ 1000) : EV C ρ m (.bin .mul a b) ⟨.f, .lst (rep i.toNat xs)⟩ m2 := x_bin (d := .lst (rep i.toNat xs)) h1 h2 (by
  show (if repOk xs.length i then some (D.lst (rep i.toNat xs)) else none) = _
  rw [show repOk xs.length i = true from decide_eq_true k]; rfl)
theorem x_rev {ds : List D} (h : EV C ρ m a ⟨t, .lst ds⟩ m1) : EV C ρ m (.rev a) ⟨.f, .lst ds.reverse⟩ m1 := bnd_of h rfl
theorem x_call {f : Nat} {es : CEs} {rs : List R} (h : EVs C ρ m es rs m1) (k : C.call f rs m1 = .ok r m2) : EV C ρ m (.call f es) r m2 := bnd_of h k
theorem x_b1 {f : B1} (h : EV C ρ m a x m1) (k : b1D C.rp f x.d = some r) : EV C ρ m (.b1 f a) r m1 := bnd_of h (opt_of k)
theorem x_isi {ty : Ty} {k : Bool} (h : EV C ρ m a x m1) (q : x.d.tyB ty = some k) : EV C ρ m (.isi ty a) ⟨.v, .bl k⟩ m1 := bnd_of h (bnd_of (opt_of q) rfl)
theorem x_lsti {it : CI} {ds : List D} (h : EVi C ρ m it ds m1) : EV C ρ m (.lsti it) ⟨.f, .lst ds⟩ m1 := bnd_of h rfl
theorem xi_val {ds : List D} (h : EV C ρ m e x m1) (k : x.d.items = some ds) : EVi C ρ m (.val e) ds m1 := bnd_of h (opt_of k)
theorem xi_enum {ds : List D} (h : EV C ρ m e ⟨t, .lst ds⟩ m1) : EVi C ρ m (.enum e) (enumL 0 ds) m1 := bnd_of h rfl
theorem xi_rng (h : EV C ρ m e ⟨t, .int i⟩ m1) (k : -1000000 < i ∧ i < 1000000) : EVi C ρ m (.rng e) ((List.range i.toNat).map fun (k : Nat) => D.int k) m1 := by
  refine bnd_of h ?_
  show ((M.guard (decide (-1000000 < i ∧ i < 1000000))) m1).bnd (fun _ m => .ok ((List.range i.toNat).map fun (k : Nat) => D.int k) m) = _
  rw [guard_of (decide_eq_true k)]; rfl
theorem xi_zip {ds : List D} (h1 : EV C ρ m a x m1) (h2 : EV C ρ m1 b y m2) (k : zipD x.d y.d = some ds) : EVi C ρ m (.zip a b) ds m2 := bnd_of h1 (bnd_of h2 (opt_of k))
theorem x_join {s : Sg} {ss : List Sg} (h1 : EV C ρ m a ⟨t1, .str s⟩ m1) (h2 : EV C ρ m1 b ⟨t2, d⟩ m2) (k : d.lst?.bind strs? = some ss) (g : (ss.map List.length).sum + ss.length * s.length ≤ big) : EV C ρ m (.join a b) ⟨.v, .str (joinS s ss)⟩ m2 := by
  refine bnd_of h1 ?_
  show (evE C b ρ m1).bnd (fun y m => ((M.opt (y.d.lst?.bind strs?)) m).bnd fun ss m => ((M.guard (decide ((ss.map List.length).sum + ss.length * s.length ≤ big))) m).bnd fun _ m => .ok (⟨.v, .str (joinS s ss)⟩ : R) m) = _
  rw [show evE C b ρ m1 = _ from h2, mb_ok, opt_of k, mb_ok, guard_of (decide_eq_true g)]; rfl
theorem x_mindex {s : Sg} {k : Nat} (h1 : EV C ρ m a ⟨t1, .str s⟩ m1) (h2 : EV C ρ m1 b ⟨t2, .str [k]⟩ m2) (g : k ∈ s) : EV C ρ m (.mindex a b) ⟨.v, .int (s.idxOf k : Nat)⟩ m2 := by
  refine bnd_of h1 ?_
  show (evE C b ρ m1).bnd (fun y m => ((M.opt y.d.chr?) m).bnd fun c m => ((M.guard (s.contains c)) m).bnd fun _ m => .ok (⟨.v, .int (s.idxOf c : Nat)⟩ : R) m) = _
  rw [show evE C b ρ m1 = _ from h2, mb_ok, show (M.opt (D.str [k]).chr?) m2 = .ok k m2 from rfl, mb_ok, guard_of (show s.contains k = true by simpa using g)]; rfl
theorem x_repl {s : Sg} {k : Nat} {z : Sg} (h1 : EV C ρ m a ⟨t1, .str s⟩ m1) (h2 : EV C ρ m1 b ⟨t2, .str [k]⟩ m2) (h3 : EV C ρ m2 c ⟨t, .str z⟩ m3) (g : s.length + (s.length + 1) * z.length ≤ big) : EV C ρ m (.mreplace a b c) ⟨.v, .str (replS s k z)⟩ m3 := by
  refine bnd_of h1 ?_
  show (evE C b ρ m1).bnd (fun y m => (evE C c ρ m).bnd fun w m => ((M.opt y.d.chr?) m).bnd fun c m => ((M.opt w.d.str?) m).bnd fun z m => ((M.guard (decide (s.length + (s.length + 1) * z.length ≤ big))) m).bnd fun _ m => .ok (⟨.v, .str (replS s c z)⟩ : R) m) = _
  rw [show evE C b ρ m1 = _ from h2, mb_ok, show evE C c ρ m2 = _ from h3, mb_ok, show (M.opt (D.str [k]).chr?) m3 = .ok k m3 from rfl, mb_ok, show (M.opt (D.str z).str?) m3 = .ok z m3 from rfl, mb_ok, guard_of (decide_eq_true g)]; rfl
/-- a comprehension that changes nothing -/
theorem x_comp {own : List Nat} {tg : Tg} {it : CI} {cond : CEo} {ds : List D} {p : D → Bool} {g : D → D} (hi : EVi C ρ m it ds m1) (h : ∀ d ∈ ds, ∃ ρ', bindT tg d (wipeE ρ own) = some ρ' ∧ evC C cond ρ' m1 = .ok (p d) m1 ∧ (p d = true → ∃ r, EV C ρ' m1 e r m1 ∧ r.keep = some (g d))) :
    EV C ρ m (.comp own tg it cond e) ⟨.f, .lst ((ds.filter p).map g)⟩ m1 := by
  have q : mapR (fun d => M.noex (do
      let ρ' ← M.opt (bindT tg d (wipeE ρ own))
      let c ← evC C cond ρ'
      if c then do
        let r ← evE C e ρ'
        let y ← keepM r
        pure (some y)
      else pure none)) ds m1 = .ok (ds.filterMap fun d => if p d then some (g d) else none) m1 := mapR_pure fun d hd => by
    obtain ⟨ρ', h1, h2, h3⟩ := h d hd
    refine noex_ok (bnd_of (opt_of h1) (bnd_of h2 ?_))
    cases hp : p d with
    | false => rfl
    | true =>
      obtain ⟨r, h4, h5⟩ := h3 hp
      exact bnd_of h4 (bnd_of (opt_of h5) rfl)
  refine bnd_of hi (bnd_of q ?_)
  have e2 : (ds.filterMap fun d => if p d then some (g d) else none) = (ds.filter p).map g := by
    clear hi h q
    induction ds with
    | nil => rfl
    | cons d r ih => cases hp : p d <;> simp [List.filterMap_cons, List.filter_cons, hp, ih]
  rw [e2]; rfl
theorem xc_none : evC C .none ρ m = .ok true m := rfl
theorem xc_some {k : Bool} (h : EV C ρ m e x m1) (q : x.d.truth = some k) : evC C (.some e) ρ m = .ok k m1 := bnd_of h (opt_of q)

/-! ### statements -/
theorem k_set {k : Nat} {own : Bool} {s : Sl} (h : EV C ρ m e r m1) (q : slotOf own r = some s) (n : OkS (exSs C ss (ρ.set k s) m1) P) : OkS (exSs C (.cons (.set k own e) ss) ρ m) P := by
  rw [OkS_cons]
  show OkS (onE (evE C e ρ) ρ (fun r m => nxt ((slotOf own r).map fun s => ρ.set k s) m) m) _
  rw [onE_ok h, q]
  exact n
theorem k_ret (h : EV C ρ m e r m1) (q : ∃ d, r.keep = some d) (n : P (.rt r) m1) : OkS (exSs C (.cons (.ret e) ss) ρ m) P := by
  rw [OkS_cons]
  show OkS (onE (evE C e ρ) ρ (fun r m => (match r.keep with | some _ => .ok (.rt r) m | none => .st)) m) _
  obtain ⟨d, q⟩ := q
  rw [onE_ok h, q]
  exact n
theorem k_frz {k : Nat} {s : Sl} (h : (ρ[k]?).bind frzS = some s) (n : OkS (exSs C ss (ρ.set k s) m) P) : OkS (exSs C (.cons (.frz k) ss) ρ m) P := by
  rw [OkS_cons]
  show OkS (nxt (((ρ[k]?).bind frzS).map fun s => ρ.set k s) m) _
  rw [h]
  exact n
theorem k_isS {k : Nat} {s : Sg} (h : ρ[k]? = some (.val (.str s))) (n : OkS (exSs C ss ρ m) P) : OkS (exSs C (.cons (.isS k) ss) ρ m) P := by
  rw [OkS_cons]
  show OkS (match ρ[k]? with | some (.val (.str _)) => .ok (.nx ρ) m | _ => .st) _
  rw [h]
  exact n
theorem k_ite {cs ds : CSs} {k : Bool} (h : EV C ρ m c r m1) (q : r.d.truth = some k) (h1 : k = true → OkS (exSs C cs ρ m1) (Nx P (exSs C ss))) (h2 : k = false → OkS (exSs C ds ρ m1) (Nx P (exSs C ss))) : OkS (exSs C (.cons (.ite c cs ds) ss) ρ m) P := by
  rw [OkS_cons]
  have e : (evE C c ρ >>= fun r => M.opt r.d.truth) m = .ok k m1 := bnd_of h (opt_of q)
  show OkS (onE (evE C c ρ >>= fun r => M.opt r.d.truth) ρ (fun k m => if k then exSs C cs ρ m else exSs C ds ρ m) m) _
  rw [onE_ok e]
  cases k with
  | true => exact h1 rfl
  | false => exact h2 rfl
theorem k_sset {n : Nat} {ds : List D} {k : CE} {d : D} {i : Int} {j : Nat} (h1 : EV C ρ m e r m1) (q : r.keep = some d) (h2 : EV C ρ m1 a ⟨t1, .ref n⟩ m2) (h3 : EV C ρ m2 k ⟨t2, .int i⟩ m3) (g : m3[n]? = some (.lst ds)) (g2 : atN ds.length i = some j) (nx : OkS (exSs C ss ρ (m3.set n (.lst (ds.set j d)))) P) : OkS (exSs C (.cons (.sset a k e) ss) ρ m) P := by
  rw [OkS_cons]
  have e1 : (evE C e ρ >>= fun r => M.opt r.keep >>= fun d => evE C a ρ >>= fun x => evE C k ρ >>= fun y => pure (d, x.d, y.d)) m = .ok (d, .ref n, .int i) m3 := bnd_of h1 (bnd_of (opt_of q) (bnd_of h2 (bnd_of h3 rfl)))
  show OkS (onE (evE C e ρ >>= fun r => M.opt r.keep >>= fun d => evE C a ρ >>= fun x => evE C k ρ >>= fun y => pure (d, x.d, y.d)) ρ (fun p m => ssetD p.1 p.2.1 p.2.2 ρ m) m) _
  rw [onE_ok e1]
  show OkS (match m3[n]? with
    | some (.lst ds) => (match atN ds.length i with
      | some j => .ok (.nx ρ) (m3.set n (.lst (ds.set j d)))
      | none => .st)
    | _ => .st) _
  rw [g]
  dsimp only
  rw [g2]
  exact nx
theorem x_newl {es : CEs} {rs : List R} {ds : List D} (h : EVs C ρ m es rs m') (k : keepAll rs = some ds) : EV C ρ m (.newl es) ⟨.v, .ref m'.length⟩ (m' ++ [.lst ds]) := bnd_of h (bnd_of (opt_of k) rfl)
/-- behind a round -/
def Lp (P : Fl → Mu → Prop) (k : Env → Mu → OutS) (J : Env → Mu → Prop) (f : Fl) (m : Mu) : Prop := match f with | .nx ρ => J ρ m | .ct ρ => J ρ m | .br ρ => OkS (k ρ m) P | .rt r => P (.rt r) m
@[simp] theorem Lp_nx {k : Env → Mu → OutS} {J : Env → Mu → Prop} : Lp P k J (.nx ρ) m ↔ J ρ m := Iff.rfl
@[simp] theorem Lp_ct {k : Env → Mu → OutS} {J : Env → Mu → Prop} : Lp P k J (.ct ρ) m ↔ J ρ m := Iff.rfl
@[simp] theorem Lp_br {k : Env → Mu → OutS} {J : Env → Mu → Prop} : Lp P k J (.br ρ) m ↔ OkS (k ρ m) P := Iff.rfl
@[simp] theorem Lp_rt {k : Env → Mu → OutS} {J : Env → Mu → Prop} : Lp P k J (.rt r) m ↔ P (.rt r) m := Iff.rfl
theorem k_for {tg : Tg} {it : CI} {body : CSs} {ds : List D} (J : List D → Env → Mu → Prop) (h : EVi C (hideO ρ) m it ds m1) (j : J ds ρ m1)
    (step : ∀ d r ρ' m', J (d :: r) ρ' m' → ∃ ρ1, bindT tg d ρ' = some ρ1 ∧ OkS (exSs C body ρ1 m') (Lp P (exSs C ss) (J r)))
    (fin : ∀ ρ' m', J [] ρ' m' → OkS (exSs C ss ρ' m') P) : OkS (exSs C (.cons (.for_ tg it body) ss) ρ m) P := by
  rw [OkS_cons]
  show OkS (onE (evI C it (hideO ρ)) ρ (fun ds m => forS tg (exSs C body) ds ρ m) m) _
  rw [onE_ok h]
  refine OkS_for (J := fun _ => J) (c := 0) ds 0 ρ m1 j (fun d r b' ρ' m' j' => ?_) (fun b' ρ' m' j' => fin ρ' m' j')
  obtain ⟨ρ1, h1, h2⟩ := step d r ρ' m' j'
  refine ⟨ρ1, h1, h2.mono fun f m2 q => ?_⟩
  cases f <;> exact q
theorem k_oset {k : Nat} {e2 : CE} {ds : List D} {i : Int} {j : Nat} (h1 : EV C ρ m e r m1) (q : r.keep = some d) (o : ρ[k]? = some (.own (.lst ds))) (h2 : EV C ρ m1 e2 ⟨t, .int i⟩ m2) (g : atN ds.length i = some j) (n : OkS (exSs C ss (ρ.set k (.own (.lst (ds.set j d)))) m2) P) : OkS (exSs C (.cons (.oset k e2 e) ss) ρ m) P := by
  rw [OkS_cons]
  have e1 : (evE C e ρ >>= fun r => M.opt r.keep >>= fun d => M.opt (ownL ρ k) >>= fun ds => evE C e2 ρ >>= fun y => pure (d, ds, y.d)) m = .ok (d, ds, .int i) m2 := bnd_of h1 (bnd_of (opt_of q) (bnd_of (opt_of (by unfold ownL; rw [o])) (bnd_of h2 rfl)))
  show OkS (onE (evE C e ρ >>= fun r => M.opt r.keep >>= fun d => M.opt (ownL ρ k) >>= fun ds => evE C e2 ρ >>= fun y => pure (d, ds, y.d)) ρ (fun p m => nxt ((putL p.2.1 p.2.2 p.1).map fun o' => ρ.set k (.own o')) m) m) _
  rw [onE_ok e1]
  show OkS (nxt (((atN ds.length i).map fun j => D.lst (ds.set j d)).map fun o' => ρ.set k (.own o')) m2) _
  rw [g]
  exact n
theorem k_app {k : Nat} {ds : List D} (o : ρ[k]? = some (.own (.lst ds))) (h1 : EV C ρ m e r m1) (q : r.keep = some d) (z : ds.length < big) (n : OkS (exSs C ss (ρ.set k (.own (.lst (ds ++ [d])))) m1) P) : OkS (exSs C (.cons (.app k e) ss) ρ m) P := by
  rw [OkS_cons]
  show OkS (match ρ[k]? with
    | some (.own (.lst ds)) => onE (evE C e ρ) ρ (fun r m => nxt (if ds.length < big then r.keep.map fun d => ρ.set k (.own (.lst (ds ++ [d]))) else none) m) m
    | _ => .st) _
  rw [o]
  dsimp only
  rw [onE_ok h1, if_pos z, q]
  exact n
theorem k_oins {k : Nat} {e2 : CE} {ds : List D} {i : Int} (o : ρ[k]? = some (.own (.lst ds))) (h2 : EV C ρ m e2 ⟨t, .int i⟩ m1) (h1 : EV C ρ m1 e r m2) (q : r.keep = some d) (z : ds.length < big ∧ 0 ≤ i ∧ i < 1000000) (n : OkS (exSs C ss (ρ.set k (.own (.lst (ds.take i.toNat ++ [d] ++ ds.drop i.toNat)))) m2) P) : OkS (exSs C (.cons (.oins k e2 e) ss) ρ m) P := by
  rw [OkS_cons]
  show OkS (match ρ[k]? with
    | some (.own (.lst ds)) => onE (evE C e2 ρ >>= fun x => evE C e ρ >>= fun r => M.opt r.keep >>= fun d => pure (x.d, d)) ρ (fun p m => nxt ((insD? ds p.1 p.2).map fun o => ρ.set k (.own o)) m) m
    | _ => .st) _
  rw [o]
  dsimp only
  have e1 : (evE C e2 ρ >>= fun x => evE C e ρ >>= fun r => M.opt r.keep >>= fun d => pure (x.d, d)) m = .ok (.int i, d) m2 := bnd_of h2 (bnd_of h1 (bnd_of (opt_of q) rfl))
  rw [onE_ok e1]
  show OkS (nxt ((if ds.length < big ∧ 0 ≤ i ∧ i < 1000000 then some (D.lst (ds.take i.toNat ++ [d] ++ ds.drop i.toNat)) else none).map fun o => ρ.set k (.own o)) m2) _
  rw [if_pos z]
  exact n
abbrev EVp (C : Cx) (ρ : Env) (m : Mu) (e : CEs) (os : List Bool) (s : List Sl) (m' : Mu) : Prop := evP C e os ρ m = .ok s m'
theorem xp_nil : EVp C ρ m .nil [] [] m := rfl
theorem xp_cons {es : CEs} {o : Bool} {os : List Bool} {s : Sl} {sl : List Sl} (h1 : EV C ρ m e r m1) (q : slotOf o r = some s) (h2 : EVp C ρ m1 es os sl m2) : EVp C ρ m (.cons e es) (o :: os) (s :: sl) m2 := bnd_of h1 (bnd_of (opt_of q) (bnd_of h2 rfl))
theorem k_par {is : List Nat} {os : List Bool} {es : CEs} {sl : List Sl} (h : EVp C ρ m es os sl m1) (q : setSl is sl ρ = some ρ') (n : OkS (exSs C ss ρ' m1) P) : OkS (exSs C (.cons (.par is os es) ss) ρ m) P := by
  rw [OkS_cons]
  show OkS (onE (evP C es os ρ) ρ (fun ss m => nxt (setSl is ss ρ) m) m) _
  rw [onE_ok h, q]
  exact n
theorem k_unp {is : List Nat} {ds : List D} (h : EV C ρ m e r m1) (q : r.keep = some (.tup ds)) (q2 : setAll is ds ρ = some ρ') (n : OkS (exSs C ss ρ' m1) P) : OkS (exSs C (.cons (.unp is e) ss) ρ m) P := by
  rw [OkS_cons]
  show OkS (onE (evE C e ρ) ρ (fun r m => nxt (r.keep.bind fun d => bindT (.tp is) d ρ) m) m) _
  rw [onE_ok h, q]
  show OkS (nxt (setAll is ds ρ) m1) _
  rw [q2]
  exact n
theorem k_retF {k : Nat} (o : ρ[k]? = some (.own d)) (n : P (.rt ⟨.f, d⟩) m) : OkS (exSs C (.cons (.retF k) ss) ρ m) P := by
  rw [OkS_cons]
  show OkS (match ρ[k]? with | some (.own d) => .ok (.rt ⟨.f, d⟩) m | _ => .st) _
  rw [o]
  exact n
/-- a comprehension that may change the store -/
theorem Ok_comp {own : List Nat} {tg : Tg} {it : CI} {cond : CEo} {ds : List D} {I : Nat → Mu → Prop} {Q : D → Option D → Prop} {b k : Nat} (hi : EVi C ρ m it ds m1) (i : I b m1)
    (h : ∀ d ∈ ds, ∀ b' m', b' + k ≤ b + ds.length * k → I b' m' → ∃ ρ', bindT tg d (wipeE ρ own) = some ρ' ∧ Ok (evC C cond ρ' m') fun q m2 =>
      (q = true → Ok (evE C e ρ' m2) fun r m3 => ∃ y, r.keep = some y ∧ I (b' + k) m3 ∧ Q d (some y)) ∧ (q = false → I (b' + k) m2 ∧ Q d none)) :
    Ok (evE C (.comp own tg it cond e) ρ m) fun r m2 => I (b + ds.length * k) m2 ∧ ∃ os, Pr Q ds os ∧ r = ⟨.f, .lst (os.filterMap id)⟩ := by
  have q := Ok_mapR (f := fun d => M.noex (do
      let ρ' ← M.opt (bindT tg d (wipeE ρ own))
      let c ← evC C cond ρ'
      if c then do
        let r ← evE C e ρ'
        let y ← keepM r
        pure (some y)
      else pure none)) (I := I) (Q := Q) ds b k m1 i fun d hd b' m' hb i' => by
    obtain ⟨ρ', h1, h2⟩ := h d hd b' m' hb i'
    obtain ⟨q, m2, e1, h3, h4⟩ := h2.eq
    cases q with
    | false =>
      have : M.noex (do
        let ρ' ← M.opt (bindT tg d (wipeE ρ own))
        let c ← evC C cond ρ'
        if c then do
          let r ← evE C e ρ'
          let y ← keepM r
          pure (some y)
        else pure none) m' = .ok none m2 := noex_ok (bnd_of (opt_of h1) (bnd_of e1 rfl))
      rw [this]
      exact h4 rfl
    | true =>
      obtain ⟨r, m3, e2, y, e3, h5⟩ := (h3 rfl).eq
      have : M.noex (do
        let ρ' ← M.opt (bindT tg d (wipeE ρ own))
        let c ← evC C cond ρ'
        if c then do
          let r ← evE C e ρ'
          let y ← keepM r
          pure (some y)
        else pure none) m' = .ok (some y) m3 := noex_ok (bnd_of (opt_of h1) (bnd_of e1 (bnd_of e2 (bnd_of (opt_of e3) rfl))))
      rw [this]
      exact h5
  obtain ⟨ys, m2, e1, h1, os, p, rfl⟩ := q.eq
  have : evE C (.comp own tg it cond e) ρ m = .ok ⟨.f, .lst (os.filterMap id)⟩ m2 := bnd_of hi (bnd_of e1 rfl)
  rw [this]
  exact ⟨h1, os, p, rfl⟩
end
end Dn

/-! DnL -/
set_option Elab.async false
set_option linter.all false
set_option maxRecDepth 100000
set_option maxHeartbeats 1000000
/-! DnL: the laws' common defs, what their cores do. -/
namespace Dn
def F_spread : Fn := ⟨[false, false], 6, (.cons (.ite (.cmp .ge (.var 0) (.bin .pow (.con (.int 10)) (.con (.int 18)))) (.cons (.ret (.var 0)) .nil) .nil) (.cons (.set 2 false (.lst (.cons (.con (.int 2147483629)) (.cons (.con (.int 2147483587)) (.cons (.con (.int 2147483579)) (.cons (.con (.int 2147483563)) (.cons (.con (.int 2147483549)) (.cons (.con (.int 2147483543)) (.cons (.con (.int 2147483497)) (.cons (.con (.int 2147483489)) .nil)))))))))) (.cons (.set 2 false (.bin .add (.var 2) (.lst (.cons (.con (.int 2147483477)) (.cons (.con (.int 2147483423)) (.cons (.con (.int 2147483399)) (.cons (.con (.int 2147483353)) (.cons (.con (.int 2147483323)) .nil)))))))) (.cons (.set 3 false (.bin .mod (.bin .pow (.bin .add (.bin .add (.bin .mul (.bin .mod (.var 0) (.con (.int 1000000007))) (.bin .add (.bin .mul (.con (.int 2)) (.var 1)) (.con (.int 69069)))) (.bin .mul (.var 1) (.con (.int 40503)))) (.con (.int 977))) (.con (.int 3))) (.idx (.var 2) (.bin .mod (.var 1) (.con (.int 13)))))) (.cons (.set 4 false (.bin .mod (.bin .pow (.bin .add (.bin .add (.bin .mul (.var 3) (.bin .add (.var 1) (.con (.int 3)))) (.bin .mod (.var 0) (.con (.int 65537)))) (.con (.int 5))) (.con (.int 5))) (.idx (.var 2) (.bin .mod (.bin .add (.var 1) (.con (.int 5))) (.con (.int 13)))))) (.cons (.set 5 false (.bin .mod (.bin .pow (.bin .add (.bin .add (.var 4) (.bin .mod (.var 3) (.con (.int 1009)))) (.var 1)) (.con (.int 3))) (.idx (.var 2) (.bin .mod (.bin .add (.var 1) (.con (.int 7))) (.con (.int 13)))))) (.cons (.ret (.bin .add (.bin .mul (.bin .add (.bin .mul (.var 3) (.con (.int 2147483647))) (.var 4)) (.con (.int 2147483647))) (.var 5))) .nil)))))))⟩
def F_take (sp : Nat) : Fn := ⟨[false, false], 5, (.cons (.ite (.cmp .lt (.idx (.var 0) (.con (.int 2))) (.var 1)) (.cons (.set 3 false (.idx (.var 0) (.con (.int 1)))) (.cons (.set 4 false (.con (.int 0))) (.cons (.ite (.cmp .lt (.var 3) (.b1 .len (.idx (.var 0) (.con (.int 0))))) (.cons (.set 4 false (.idx (.idx (.var 0) (.con (.int 0))) (.var 3))) .nil) (.cons (.ite (.cmp .gt (.b1 .len (.idx (.var 0) (.con (.int 0)))) (.con (.int 0))) (.cons (.set 4 false (.bin .mod (.idx (.idx (.var 0) (.con (.int 0))) (.bin .mod (.bin .add (.bin .mul (.var 3) (.con (.int 5))) (.con (.int 3))) (.b1 .len (.idx (.var 0) (.con (.int 0)))))) (.bin .add (.bin .pow (.con (.int 10)) (.con (.int 17))) (.var 3)))) .nil) .nil) .nil)) (.cons (.sset (.var 0) (.con (.int 1)) (.bin .add (.var 3) (.con (.int 1)))) (.cons (.sset (.var 0) (.con (.int 2)) (.call sp (.cons (.var 4) (.cons (.var 3) .nil)))) .nil))))) .nil) (.cons (.set 2 false (.bin .mod (.idx (.var 0) (.con (.int 2))) (.var 1))) (.cons (.sset (.var 0) (.con (.int 2)) (.bin .fdiv (.idx (.var 0) (.con (.int 2))) (.var 1))) (.cons (.ret (.var 2)) .nil))))⟩
theorem log2_lt {a : Nat} {k : Nat} (h : a < 2 ^ k) (hk : 0 < k) : a.log2 < k := by
  by_cases h0 : a = 0
  · subst h0; simpa using hk
  · exact (Nat.log2_lt h0).mpr h
theorem mul_small {i j : Int} (h1 : i.natAbs < 2 ^ 100) (h2 : j.natAbs < 2 ^ 100) : i.natAbs.log2 + j.natAbs.log2 < 1000000 := by
  have a := log2_lt h1 (by decide)
  have b := log2_lt h2 (by decide)
  omega
theorem emod_nat {i j : Int} (hj : 0 < j) : 0 ≤ i % j ∧ i % j < j := ⟨Int.emod_nonneg _ (by omega), Int.emod_lt_of_pos _ hj⟩
theorem ix_all {ds : List D} {i : Int} {m : Mu} (h0 : 0 ≤ i) (h1 : i < ds.length) {Q : D → Prop} (q : ∀ d ∈ ds, Q d) : ∃ d, ixS m (.lst ds) (.int i) = some d ∧ Q d := by
  have hi : i.toNat < ds.length := by omega
  refine ⟨ds[i.toNat], ?_, q _ (List.getElem_mem hi)⟩
  show (atN ds.length i).bind (ds[·]?) = _
  unfold atN
  rw [if_pos h0, if_pos h1]
  exact List.getElem?_eq_getElem hi
theorem abs_lt {i : Int} {k : Nat} (h0 : 0 ≤ i) (h1 : i < (k : Int)) : i.natAbs < k := by omega
theorem spread_ok {T : Tb} {f n : Nat} (hf : T.fns[f]? = some F_spread) (c at_ : Int) (h0 : 0 ≤ at_) (h1 : at_ ≤ 1000000000) (m : Mu) : Ok (callF T (n + 1) f [⟨.v, .int c⟩, ⟨.v, .int at_⟩] m) fun r m' => m' = m ∧ ∃ v, r = ⟨.v, .int v⟩ := by
  refine Ok_call hf rfl ?_
  have pr : ∀ (i : Int), 0 ≤ i → ∃ d, ixS m (.lst [.int 2147483629, .int 2147483587, .int 2147483579, .int 2147483563, .int 2147483549, .int 2147483543, .int 2147483497, .int 2147483489, .int 2147483477, .int 2147483423, .int 2147483399, .int 2147483353, .int 2147483323]) (.int (i % 13)) = some d ∧ ∃ p, d = .int p ∧ 0 < p ∧ p < 2147483648 := fun i _ =>
    ix_all (emod_nat (by decide)).1 (emod_nat (by decide)).2 (by simp)
  obtain ⟨_, e1, p1, rfl, a1, b1⟩ := pr at_ h0
  obtain ⟨_, e2, p2, rfl, a2, b2⟩ := pr (at_ + 5) (by omega)
  obtain ⟨_, e3, p3, rfl, a3, b3⟩ := pr (at_ + 7) (by omega)
  have c1 := emod_nat (i := c) (j := 1000000007) (by decide)
  have c2 := emod_nat (i := c) (j := 65537) (by decide)
  refine k_ite (x_cmp (x_var rfl) (x_pow x_con x_con ⟨by decide, by decide, by decide⟩) rfl) rfl (fun _ => k_ret (x_var rfl) ⟨_, rfl⟩ ⟨rfl, _, rfl⟩) (fun _ => ?_)
  show OkS (exSs _ _ _ _) _
  refine k_set (x_lst rfl rfl) rfl ?_
  refine k_set (x_bin (x_var rfl) (x_lst rfl rfl) rfl) rfl ?_
  have k1 : 0 ≤ c % 1000000007 * (2 * at_ + 69069) ∧ c % 1000000007 * (2 * at_ + 69069) ≤ 1000000007 * 2000069069 := ⟨Int.mul_nonneg c1.1 (by omega), Int.mul_le_mul (by omega) (by omega) (by omega) (by decide)⟩
  refine k_set (x_mod (x_pow (x_add (x_add (x_mul (x_mod (x_var rfl) x_con (by decide)) (x_add (x_mul x_con (x_var rfl) (mul_small (by decide) (by omega))) x_con) (mul_small (by omega) (by omega))) (x_mul (x_var rfl) x_con (mul_small (by omega) (by decide)))) x_con) x_con ⟨by decide, by decide, by omega⟩) (x_idx (x_var rfl) (x_mod (x_var rfl) x_con (by decide)) e1) a1) rfl ?_
  have o1 := emod_nat (i := (c % 1000000007 * (2 * at_ + 69069) + at_ * 40503 + 977) ^ (3 : Int).toNat) a1
  generalize (c % 1000000007 * (2 * at_ + 69069) + at_ * 40503 + 977) ^ (3 : Int).toNat % p1 = one at o1 ⊢
  have k2 : 0 ≤ one * (at_ + 3) ∧ one * (at_ + 3) ≤ 2147483648 * 1000000003 := ⟨Int.mul_nonneg o1.1 (by omega), Int.mul_le_mul (by omega) (by omega) (by omega) (by decide)⟩
  refine k_set (x_mod (x_pow (x_add (x_add (x_mul (x_var rfl) (x_add (x_var rfl) x_con) (mul_small (by omega) (by omega))) (x_mod (x_var rfl) x_con (by decide))) x_con) x_con ⟨by decide, by decide, by omega⟩) (x_idx (x_var rfl) (x_mod (x_add (x_var rfl) x_con) x_con (by decide)) e2) a2) rfl ?_
  have o2 := emod_nat (i := (one * (at_ + 3) + c % 65537 + 5) ^ (5 : Int).toNat) a2
  generalize (one * (at_ + 3) + c % 65537 + 5) ^ (5 : Int).toNat % p2 = two at o2 ⊢
  have c3 := emod_nat (i := one) (j := 1009) (by decide)
  refine k_set (x_mod (x_pow (x_add (x_add (x_var rfl) (x_mod (x_var rfl) x_con (by decide))) (x_var rfl)) x_con ⟨by decide, by decide, by omega⟩) (x_idx (x_var rfl) (x_mod (x_add (x_var rfl) x_con) x_con (by decide)) e3) a3) rfl ?_
  have o3 := emod_nat (i := (two + one % 1009 + at_) ^ (3 : Int).toNat) a3
  generalize (two + one % 1009 + at_) ^ (3 : Int).toNat % p3 = three at o3 ⊢
  exact k_ret (x_add (x_mul (x_add (x_mul (x_var rfl) x_con (mul_small (by omega) (by decide))) (x_var rfl)) x_con (mul_small (by omega) (by decide))) (x_var rfl)) ⟨_, rfl⟩ ⟨rfl, _, rfl⟩
/-- the pen: where it stands, at most b cells in -/
def Pen (b : Nat) (m : Mu) : Prop := ∃ (cells : List Int) (at_ v : Int), m = [.lst [.lst (cells.map .int), .int at_, .int v]] ∧ 0 ≤ at_ ∧ at_ ≤ b
theorem Pen.le {b c : Nat} {m : Mu} (h : Pen b m) (k : b ≤ c) : Pen c m := by
  obtain ⟨cells, a, v, e, h0, h1⟩ := h
  exact ⟨cells, a, v, e, h0, by omega⟩
def lim : Nat := 1000000000
theorem ix_ints {cells : List Int} {i : Int} {m : Mu} (h0 : 0 ≤ i) (h1 : i < cells.length) : ∃ v, ixS m (.lst (cells.map .int)) (.int i) = some (.int v) := by
  obtain ⟨d, e, v, rfl⟩ := ix_all (ds := cells.map D.int) (m := m) (Q := fun d => ∃ v, d = .int v) h0 (by rw [List.length_map]; exact h1) (fun d hd => by
    obtain ⟨v, _, rfl⟩ := List.mem_map.mp hd
    exact ⟨v, rfl⟩)
  exact ⟨v, e⟩
/-- what stands behind the first statement of take -/
theorem take_end {C : Cx} {cells : List Int} {at_ v a : Int} {b : Nat} (ha : 0 < a) (hl : a < 2 ^ 200) {ρ : Env} (e0 : ρ[0]? = some (.val (.ref 0))) (e1 : ρ[1]? = some (.val (.int a))) (hr : ρ.length = 5) {m : Mu} (hm : m = [.lst [.lst (cells.map .int), .int at_, .int v]]) (h0 : 0 ≤ at_) (h1 : at_ ≤ b) :
    OkS (exSs C (.cons (.set 2 false (.bin .mod (.idx (.var 0) (.con (.int 2))) (.var 1))) (.cons (.sset (.var 0) (.con (.int 2)) (.bin .fdiv (.idx (.var 0) (.con (.int 2))) (.var 1))) (.cons (.ret (.var 2)) .nil))) ρ m) (End fun r m' => Pen b m' ∧ ∃ i : Nat, r = ⟨.v, .int i⟩ ∧ (i : Int) < a) := by
  subst hm
  have q := emod_nat (i := v) ha
  refine k_set (x_mod (x_idx (x_var (r := ⟨.v, .ref 0⟩) (by rw [e0]; rfl)) x_con (d := .int v) rfl) (x_var (r := ⟨.v, .int a⟩) (by rw [e1]; rfl)) ha) rfl ?_
  have f0 : (ρ.set 2 (.val (.int (v % a))))[0]? = some (.val (.ref 0)) := by rw [List.getElem?_set_ne (by decide)]; exact e0
  have f1 : (ρ.set 2 (.val (.int (v % a))))[1]? = some (.val (.int a)) := by rw [List.getElem?_set_ne (by decide)]; exact e1
  have f2 : (ρ.set 2 (.val (.int (v % a))))[2]? = some (.val (.int (v % a))) := by rw [List.getElem?_set_self (by omega)]
  have hlog : a.natAbs.log2 < 9000 := Nat.lt_of_lt_of_le (log2_lt (k := 200) (by omega) (by decide)) (by decide)
  refine k_sset (x_fdiv (x_idx (x_var (r := ⟨.v, .ref 0⟩) (by rw [f0]; rfl)) x_con (d := .int v) rfl) (x_var (r := ⟨.v, .int a⟩) (by rw [f1]; rfl)) ⟨ha, hlog⟩) rfl (x_var (r := ⟨.v, .ref 0⟩) (by rw [f0]; rfl)) x_con rfl rfl ?_
  refine k_ret (x_var (r := ⟨.v, .int (v % a)⟩) (by rw [f2]; rfl)) ⟨_, rfl⟩ ?_
  refine ⟨⟨cells, at_, v / a, rfl, h0, h1⟩, (v % a).toNat, ?_, by omega⟩
  rw [Int.toNat_of_nonneg q.1]
theorem take_ok {T : Tb} {f sp n : Nat} (hf : T.fns[f]? = some (F_take sp)) (hs : T.fns[sp]? = some F_spread) {b : Nat} {m : Mu} (hb : b < lim) (hp : Pen b m) (a : Int) (ha : 0 < a) (hl : a < 2 ^ 200) :
    Ok (callF T (n + 2) f [⟨.v, .ref 0⟩, ⟨.v, .int a⟩] m) fun r m' => Pen (b + 1) m' ∧ ∃ i : Nat, r = ⟨.v, .int i⟩ ∧ (i : Int) < a := by
  obtain ⟨cells, at_, v, rfl, h0, h1⟩ := hp
  have hb' : b < 1000000000 := hb
  refine Ok_call hf rfl ?_
  refine k_ite (x_cmp (x_idx (x_var rfl) x_con (d := .int v) rfl) (x_var rfl) rfl) rfl (fun _ => ?_) (fun _ => ?_)
  · have fin : ∀ (x4 : Sl) (c : Int), x4 = .val (.int c) → OkS (exSs ⟨callF T (n + 1), T.gl, T.rp, T.wf⟩ (.cons (.sset (.var 0) (.con (.int 1)) (.bin .add (.var 3) (.con (.int 1)))) (.cons (.sset (.var 0) (.con (.int 2)) (.call sp (.cons (.var 4) (.cons (.var 3) .nil)))) .nil))
        [.val (.ref 0), .val (.int a), .un, .val (.int at_), x4] [.lst [.lst (cells.map .int), .int at_, .int v]]) (Nx (End fun r m' => Pen (b + 1) m' ∧ ∃ i : Nat, r = ⟨.v, .int i⟩ ∧ (i : Int) < a) (exSs ⟨callF T (n + 1), T.gl, T.rp, T.wf⟩ (.cons (.set 2 false (.bin .mod (.idx (.var 0) (.con (.int 2))) (.var 1))) (.cons (.sset (.var 0) (.con (.int 2)) (.bin .fdiv (.idx (.var 0) (.con (.int 2))) (.var 1))) (.cons (.ret (.var 2)) .nil))))) := by
      rintro _ c rfl
      refine k_sset (x_add (x_var rfl) x_con) rfl (x_var rfl) x_con rfl rfl ?_
      obtain ⟨r, m', e, rfl, w, rfl⟩ := (spread_ok (n := n) hs c at_ h0 (by omega) [.lst [.lst (cells.map .int), .int (at_ + 1), .int v]]).eq
      refine k_sset (x_call (x_cons (x_var rfl) (x_cons (x_var rfl) x_nil)) e) rfl (x_var rfl) x_con rfl rfl ?_
      rw [OkS_nil, Nx_nx]
      exact take_end (at_ := at_ + 1) (v := w) ha hl rfl rfl rfl rfl (by omega) (by omega)
    show OkS (exSs _ _ _ _) _
    refine k_set (x_idx (x_var rfl) x_con (d := .int at_) rfl) rfl ?_
    refine k_set x_con rfl ?_
    have hlen : ∀ (ρ : Env), ρ[0]? = some (.val (.ref 0)) → EV ⟨callF T (n + 1), T.gl, T.rp, T.wf⟩ ρ [.lst [.lst (cells.map .int), .int at_, .int v]] (.b1 .len (.idx (.var 0) (.con (.int 0)))) ⟨.v, .int (cells.length : Nat)⟩ [.lst [.lst (cells.map .int), .int at_, .int v]] := fun ρ e =>
      x_b1 (x_idx (x_var (r := ⟨.v, .ref 0⟩) (by rw [e]; rfl)) x_con (d := .lst (cells.map .int)) rfl) (by
        show some (⟨.v, .int ((cells.map D.int).length : Nat)⟩ : R) = _
        rw [List.length_map])
    refine k_ite (x_cmp (x_var rfl) (hlen _ rfl) rfl) rfl (fun hc => ?_) (fun hc => ?_)
    · have hc : at_ < (cells.length : Nat) := of_decide_eq_true hc
      obtain ⟨w, ew⟩ := ix_ints (m := [.lst [.lst (cells.map .int), .int at_, .int v]]) h0 hc
      refine k_set (x_idx (x_idx (x_var rfl) x_con (d := .lst (cells.map .int)) rfl) (x_var rfl) ew) rfl ?_
      rw [OkS_nil, Nx_nx]
      exact fin _ w rfl
    · refine k_ite (x_cmp (hlen _ rfl) x_con rfl) rfl (fun hc2 => ?_) (fun hc2 => ?_)
      · have hc2 : (0 : Int) < (cells.length : Nat) := of_decide_eq_true hc2
        have q := emod_nat (i := at_ * 5 + 3) hc2
        obtain ⟨w, ew⟩ := ix_ints (m := [.lst [.lst (cells.map .int), .int at_, .int v]]) q.1 q.2
        refine k_set (x_mod (x_idx (x_idx (x_var rfl) x_con (d := .lst (cells.map .int)) rfl) (x_mod (x_add (x_mul (x_var rfl) x_con (mul_small (by omega) (by decide))) x_con) (hlen _ rfl) hc2) ew) (x_add (x_pow x_con x_con ⟨by decide, by decide, by decide⟩) (x_var rfl)) (by
          show (0 : Int) < 100000000000000000 + at_
          omega)) rfl ?_
        rw [OkS_nil, Nx_nx, OkS_nil, Nx_nx]
        exact fin _ _ rfl
      · rw [OkS_nil, Nx_nx, OkS_nil, Nx_nx]
        exact fin _ 0 rfl
  · rw [OkS_nil, Nx_nx]
    exact take_end ha hl rfl rfl rfl rfl h0 (by omega)
end Dn

/-! DnL2 -/
set_option Elab.async false
set_option linter.all false
set_option maxRecDepth 100000
set_option maxHeartbeats 1000000
/-! DnL2: the laws' common defs: open, subset. -/
namespace Dn
def F_open : Fn := ⟨[false], 4, (.cons (.set 1 true (.lsti (.val (.slice (.var 0) .none (.some (.con (.int 12))))))) (.cons (.for_ (.tp [2, 3]) (.enum (.slice (.var 0) (.some (.con (.int 12))) (.some (.con (.int 63))))) (.cons (.oset 1 (.bin .mod (.var 2) (.con (.int 12))) (.bin .add (.idx (.var 1) (.bin .mod (.var 2) (.con (.int 12)))) (.var 3))) .nil)) (.cons (.frz 1) (.cons (.ret (.newl (.cons (.var 1) (.cons (.con (.int 0)) (.cons (.con (.int 0)) .nil))))) .nil))))⟩
theorem enum_int : ∀ (k : Nat) (cs : List Int) (d : D), d ∈ enumL k (cs.map .int) → ∃ (j : Nat) (c : Int), d = .tup [.int j, .int c]
  | _, [], _, h => by cases h
  | k, c :: cs, d, h => by
    rcases List.mem_cons.mp h with h | h
    · exact ⟨k, c, h⟩
    · exact enum_int (k + 1) cs d h
theorem enum_nil : ∀ (k : Nat) (ds : List D), enumL k ds ≠ [] → ds ≠ []
  | _, [], h => h
  | _, _ :: _, _ => by simp
theorem mod_nat (j : Nat) : (j : Int) % 12 = ((j % 12 : Nat) : Int) := by omega
theorem open_ok {T : Tb} {f n : Nat} (hf : T.fns[f]? = some F_open) (ns : List Int) : Ok (callF T (n + 1) f [⟨.v, .scr ns⟩] []) fun r m => Pen 0 m ∧ r = ⟨.v, .ref 0⟩ := by
  refine Ok_call hf rfl ?_
  refine k_set (x_lsti (xi_val (x_slc (x_var rfl) xo_none (xo_some x_con (by decide))) rfl)) rfl ?_
  refine k_for (J := fun ds ρ m => m = [] ∧ (∀ d ∈ ds, ∃ (j : Nat) (c : Int), d = .tup [.int j, .int c]) ∧ ∃ (cells : List Int) (x2 x3 : Sl), (ds ≠ [] → cells.length = 12) ∧ ρ = [.val (.scr ns), .own (.lst (cells.map .int)), x2, x3])
    (xi_enum (t := .f) (x_slc (x_var rfl) (xo_some (i := 12) x_con (by decide)) (xo_some (i := 63) x_con (by decide)))) ?_ ?_ ?_
  · refine ⟨rfl, enum_int 0 _, sliL ns none (some 12), .un, .un, fun h => ?_, rfl⟩
    have h := enum_nil _ _ h
    have h1 : sliL ns (some 12) (some 63) ≠ [] := fun e => h (by rw [e]; rfl)
    have h2 : 12 < ns.length := by
      refine Nat.lt_of_not_le fun q => h1 ?_
      unfold sliL sliN
      simp
      omega
    unfold sliL sliN
    simp
    omega
  · rintro d r ρ' m' ⟨rfl, hd, cells, x2, x3, hl, rfl⟩
    have hl2 : cells.length = 12 := hl (List.cons_ne_nil _ _)
    obtain ⟨j, c, rfl⟩ := hd d (by simp)
    refine ⟨_, rfl, ?_⟩
    have hj : j % 12 < 12 := Nat.mod_lt _ (by decide)
    have hi : (0 : Int) ≤ (j : Int) % 12 ∧ (j : Int) % 12 < 12 := by omega
    obtain ⟨w, ew⟩ := ix_ints (cells := cells) (m := []) hi.1 (by rw [hl2]; exact hi.2)
    refine k_oset (x_add (x_idx (x_var rfl) (x_mod (x_var rfl) x_con (by decide)) ew) (x_var rfl)) rfl rfl (x_mod (x_var rfl) x_con (by decide)) (j := j % 12) ?_ ?_
    · unfold atN
      rw [if_pos hi.1, List.length_map, hl2, if_pos (show (j : Int) % 12 < ((12 : Nat) : Int) from hi.2)]
      exact congrArg some (show ((j : Int) % 12).toNat = j % 12 by omega)
    · rw [OkS_nil, Lp_nx]
      refine ⟨rfl, fun d h => hd d (by simp [h]), cells.set (j % 12) (w + c), .val (.int j), .val (.int c), fun _ => by rw [List.length_set]; exact hl2, ?_⟩
      rw [← List.map_set]
      rfl
  · rintro ρ' m' ⟨rfl, _, cells, x2, x3, _, rfl⟩
    refine k_frz rfl ?_
    refine k_ret (x_newl (x_cons (x_var rfl) (x_cons x_con (x_cons x_con x_nil))) rfl) ⟨_, rfl⟩ ?_
    exact ⟨⟨cells, 0, 0, rfl, by omega, by omega⟩, rfl⟩
def F_subset (tk : Nat) : Fn := ⟨[false, false], 3, (.cons (.ret (.join (.con (.str [])) (.comp [2] (.nm 2) (.val (.var 1)) (.some (.cmp .eq (.call tk (.cons (.var 0) (.cons (.con (.int 2)) .nil))) (.con (.int 0)))) (.var 2)))) .nil)⟩
def sg (s : Sg) : List D := s.map fun c => .str [c]
theorem sub_of_pr : ∀ {s : Sg} {os : List (Option D)}, Pr (fun d o => o = none ∨ o = some d) (sg s) os → ∃ u : Sg, u.Sublist s ∧ os.filterMap id = sg u
  | [], _, .nil => ⟨[], .slnil, rfl⟩
  | c :: s, _, .cons (b := o) h t => by
    obtain ⟨u, h1, h2⟩ := sub_of_pr (s := s) t
    rcases h with rfl | rfl
    · exact ⟨u, h1.cons _, by simpa using h2⟩
    · exact ⟨c :: u, h1.cons₂ _, by simp [h2, sg]⟩
theorem strs_sg : ∀ u : Sg, strs? (sg u) = some (u.map fun c => [c])
  | [] => rfl
  | c :: u => by
    show (strs? (sg u)).map ([c] :: ·) = _
    rw [strs_sg u]; rfl
theorem join_ones : ∀ u : Sg, joinS [] (u.map fun c => [c]) = u
  | [] => rfl
  | [c] => rfl
  | c :: d :: u => by
    show [c] ++ [] ++ joinS [] ((d :: u).map fun c => [c]) = _
    rw [join_ones (d :: u)]; rfl
theorem sum_ones : ∀ u : Sg, ((u.map fun c => [c]).map List.length).sum = u.length
  | [] => rfl
  | c :: u => by
    show 1 + ((u.map fun c => [c]).map List.length).sum = u.length + 1
    rw [sum_ones u]; omega
theorem call_of {C : Cx} {f : Nat} {rs : List R} {m : Mu} {P : R → Mu → Prop} {ρ : Env} {es : CEs} {m1 : Mu} (h : EVs C ρ m es rs m1) (k : Ok (C.call f rs m1) P) : Ok (evE C (.call f es) ρ m) P := by
  have : evE C (.call f es) ρ m = C.call f rs m1 := bnd_of h rfl
  rw [this]; exact k
theorem subset_ok {T : Tb} {f tk sp n : Nat} (hf : T.fns[f]? = some (F_subset tk)) (ht : T.fns[tk]? = some (F_take sp)) (hs : T.fns[sp]? = some F_spread) {b : Nat} {m : Mu} (s : Sg) (hb : b + s.length < lim) (hp : Pen b m) (hl : s.length ≤ 1000) :
    Ok (callF T (n + 3) f [⟨.v, .ref 0⟩, ⟨.v, .str s⟩] m) fun r m' => Pen (b + s.length) m' ∧ ∃ u, r = ⟨.v, .str u⟩ ∧ u.Sublist s := by
  refine Ok_call hf rfl ?_
  have q := Ok_comp (C := ⟨callF T (n + 2), T.gl, T.rp, T.wf⟩) (ρ := [.val (.ref 0), .val (.str s), .un]) (own := [2]) (tg := .nm 2) (it := .val (.var 1)) (cond := .some (.cmp .eq (.call tk (.cons (.var 0) (.cons (.con (.int 2)) .nil))) (.con (.int 0)))) (e := .var 2) (m := m) (m1 := m) (ds := sg s) (I := Pen) (Q := fun d o => o = none ∨ o = some d) (b := b) (k := 1)
    (xi_val (x_var rfl) rfl) hp fun d hd b' m' hb' i' => by
      have hlen : (sg s).length = s.length := by simp [sg]
      refine ⟨[.val (.ref 0), .val (.str s), .val d], rfl, ?_⟩
      obtain ⟨r, m2, e1, p2, i, rfl, hi⟩ := (take_ok (n := n) ht hs (by omega) i' 2 (by decide) (by decide)).eq
      have e2 : evC ⟨callF T (n + 2), T.gl, T.rp, T.wf⟩ (.some (.cmp .eq (.call tk (.cons (.var 0) (.cons (.con (.int 2)) .nil))) (.con (.int 0)))) [.val (.ref 0), .val (.str s), .val d] m' = .ok ((i : Int) == 0) m2 := xc_some (x_cmp (x_call (x_cons (x_var rfl) (x_cons x_con x_nil)) e1) x_con rfl) rfl
      rw [e2]
      refine ⟨fun _ => ?_, fun _ => ⟨p2, .inl rfl⟩⟩
      rw [show evE ⟨callF T (n + 2), T.gl, T.rp, T.wf⟩ (.var 2) [.val (.ref 0), .val (.str s), .val d] m2 = .ok ⟨.v, d⟩ m2 from x_var rfl]
      exact ⟨d, keep_v d, p2, .inr rfl⟩
  obtain ⟨r, m2, e, p, os, h1, rfl⟩ := q.eq
  obtain ⟨u, h2, h3⟩ := sub_of_pr h1
  rw [h3] at e
  have hlen : (sg s).length = s.length := by simp [sg]
  rw [hlen, Nat.mul_one] at p
  refine k_ret (x_join x_con e (strs_sg u) (by rw [sum_ones, List.length_map]; have := h2.length_le; show u.length + u.length * 0 ≤ 16777216; omega)) ⟨_, rfl⟩ ?_
  exact ⟨p, u, by rw [join_ones], h2⟩
end Dn

/-! DnL3 -/
set_option Elab.async false
set_option linter.all false
set_option maxRecDepth 100000
set_option maxHeartbeats 1000000
/-! DnL3: the laws' common defs: a schema is drawn. -/
namespace Dn
def F_schema (tk sb : Nat) : Fn := ⟨[false, false], 11, (.cons (.set 2 false (.idx (.lst (.cons (.con (.str [97, 98, 99, 100, 101])) (.cons (.con (.str [97, 99, 120, 121, 122])) (.cons (.con (.str [98, 100, 101, 113, 122])) (.cons (.con (.str [104, 105, 106, 107, 108])) (.cons (.con (.str [103, 110, 111, 112, 114])) (.cons (.con (.str [114, 115, 117, 118, 119])) (.cons (.con (.str [102, 109, 116, 119, 121])) .nil)))))))) (.call tk (.cons (.var 0) (.cons (.con (.int 7)) .nil))))) (.cons (.par [4, 5, 6] [false, false, false] (.cons (.slice (.var 2) .none (.some (.bin .add (.con (.int 1)) (.call tk (.cons (.var 0) (.cons (.var 1) .nil)))))) (.cons (.lst .nil) (.cons (.lst .nil) .nil)))) (.cons (.for_ (.nm 3) (.rng (.idx (.lst (.cons (.con (.int 0)) (.cons (.con (.int 0)) (.cons (.con (.int 1)) (.cons (.con (.int 2)) (.cons (.con (.int 3)) .nil)))))) (.call tk (.cons (.var 0) (.cons (.con (.int 5)) .nil))))) (.cons (.isS 4) (.cons (.set 7 false (.idx (.var 4) (.call tk (.cons (.var 0) (.cons (.b1 .len (.var 4)) .nil))))) (.cons (.set 8 false (.call sb (.cons (.var 0) (.cons (.mreplace (.var 4) (.var 7) (.con (.str []))) .nil)))) (.cons (.set 5 false (.bin .add (.var 5) (.bin .mul (.lst (.cons (.tup (.cons (.var 8) (.cons (.var 7) .nil))) .nil)) (.b1 .int (.cmp .notin (.tup (.cons (.var 8) (.cons (.var 7) .nil))) (.var 5)))))) .nil))))) (.cons (.ite (.cmp .eq (.call tk (.cons (.var 0) (.cons (.con (.int 6)) .nil))) (.con (.int 0))) (.cons (.set 5 false (.rev (.comp [10] (.nm 10) (.rng (.bin .sub (.b1 .len (.var 4)) (.con (.int 1)))) .none (.tup (.cons (.idx (.var 4) (.var 10)) (.cons (.idx (.var 4) (.bin .add (.var 10) (.con (.int 1)))) .nil)))))) (.cons (.set 5 false (.bin .add (.var 5) (.bin .mul (.lst (.cons (.tup (.cons (.con (.str [])) (.cons (.idx (.var 4) (.con (.int 0))) .nil))) .nil)) (.call tk (.cons (.var 0) (.cons (.con (.int 2)) .nil)))))) .nil)) .nil) (.cons (.for_ (.nm 3) (.rng (.idx (.lst (.cons (.con (.int 0)) (.cons (.con (.int 0)) (.cons (.con (.int 1)) (.cons (.con (.int 2)) .nil))))) (.call tk (.cons (.var 0) (.cons (.con (.int 4)) .nil))))) (.cons (.set 9 false (.or (.call sb (.cons (.var 0) (.cons (.var 4) .nil))) (.idx (.var 4) (.neg (.con (.int 1)))))) (.cons (.set 6 false (.bin .add (.var 6) (.bin .mul (.lst (.cons (.var 9) .nil)) (.b1 .int (.cmp .notin (.var 9) (.var 6)))))) .nil))) (.cons (.ret (.tup (.cons (.var 4) (.cons (.b1 .tuple (.var 5)) (.cons (.b1 .tuple (.var 6)) .nil))))) .nil))))))⟩
structure SchN (R : Nat) (cols : Sg) (rules : List (Sg × Nat)) (keys : List Sg) : Prop where
  ne : cols ≠ []
  len : cols.length ≤ 5
  nd : cols.Nodup
  ch : ∀ c ∈ cols, 97 ≤ c ∧ c ≤ 122
  as : cols.Pairwise (· < ·)
  rl : ∀ p ∈ rules, p.1.Sublist cols ∧ p.2 ∈ cols
  ky : ∀ k ∈ keys, k ≠ [] ∧ k.Sublist cols
  rlen : rules.length ≤ R
  klen : keys.length ≤ 2
  rx : ∀ p ∈ rules, p.2 ∉ p.1
  rd : rules.Nodup
  kd : keys.Nodup
abbrev SchOk (cols : Sg) (rules : List (Sg × Nat)) (keys : List Sg) : Prop := SchN 8 cols rules keys
theorem SchN.up {cols : Sg} {rules : List (Sg × Nat)} {keys : List Sg} (h : SchN 7 cols rules keys) : SchOk cols rules keys := { h with rlen := Nat.le_trans h.rlen (by decide) }
def ruleD (p : Sg × Nat) : D := .tup [.str p.1, .str [p.2]]
def schD (cols : Sg) (rules : List (Sg × Nat)) (keys : List Sg) : D := .tup [.str cols, .tup (rules.map ruleD), .tup (keys.map .str)]
theorem replS_sub (s : Sg) (c : Nat) : (replS s c []).Sublist s := by
  unfold replS
  induction s with
  | nil => exact .slnil
  | cons a r ih =>
    rw [List.flatMap_cons]
    split
    · exact ih.cons _
    · exact ih.cons₂ _
theorem replS_not (s : Sg) (c : Nat) : c ∉ replS s c [] := by
  unfold replS
  intro h
  obtain ⟨a, _, h2⟩ := List.mem_flatMap.mp h
  split at h2
  · cases h2
  · rename_i hn
    have : c = a := by simpa using h2
    subst this
    simp at hn
theorem mem_rule (p : Sg × Nat) : ∀ rules : List (Sg × Nat), memD (ruleD p) (rules.map ruleD) = decide (p ∈ rules)
  | [] => rfl
  | q :: r => by
    show (eqD (ruleD p) (ruleD q) || memD (ruleD p) (r.map ruleD)) = _
    rw [mem_rule p r]
    have e : eqD (ruleD p) (ruleD q) = decide (p = q) := by
      obtain ⟨a, b⟩ := p
      obtain ⟨c, d⟩ := q
      show ((a == c) && (([b] == [d]) && true)) = _
      rw [Bool.eq_iff_iff]
      simp
    rw [e]
    rw [Bool.eq_iff_iff]
    simp
theorem mem_key (p : Sg) : ∀ keys : List Sg, memD (.str p) (keys.map .str) = decide (p ∈ keys)
  | [] => rfl
  | q :: r => by
    show ((p == q) || memD (.str p) (r.map .str)) = _
    rw [mem_key p r, Bool.eq_iff_iff]
    simp
theorem nd_add {α : Type} {l : List α} {x : α} (h : l.Nodup) (k : Bool) (hk : k = true → x ∉ l) : (l ++ if k then [x] else []).Nodup := by
  cases k with
  | false => simpa using h
  | true =>
    have := hk rfl
    rw [if_pos rfl, List.nodup_append]
    exact ⟨h, by simp, fun a ha b hb e => by rw [List.mem_singleton.mp hb] at e; subst e; exact this ha⟩
theorem sli_take (s : Sg) (i : Nat) : sliL s none (some (1 + (i : Int))) = s.take (1 + i) := by
  have h : ¬ (1 + (i : Int) < 0) := by omega
  show ((s.drop 0).take ((if 1 + (i : Int) < 0 then (1 + (i : Int) + s.length).toNat else min (1 + (i : Int)).toNat s.length) - 0)) = _
  rw [if_neg h, List.drop_zero, Nat.sub_zero, show (1 + (i : Int)).toNat = 1 + i by omega]
  by_cases hl : 1 + i ≤ s.length
  · rw [Nat.min_eq_left hl]
  · rw [Nat.min_eq_right (by omega), List.take_length, List.take_of_length_le (by omega)]
theorem str_eqOk : ∀ ks : List Sg, (ks.map D.str).all D.eqOk = true
  | [] => rfl
  | k :: ks => by
    show ((D.str k).eqOk && (ks.map D.str).all D.eqOk) = true
    rw [str_eqOk ks]; rfl
theorem rule_eqOk : ∀ ks : List (Sg × Nat), (ks.map ruleD).all D.eqOk = true
  | [] => rfl
  | k :: ks => by
    show ((ruleD k).eqOk && (ks.map ruleD).all D.eqOk) = true
    rw [rule_eqOk ks]; rfl
theorem rep_bit {α : Type} (k : Bool) (x : α) : rep (b2i k).toNat [x] = if k then [x] else [] := by cases k <;> rfl
theorem rep_nat {α : Type} (i : Nat) (x : α) : rep i [x] = List.replicate i x := by
  unfold rep
  induction i with
  | zero => rfl
  | succ i ih => rw [List.replicate_succ, List.flatten_cons, ih, List.replicate_succ]; rfl
theorem notin_l {a : D} {ds : List D} (h1 : a.eqOk = true) (h2 : ds.all D.eqOk = true) : cmpD .notin a (.lst ds) = some (!memD a ds) := by
  show (if a.eqOk && ds.all D.eqOk then some (memD a ds) else none).map (!·) = _
  rw [h1, h2]; rfl
theorem ix_str_at {s : Sg} {i : Int} {m : Mu} (h0 : 0 ≤ i) (h1 : i < s.length) : ∃ c ∈ s, ixS m (.str s) (.int i) = some (.str [c]) := by
  have hi : i.toNat < s.length := by omega
  refine ⟨s[i.toNat], List.getElem_mem hi, ?_⟩
  show (atN s.length i).bind (fun j => (s[j]?).map fun c => D.str [c]) = _
  unfold atN
  rw [if_pos h0, if_pos h1]
  show (s[i.toNat]?).map _ = _
  rw [List.getElem?_eq_getElem hi]; rfl
theorem ix_str_end {s : Sg} {m : Mu} (h : s ≠ []) : ∃ c ∈ s, ixS m (.str s) (.int (-1)) = some (.str [c]) := by
  have hl : 0 < s.length := List.length_pos_iff.mpr h
  have hi : ((-1 : Int) + (s.length : Nat)).toNat < s.length := by omega
  refine ⟨s[((-1 : Int) + (s.length : Nat)).toNat], List.getElem_mem hi, ?_⟩
  show (atN s.length (-1)).bind (fun j => (s[j]?).map fun c => D.str [c]) = _
  unfold atN
  rw [if_neg (by decide), if_pos (by omega)]
  show (s[((-1 : Int) + (s.length : Nat)).toNat]?).map _ = _
  rw [List.getElem?_eq_getElem hi]; rfl
theorem single_sub {c : Nat} {s : Sg} (h : c ∈ s) : [c].Sublist s := List.singleton_sublist.mpr h
/-- one more rule -/
theorem SchN.rule {cols : Sg} {rules : List (Sg × Nat)} {keys : List Sg} {u : Sg} {c : Nat} (h : SchN 7 cols rules keys) (h1 : u.Sublist cols) (h2 : c ∈ cols) (h3 : rules.length < 7) (hx : c ∉ u) (k : Bool) (hk : k = true → (u, c) ∉ rules) : SchN 7 cols (rules ++ if k then [(u, c)] else []) keys := by
  refine { h with rl := fun p hp => ?_, rlen := ?_, rx := fun p hp => ?_, rd := nd_add h.rd k hk }
  · rcases List.mem_append.mp hp with hp | hp
    · exact h.rl p hp
    · cases k with
      | false => cases hp
      | true =>
        have : p = (u, c) := by simpa using hp
        subst this
        exact ⟨h1, h2⟩
  · rw [List.length_append]
    cases k <;> simp <;> omega
  · rcases List.mem_append.mp hp with hp | hp
    · exact h.rx p hp
    · cases k with
      | false => cases hp
      | true =>
        have : p = (u, c) := by simpa using hp
        subst this
        exact hx
theorem SchN.key {cols : Sg} {rules : List (Sg × Nat)} {keys : List Sg} {u : Sg} (h : SchN 7 cols rules keys) (h0 : u ≠ []) (h1 : u.Sublist cols) (h3 : keys.length < 2) (k : Bool) (hk : k = true → u ∉ keys) : SchN 7 cols rules (keys ++ if k then [u] else []) := by
  refine { h with ky := fun p hp => ?_, klen := ?_, kd := nd_add h.kd k hk }
  · rcases List.mem_append.mp hp with hp | hp
    · exact h.ky p hp
    · cases k with
      | false => cases hp
      | true =>
        have : p = u := by simpa using hp
        subst this
        exact ⟨h0, h1⟩
  · rw [List.length_append]
    cases k <;> simp <;> omega
theorem letters_ok : ∀ d ∈ ([.str [97, 98, 99, 100, 101], .str [97, 99, 120, 121, 122], .str [98, 100, 101, 113, 122], .str [104, 105, 106, 107, 108], .str [103, 110, 111, 112, 114], .str [114, 115, 117, 118, 119], .str [102, 109, 116, 119, 121]] : List D),
    ∃ s : Sg, d = .str s ∧ s.length = 5 ∧ s.Pairwise (· < ·) ∧ ∀ c ∈ s, 97 ≤ c ∧ c ≤ 122 := by
  intro d hd
  simp only [List.mem_cons, List.not_mem_nil, or_false] at hd
  rcases hd with rfl | rfl | rfl | rfl | rfl | rfl | rfl <;> exact ⟨_, rfl, rfl, by decide, by decide⟩
theorem few_ok {k : Int} (ds : List D) (h : ∀ d ∈ ds, ∃ i : Nat, d = .int i ∧ (i : Int) ≤ k) {i : Nat} {m : Mu} (hi : (i : Int) < (ds.length : Nat)) : ∃ j : Nat, ixS m (.lst ds) (.int i) = some (.int j) ∧ (j : Int) ≤ k := by
  obtain ⟨d, e, j, rfl, hj⟩ := ix_all (ds := ds) (m := m) (Int.natCast_nonneg i) hi h
  exact ⟨j, e, hj⟩
theorem all_ok (ds : List Nat) (k : Int) (h : ds.all (fun i => decide ((i : Int) ≤ k)) = true) : ∀ d ∈ ds.map (fun (i : Nat) => D.int i), ∃ i : Nat, d = .int i ∧ (i : Int) ≤ k := fun d hd => by
  obtain ⟨i, hi, rfl⟩ := List.mem_map.mp hd
  exact ⟨i, rfl, of_decide_eq_true (List.all_eq_true.mp h i hi)⟩
section
variable {T : Tb} {f tk sb sp n : Nat}
theorem schema_rules (ht : T.fns[tk]? = some (F_take sp)) (hb : T.fns[sb]? = some (F_subset tk)) (hs : T.fns[sp]? = some F_spread) {b1 : Nat} (hl : b1 < lim) {cols : Sg} {most : Int} {letters : Sg} {P : Fl → Mu → Prop} {ss : CSs}
    {d : D} {r : List D} {ρ' : Env} {m' : Mu}
    (J : List D → Env → Mu → Prop) (hJ : J = fun r ρ m => ∃ b rules x3 x7 x8 x9 x10, ρ = [.val (.ref 0), .val (.int most), .val (.str letters), x3, .val (.str cols), .val (.lst (rules.map ruleD)), .val (.lst []), x7, x8, x9, x10] ∧ Pen b m ∧ b + 10 * r.length ≤ b1 ∧ rules.length + r.length ≤ 3 ∧ SchN 7 cols rules [])
    (j : J (d :: r) ρ' m') : ∃ ρ1, bindT (.nm 3) d ρ' = some ρ1 ∧ OkS (exSs ⟨callF T (n + 3), T.gl, T.rp, T.wf⟩ (.cons (.isS 4) (.cons (.set 7 false (.idx (.var 4) (.call tk (.cons (.var 0) (.cons (.b1 .len (.var 4)) .nil))))) (.cons (.set 8 false (.call sb (.cons (.var 0) (.cons (.mreplace (.var 4) (.var 7) (.con (.str []))) .nil)))) (.cons (.set 5 false (.bin .add (.var 5) (.bin .mul (.lst (.cons (.tup (.cons (.var 8) (.cons (.var 7) .nil))) .nil)) (.b1 .int (.cmp .notin (.tup (.cons (.var 8) (.cons (.var 7) .nil))) (.var 5)))))) .nil)))) ρ1 m') (Lp P (exSs ⟨callF T (n + 3), T.gl, T.rp, T.wf⟩ ss) (J r)) := by
  subst hJ
  obtain ⟨b, rules, x3, x7, x8, x9, x10, rfl, hp, hb1, hr, so⟩ := j
  rw [List.length_cons] at hb1 hr
  have hl' : b1 < 1000000000 := hl
  refine ⟨_, rfl, ?_⟩
  refine k_isS rfl ?_
  have hc : 0 < cols.length := List.length_pos_iff.mpr so.ne
  have hc5 := so.len
  obtain ⟨_, m1, e1, p1, i, rfl, hi⟩ := (take_ok (n := n + 1) ht hs (show b < lim by show b < 1000000000; omega) hp (cols.length : Nat) (by omega) (Int.lt_of_lt_of_le (show ((cols.length : Nat) : Int) < 6 by omega) (by decide))).eq
  obtain ⟨c, hcm, ec⟩ := ix_str_at (s := cols) (i := i) (m := m1) (by omega) hi
  refine k_set (x_idx (x_var rfl) (x_call (x_cons (x_var rfl) (x_cons (x_b1 (x_var rfl) rfl) x_nil)) e1) ec) rfl ?_
  have hrs := replS_sub cols c
  have hrl := hrs.length_le
  obtain ⟨_, m2, e2, p2, u, rfl, hu⟩ := (subset_ok (n := n) hb ht hs (b := b + 1) (m := m1) (replS cols c []) (show _ < 1000000000 by omega) p1 (by omega)).eq
  refine k_set (x_call (x_cons (x_var rfl) (x_cons (x_repl (x_var rfl) (x_var rfl) x_con (by show cols.length + (cols.length + 1) * 0 ≤ 16777216; omega)) x_nil)) e2) rfl ?_
  have eq1 : (ruleD (u, c)).eqOk = true := rfl
  refine k_set (x_addl (x_var rfl) (x_mull (x_lst (x_cons (x_tup (x_cons (x_var rfl) (x_cons (x_var rfl) x_nil)) rfl) x_nil) rfl) (x_b1 (r := ⟨.v, .int (b2i (!memD (ruleD (u, c)) (rules.map ruleD)))⟩) (x_cmp (x_tup (x_cons (x_var rfl) (x_cons (x_var rfl) x_nil)) rfl) (x_var rfl) (notin_l eq1 (rule_eqOk rules))) rfl) ⟨(by show 1 ≤ 1000; decide), ?_, ?_⟩) ?_) rfl ?_
  · cases memD (ruleD (u, c)) (rules.map ruleD) <;> decide
  · cases memD (ruleD (u, c)) (rules.map ruleD) <;> decide
  · rw [rep_bit, List.length_map]
    have : rules.length ≤ 3 := by omega
    cases (!memD (ruleD (u, c)) (rules.map ruleD)) <;> show _ ≤ 16777216 <;> simp <;> omega
  · rw [OkS_nil, Lp_nx]
    refine ⟨b + 1 + (replS cols c []).length, rules ++ (if (!memD (ruleD (u, c)) (rules.map ruleD)) then [(u, c)] else []), .val d, .val (.str [c]), .val (.str u), x9, x10, ?_, p2, by omega, ?_, so.rule (hu.trans hrs) hcm (by omega) (fun h => replS_not cols c (hu.subset h)) _ (fun h => by rw [mem_rule] at h; simpa using h)⟩
    · rw [rep_bit]
      cases memD (ruleD (u, c)) (rules.map ruleD) <;> simp <;> rfl
    · rw [List.length_append]
      cases memD (ruleD (u, c)) (rules.map ruleD) <;> simp <;> omega
end
end Dn

/-! DnL4 -/
set_option Elab.async false
set_option linter.all false
set_option maxRecDepth 100000
set_option maxHeartbeats 1000000
/-! DnL4: a schema is drawn, the end. -/
namespace Dn
theorem ix_str_get {s : Sg} {i : Nat} {m : Mu} (h : i < s.length) : ixS m (.str s) (.int (i : Nat)) = some (.str [s.getD i 0]) := by
  show (atN s.length (i : Nat)).bind (fun j => (s[j]?).map fun c => D.str [c]) = _
  unfold atN
  rw [if_pos (Int.natCast_nonneg i), if_pos (by omega)]
  show (s[(i : Int).toNat]?).map _ = _
  rw [Int.toNat_natCast, List.getElem?_eq_getElem h, List.getD_eq_getElem?_getD, List.getElem?_eq_getElem h]; rfl
theorem getD_mem {s : Sg} {i : Nat} (h : i < s.length) : s.getD i 0 ∈ s := by
  rw [List.getD_eq_getElem?_getD, List.getElem?_eq_getElem h]
  exact List.getElem_mem h
def chain (cols : Sg) : List (Sg × Nat) := ((List.range (cols.length - 1)).map fun k => ([cols.getD k 0], cols.getD (k + 1) 0)).reverse
theorem SchN.chain {cols : Sg} {rules : List (Sg × Nat)} (h : SchN 7 cols rules []) (i : Nat) (hi : i < 2) : SchN 7 cols (Dn.chain cols ++ List.replicate i ([], cols.getD 0 0)) [] := by
  have hc : 0 < cols.length := List.length_pos_iff.mpr h.ne
  have h5 := h.len
  have gd : ∀ k, k < cols.length → ∃ h : k < cols.length, cols.getD k 0 = cols[k] := fun k hk => ⟨hk, by simp [List.getD_eq_getElem?_getD, hk]⟩
  have inj : ∀ a b, a < cols.length → b < cols.length → cols.getD a 0 = cols.getD b 0 → a = b := fun a b ha hb e => by
    obtain ⟨h1, e1⟩ := gd a ha
    obtain ⟨h2, e2⟩ := gd b hb
    rw [e1, e2] at e
    have lt := List.pairwise_iff_getElem.mp h.as
    rcases Nat.lt_trichotomy a b with q | q | q
    · have := lt a b h1 h2 q; omega
    · exact q
    · have := lt b a h2 h1 q; omega
  have cnd : (Dn.chain cols).Nodup := by
    unfold Dn.chain
    refine (List.reverse_perm _).nodup_iff.mpr ?_
    refine List.Pairwise.map _ (fun a b (hab : a < b ∧ b < cols.length - 1) e => ?_) (R := fun a b => a < b ∧ b < cols.length - 1) ?_
    · have e1 : cols.getD a 0 = cols.getD b 0 := by simpa using congrArg Prod.fst e
      have := inj a b (by omega) (by omega) e1
      omega
    · exact (List.pairwise_lt_range (n := cols.length - 1)).imp_of_mem (fun {a b} ha hb hab => ⟨hab, List.mem_range.mp hb⟩)
  refine { h with rl := fun p hp => ?_, rlen := ?_, rx := fun p hp => ?_, rd := ?_ }
  · rcases List.mem_append.mp hp with hp | hp
    · obtain ⟨k, hk, rfl⟩ := List.mem_map.mp (List.mem_reverse.mp hp)
      have hk := List.mem_range.mp hk
      exact ⟨single_sub (getD_mem (by omega)), getD_mem (by omega)⟩
    · obtain ⟨_, rfl⟩ := List.mem_replicate.mp hp
      exact ⟨List.nil_sublist _, getD_mem (by omega)⟩
  · unfold Dn.chain
    simp
    omega
  · rcases List.mem_append.mp hp with hp | hp
    · obtain ⟨k, hk, rfl⟩ := List.mem_map.mp (List.mem_reverse.mp hp)
      have hk := List.mem_range.mp hk
      intro hm
      have := inj (k + 1) k (by omega) (by omega) (by simpa using hm)
      omega
    · obtain ⟨_, rfl⟩ := List.mem_replicate.mp hp
      intro hm; cases hm
  · rw [List.nodup_append]
    refine ⟨cnd, ?_, fun a ha b hb e => ?_⟩
    · have : i = 0 ∨ i = 1 := by omega
      rcases this with rfl | rfl <;> simp
    · subst e
      obtain ⟨_, rfl⟩ := List.mem_replicate.mp hb
      obtain ⟨k, _, e⟩ := List.mem_map.mp (List.mem_reverse.mp ha)
      have := congrArg (fun p : Sg × Nat => p.1.length) e
      simp at this
section
variable {T : Tb} {f tk sb sp n : Nat}
theorem schema_keys (ht : T.fns[tk]? = some (F_take sp)) (hb : T.fns[sb]? = some (F_subset tk)) (hs : T.fns[sp]? = some F_spread) {b1 : Nat} (hl : b1 < lim) {cols : Sg} {most : Int} {letters : Sg} {P : Fl → Mu → Prop} {ss : CSs} {rules : List (Sg × Nat)}
    {d : D} {r : List D} {ρ' : Env} {m' : Mu}
    (J : List D → Env → Mu → Prop) (hJ : J = fun r ρ m => ∃ b keys x3 x7 x8 x9 x10, ρ = [.val (.ref 0), .val (.int most), .val (.str letters), x3, .val (.str cols), .val (.lst (rules.map ruleD)), .val (.lst (keys.map .str)), x7, x8, x9, x10] ∧ Pen b m ∧ b + 10 * r.length ≤ b1 ∧ keys.length + r.length ≤ 2 ∧ SchN 7 cols rules keys)
    (j : J (d :: r) ρ' m') : ∃ ρ1, bindT (.nm 3) d ρ' = some ρ1 ∧ OkS (exSs ⟨callF T (n + 3), T.gl, T.rp, T.wf⟩ (.cons (.set 9 false (.or (.call sb (.cons (.var 0) (.cons (.var 4) .nil))) (.idx (.var 4) (.neg (.con (.int 1)))))) (.cons (.set 6 false (.bin .add (.var 6) (.bin .mul (.lst (.cons (.var 9) .nil)) (.b1 .int (.cmp .notin (.var 9) (.var 6)))))) .nil)) ρ1 m') (Lp P (exSs ⟨callF T (n + 3), T.gl, T.rp, T.wf⟩ ss) (J r)) := by
  subst hJ
  obtain ⟨b, keys, x3, x7, x8, x9, x10, rfl, hp, hb1, hr, so⟩ := j
  rw [List.length_cons] at hb1 hr
  have hl' : b1 < 1000000000 := hl
  refine ⟨_, rfl, ?_⟩
  have hc5 := so.len
  obtain ⟨_, m2, e2, p2, u, rfl, hu⟩ := (subset_ok (n := n) hb ht hs (b := b) (m := m') cols (show _ < 1000000000 by omega) hp (by omega)).eq
  have one : ∃ v : Sg, v ≠ [] ∧ v.Sublist cols ∧ EV ⟨callF T (n + 3), T.gl, T.rp, T.wf⟩ [.val (.ref 0), .val (.int most), .val (.str letters), .val d, .val (.str cols), .val (.lst (rules.map ruleD)), .val (.lst (keys.map .str)), x7, x8, x9, x10] m' (.or (.call sb (.cons (.var 0) (.cons (.var 4) .nil))) (.idx (.var 4) (.neg (.con (.int 1))))) ⟨.v, .str v⟩ m2 := by
    have q1 := x_call (C := ⟨callF T (n + 3), T.gl, T.rp, T.wf⟩) (ρ := [.val (.ref 0), .val (.int most), .val (.str letters), .val d, .val (.str cols), .val (.lst (rules.map ruleD)), .val (.lst (keys.map .str)), x7, x8, x9, x10]) (x_cons (e := .var 0) (x_var rfl) (x_cons (e := .var 4) (x_var rfl) x_nil)) e2
    by_cases h : u = []
    · subst h
      obtain ⟨c, hc, ec⟩ := ix_str_end (m := m2) so.ne
      exact ⟨[c], by simp, single_sub hc, x_or q1 (k := false) rfl (fun _ => x_idx (x_var rfl) (x_neg x_con) ec) (fun e => by cases e)⟩
    · refine ⟨u, h, hu, x_or q1 (k := true) ?_ (fun e => by cases e) fun _ => ⟨rfl, rfl⟩⟩
      show some (u != []) = some true
      simp [h]
  obtain ⟨v, v0, v1, ev⟩ := one
  refine k_set ev rfl ?_
  refine k_set (x_addl (x_var rfl) (x_mull (x_lst (x_cons (x_var rfl) x_nil) rfl) (x_b1 (r := ⟨.v, .int (b2i (!memD (.str v) (keys.map .str)))⟩) (x_cmp (x_var rfl) (x_var rfl) (notin_l rfl (str_eqOk keys))) rfl) ⟨(by show 1 ≤ 1000; decide), ?_, ?_⟩) ?_) rfl ?_
  · cases memD (.str v) (keys.map .str) <;> decide
  · cases memD (.str v) (keys.map .str) <;> decide
  · rw [rep_bit, List.length_map]
    have : keys.length ≤ 3 := by omega
    cases (!memD (.str v) (keys.map .str)) <;> show _ ≤ 16777216 <;> simp <;> omega
  · rw [OkS_nil, Lp_nx]
    refine ⟨b + cols.length, keys ++ (if (!memD (.str v) (keys.map .str)) then [v] else []), .val d, x7, x8, .val (.str v), x10, ?_, p2, by omega, ?_, so.key v0 v1 (by omega) _ (fun h => by rw [mem_key] at h; simpa using h)⟩
    · rw [rep_bit]
      cases memD (.str v) (keys.map .str) <;> simp <;> rfl
    · rw [List.length_append]
      cases memD (.str v) (keys.map .str) <;> simp <;> omega
theorem schema_ok7 (hf : T.fns[f]? = some (F_schema tk sb)) (ht : T.fns[tk]? = some (F_take sp)) (hb : T.fns[sb]? = some (F_subset tk)) (hs : T.fns[sp]? = some F_spread) {b : Nat} {m : Mu} (hl : b + 70 < lim) (hp : Pen b m) (most : Int) (h0 : 0 < most) (h1 : most < 1000) :
    Ok (callF T (n + 4) f [⟨.v, .ref 0⟩, ⟨.v, .int most⟩] m) fun r m' => Pen (b + 70) m' ∧ ∃ cols rules keys, r = ⟨.v, schD cols rules keys⟩ ∧ SchN 7 cols rules keys := by
  have hl' : b + 70 < 1000000000 := hl
  refine Ok_call hf rfl ?_
  -- the letters
  obtain ⟨_, m1, e1, p1, i, rfl, hi⟩ := (take_ok (n := n + 1) ht hs (show b < lim by show b < 1000000000; omega) hp 7 (by decide) (by decide)).eq
  obtain ⟨_, e2, s, rfl, s1, s2, s3⟩ := ix_all (m := m1) (i := (i : Int)) (by omega) (by exact hi) letters_ok
  refine k_set (x_idx (x_lst rfl rfl) (x_call (x_cons (x_var rfl) (x_cons x_con x_nil)) e1) e2) rfl ?_
  obtain ⟨_, m2, e3, p2, w, rfl, hw⟩ := (take_ok (n := n + 1) ht hs (show b + 1 < lim by show _ < 1000000000; omega) p1 most h0 (Int.lt_trans h1 (by decide))).eq
  refine k_par (xp_cons (x_sls (x_var rfl) xo_none (xo_some (i := 1 + (w : Int)) (x_add x_con (x_call (x_cons (x_var rfl) (x_cons (x_var rfl) x_nil)) e3)) ⟨by omega, by omega⟩)) rfl (xp_cons (x_lst x_nil rfl) rfl (xp_cons (x_lst x_nil rfl) rfl xp_nil))) rfl ?_
  rw [sli_take]
  have so : SchN 7 (s.take (1 + w)) [] [] := {
    ne := fun e => by
      have := congrArg List.length e
      rw [List.length_take, s1] at this
      simp at this
    len := by rw [List.length_take, s1]; omega
    nd := (s2.imp Nat.ne_of_lt).sublist (List.take_sublist _ _)
    as := s2.sublist (List.take_sublist _ _)
    ch := fun c hc => s3 c (List.mem_of_mem_take hc)
    rl := fun p hp => by cases hp
    ky := fun p hp => by cases hp
    rlen := by simp
    klen := by simp
    rx := fun p hp => by cases hp
    rd := List.nodup_nil
    kd := List.nodup_nil }
  generalize s.take (1 + w) = cols at so ⊢
  obtain ⟨_, m3, e4, p3, j, rfl, hj⟩ := (take_ok (n := n + 1) ht hs (show b + 1 + 1 < lim by show _ < 1000000000; omega) p2 5 (by decide) (by decide)).eq
  obtain ⟨q, e5, hq⟩ := few_ok (m := m3) (k := 3) [.int 0, .int 0, .int 1, .int 2, .int 3] (all_ok [0, 0, 1, 2, 3] 3 (by decide)) (i := j) hj
  refine k_for (J := fun r ρ m => ∃ b' rules x3 x7 x8 x9 x10, ρ = [.val (.ref 0), .val (.int most), .val (.str s), x3, .val (.str cols), .val (.lst (rules.map ruleD)), .val (.lst []), x7, x8, x9, x10] ∧ Pen b' m ∧ b' + 10 * r.length ≤ b + 33 ∧ rules.length + r.length ≤ 3 ∧ SchN 7 cols rules [])
    (xi_rng (x_idx (x_lst rfl rfl) (x_call (x_cons (x_var rfl) (x_cons x_con x_nil)) e4) e5) ⟨by omega, by omega⟩) ?_ (fun d r ρ' m' j => schema_rules ht hb hs (show b + 33 < lim by show _ < 1000000000; omega) _ rfl j) ?_
  · refine ⟨b + 3, [], .un, .un, .un, .un, .un, rfl, p3, ?_, ?_, so⟩
    · simp; omega
    · simp; omega
  · rintro ρ' m' ⟨b', rules, x3, x7, x8, x9, x10, rfl, p4, hb', hr, so⟩
    rw [List.length_nil] at hb' hr
    have keys : ∀ (rules : List (Sg × Nat)) (m : Mu) (b2 : Nat) (x10 : Sl), b2 ≤ b + 36 → Pen b2 m → SchN 7 cols rules [] → OkS (exSs ⟨callF T (n + 3), T.gl, T.rp, T.wf⟩ (.cons (.for_ (.nm 3) (.rng (.idx (.lst (.cons (.con (.int 0)) (.cons (.con (.int 0)) (.cons (.con (.int 1)) (.cons (.con (.int 2)) .nil))))) (.call tk (.cons (.var 0) (.cons (.con (.int 4)) .nil))))) (.cons (.set 9 false (.or (.call sb (.cons (.var 0) (.cons (.var 4) .nil))) (.idx (.var 4) (.neg (.con (.int 1)))))) (.cons (.set 6 false (.bin .add (.var 6) (.bin .mul (.lst (.cons (.var 9) .nil)) (.b1 .int (.cmp .notin (.var 9) (.var 6)))))) .nil))) (.cons (.ret (.tup (.cons (.var 4) (.cons (.b1 .tuple (.var 5)) (.cons (.b1 .tuple (.var 6)) .nil))))) .nil))
        [.val (.ref 0), .val (.int most), .val (.str s), x3, .val (.str cols), .val (.lst (rules.map ruleD)), .val (.lst []), x7, x8, x9, x10] m) (End fun r m' => Pen (b + 70) m' ∧ ∃ cols rules keys, r = ⟨.v, schD cols rules keys⟩ ∧ SchN 7 cols rules keys) := by
      intro rules m b2 x10 h2 hp2 so
      obtain ⟨_, m5, e6, p5, k, rfl, hk⟩ := (take_ok (n := n + 1) ht hs (show b2 < lim by show _ < 1000000000; omega) hp2 4 (by decide) (by decide)).eq
      obtain ⟨q, e7, hq⟩ := few_ok (m := m5) (k := 2) [.int 0, .int 0, .int 1, .int 2] (all_ok [0, 0, 1, 2] 2 (by decide)) (i := k) hk
      refine k_for (J := fun r ρ m => ∃ b' keys x3 x7 x8 x9 x10, ρ = [.val (.ref 0), .val (.int most), .val (.str s), x3, .val (.str cols), .val (.lst (rules.map ruleD)), .val (.lst (keys.map .str)), x7, x8, x9, x10] ∧ Pen b' m ∧ b' + 10 * r.length ≤ b + 70 ∧ keys.length + r.length ≤ 2 ∧ SchN 7 cols rules keys)
        (xi_rng (x_idx (x_lst rfl rfl) (x_call (x_cons (x_var rfl) (x_cons x_con x_nil)) e6) e7) ⟨by omega, by omega⟩) ?_ (fun d r ρ' m' j => schema_keys ht hb hs (show b + 70 < lim from hl) _ rfl j) ?_
      · refine ⟨b2 + 1, [], x3, x7, x8, x9, x10, rfl, p5, ?_, ?_, so⟩
        · simp; omega
        · simp; omega
      · rintro ρ' m' ⟨b', keys, x3, x7, x8, x9, x10, rfl, p6, hb', hr, so⟩
        exact k_ret (x_tup (x_cons (x_var rfl) (x_cons (x_b1 (x_var rfl) rfl) (x_cons (x_b1 (x_var rfl) rfl) x_nil))) rfl) ⟨_, rfl⟩ ⟨p6.le (by omega), cols, rules, keys, rfl, so⟩
    obtain ⟨_, m5, e6, p5, k, rfl, hk⟩ := (take_ok (n := n + 1) ht hs (show b' < lim by show _ < 1000000000; omega) p4 6 (by decide) (by decide)).eq
    refine k_ite (x_cmp (x_call (x_cons (x_var rfl) (x_cons x_con x_nil)) e6) x_con rfl) rfl (fun _ => ?_) (fun _ => ?_)
    · have hc : 0 < cols.length := List.length_pos_iff.mpr so.ne
      have hc5 := so.len
      refine k_set (x_rev (x_comp (p := fun _ => true) (g := fun d => match d with | .int k => ruleD ([cols.getD k.toNat 0], cols.getD (k.toNat + 1) 0) | _ => .non) (xi_rng (i := (cols.length : Nat) - 1) (x_sub (x_b1 (x_var rfl) rfl) x_con) ⟨by omega, by omega⟩) fun d hd => ?_)) rfl ?_
      · obtain ⟨a, ha, rfl⟩ := List.mem_map.mp hd
        have ha := List.mem_range.mp ha
        refine ⟨_, rfl, xc_none, fun _ => ⟨_, x_tup (x_cons (x_idx (x_var rfl) (x_var rfl) (ix_str_get (by omega))) (x_cons (x_idx (d := .str [cols.getD (a + 1) 0]) (x_var rfl) (x_add (x_var rfl) x_con) (by
          have := ix_str_get (s := cols) (i := a + 1) (m := m5) (by omega)
          exact this)) x_nil)) rfl, ?_⟩⟩
        simp [ruleD]
      · have e8 : (((((List.range ((cols.length : Nat) - 1 : Int).toNat).map fun (k : Nat) => D.int k).filter fun _ => true).map fun d => match d with | .int k => ruleD ([cols.getD k.toNat 0], cols.getD (k.toNat + 1) 0) | _ => .non).reverse) = (chain cols).map ruleD := by
          unfold chain
          rw [List.filter_eq_self.mpr (fun _ _ => rfl), List.map_map, List.map_reverse, List.map_map, show ((cols.length : Nat) - 1 : Int).toNat = cols.length - 1 by omega]
          rfl
        rw [e8]
        obtain ⟨_, m6, e9, p6, v, rfl, hv⟩ := (take_ok (n := n + 1) ht hs (show b' + 1 < lim by show _ < 1000000000; omega) p5 2 (by decide) (by decide)).eq
        refine k_set (x_addl (x_var rfl) (x_mull (x_lst (x_cons (x_tup (x_cons x_con (x_cons (x_idx (x_var rfl) x_con (ix_str_get (i := 0) hc)) x_nil)) rfl) x_nil) rfl) (x_call (x_cons (x_var rfl) (x_cons x_con x_nil)) e9) ⟨(by show 1 ≤ 1000; decide), by omega, by omega⟩) ?_) rfl ?_
        · rw [Int.toNat_natCast, rep_nat, List.length_replicate, List.length_map]
          unfold chain
          simp
          show _ ≤ 16777216
          omega
        · rw [OkS_nil, Nx_nx]
          have e10 : (chain cols).map ruleD ++ rep (v : Int).toNat [D.tup [.str [], .str [cols.getD 0 0]]] = (chain cols ++ List.replicate v ([], cols.getD 0 0)).map ruleD := by
            rw [Int.toNat_natCast, rep_nat, List.map_append, List.map_replicate]
            rfl
          have := keys (chain cols ++ List.replicate v ([], cols.getD 0 0)) m6 (b' + 1 + 1) x10 (by omega) p6 (so.chain v (by omega))
          rw [← e10] at this
          exact this
    · rw [OkS_nil, Nx_nx]
      exact keys rules m5 (b' + 1) x10 (by omega) p5 so
theorem schema_ok (hf : T.fns[f]? = some (F_schema tk sb)) (ht : T.fns[tk]? = some (F_take sp)) (hb : T.fns[sb]? = some (F_subset tk)) (hs : T.fns[sp]? = some F_spread) {b : Nat} {m : Mu} (hl : b + 70 < lim) (hp : Pen b m) (most : Int) (h0 : 0 < most) (h1 : most < 1000) :
    Ok (callF T (n + 4) f [⟨.v, .ref 0⟩, ⟨.v, .int most⟩] m) fun r m' => Pen (b + 70) m' ∧ ∃ cols rules keys, r = ⟨.v, schD cols rules keys⟩ ∧ SchOk cols rules keys :=
  (schema_ok7 hf ht hb hs hl hp most h0 h1).mono fun _ _ ⟨p, cols, rules, keys, e, so⟩ => ⟨p, cols, rules, keys, e, so.up⟩
end
end Dn

/-! DnL5 -/
set_option Elab.async false
set_option linter.all false
set_option maxRecDepth 100000
set_option maxHeartbeats 1000000
/-! DnL5: cells of a row, two rows fit. -/
namespace Dn
theorem pure_ints : ∀ a : List Int, pureAll (a.map .int) = true ∧ depthAll (a.map .int) = 0
  | [] => ⟨rfl, rfl⟩
  | x :: a => by
    obtain ⟨h1, h2⟩ := pure_ints a
    refine ⟨?_, ?_⟩
    · show (true && pureAll (a.map .int)) = true
      rw [h1]; rfl
    · show Nat.max 0 (depthAll (a.map .int)) = 0
      rw [h2]; rfl
theorem ints_eqOk (a : List Int) : (D.lst (a.map .int)).eqOk = true := by
  obtain ⟨h1, h2⟩ := pure_ints a
  show (pureAll (a.map .int) && decide (depthAll (a.map .int) + 1 ≤ 60)) = true
  rw [h1, h2]; rfl
theorem eqDs_ints : ∀ a b : List Int, eqDs (a.map .int) (b.map .int) = (a == b)
  | [], [] => rfl
  | [], _ :: _ => rfl
  | _ :: _, [] => rfl
  | x :: a, y :: b => by
    show ((x == y) && eqDs (a.map .int) (b.map .int)) = _
    rw [eqDs_ints a b]; rfl
theorem eq_ints (a b : List Int) : cmpD .eq (.lst (a.map .int)) (.lst (b.map .int)) = some (a == b) := by
  show (if (D.lst (a.map .int)).eqOk && (D.lst (b.map .int)).eqOk then some (eqDs (a.map .int) (b.map .int)) else eq0 _ _) = _
  rw [ints_eqOk, ints_eqOk, eqDs_ints]; rfl
theorem ne_ints (a b : List Int) : cmpD .ne (.lst (a.map .int)) (.lst (b.map .int)) = some (!(a == b)) := by
  show (if (D.lst (a.map .int)).eqOk && (D.lst (b.map .int)).eqOk then some (!eqDs (a.map .int) (b.map .int)) else none) = _
  rw [ints_eqOk, ints_eqOk, eqDs_ints]; rfl
def F_cells : Fn := ⟨[false, false, false], 4, (.cons (.ret (.comp [3] (.nm 3) (.val (.var 2)) .none (.idx (.var 1) (.mindex (.idx (.var 0) (.con (.int 0))) (.var 3))))) .nil)⟩
def cellI (cols : Sg) (xs : List Int) (l : Sg) : List Int := l.map fun c => xs.getD (cols.idxOf c) 0
theorem cells_ok {T : Tb} {f n : Nat} (hf : T.fns[f]? = some F_cells) (cols : Sg) (r1 r2 : D) (xs : List Int) (l : Sg) (m : Mu) (h : ∀ c ∈ l, c ∈ cols) (hx : xs.length = cols.length) : callF T (n + 1) f [⟨.v, .tup [.str cols, r1, r2]⟩, ⟨.v, .tup (xs.map .int)⟩, ⟨.v, .str l⟩] m = .ok ⟨.f, .lst ((cellI cols xs l).map .int)⟩ m := by
  have q : Ok (callF T (n + 1) f [⟨.v, .tup [.str cols, r1, r2]⟩, ⟨.v, .tup (xs.map .int)⟩, ⟨.v, .str l⟩] m) fun r m' => m' = m ∧ r = ⟨.f, .lst ((cellI cols xs l).map .int)⟩ := by
    refine Ok_call hf rfl ?_
    refine k_ret (x_comp (p := fun _ => true) (g := fun d => match d with | .str [c] => .int (xs.getD (cols.idxOf c) 0) | _ => .non) (xi_val (x_var rfl) rfl) fun d hd => ?_) ⟨_, rfl⟩ ⟨rfl, ?_⟩
    · obtain ⟨c, hc, rfl⟩ := List.mem_map.mp hd
      have hm := h c hc
      have hi : cols.idxOf c < xs.length := by rw [hx]; exact List.idxOf_lt_length_iff.mpr hm
      refine ⟨_, rfl, xc_none, fun _ => ⟨_, x_idx (d := .int (xs.getD (cols.idxOf c) 0)) (x_var rfl) (x_mindex (x_idx (x_var rfl) x_con (d := .str cols) rfl) (x_var rfl) hm) ?_, rfl⟩⟩
      show (atN (xs.map D.int).length (cols.idxOf c : Nat)).bind ((xs.map D.int)[·]?) = _
      unfold atN
      rw [if_pos (Int.natCast_nonneg _), List.length_map, if_pos (by omega)]
      show (xs.map D.int)[(cols.idxOf c : Int).toNat]? = _
      rw [Int.toNat_natCast, List.getElem?_map, List.getElem?_eq_getElem hi, List.getD_eq_getElem?_getD, List.getElem?_eq_getElem hi]
      rfl
    · rw [List.filter_eq_self.mpr (fun _ _ => rfl)]
      unfold cellI
      rw [List.map_map, List.map_map]
      rfl
  obtain ⟨r, m', e, rfl, rfl⟩ := q.eq
  exact e
def F_fits (cl : Nat) : Fn := ⟨[false, false, false], 6, (.cons (.for_ (.tp [3, 4]) (.val (.idx (.var 0) (.con (.int 1)))) (.cons (.ite (.cmp .eq (.call cl (.cons (.var 0) (.cons (.var 1) (.cons (.var 3) .nil)))) (.call cl (.cons (.var 0) (.cons (.var 2) (.cons (.var 3) .nil))))) (.cons (.ite (.cmp .ne (.call cl (.cons (.var 0) (.cons (.var 1) (.cons (.var 4) .nil)))) (.call cl (.cons (.var 0) (.cons (.var 2) (.cons (.var 4) .nil))))) (.cons (.ret (.con (.bl false))) .nil) .nil) .nil) .nil) .nil)) (.cons (.ret (.cmp .eq (.comp [5] (.nm 5) (.val (.idx (.var 0) (.con (.int 2)))) (.some (.cmp .eq (.call cl (.cons (.var 0) (.cons (.var 1) (.cons (.var 5) .nil)))) (.call cl (.cons (.var 0) (.cons (.var 2) (.cons (.var 5) .nil)))))) (.var 5)) (.lst .nil))) .nil))⟩
def F_fit (cl : Nat) : Fn := ⟨[false, false, false], 6, (.cons (.for_ (.tp [3, 4]) (.val (.idx (.var 0) (.con (.int 1)))) (.cons (.ite (.cmp .eq (.call cl (.cons (.var 0) (.cons (.var 1) (.cons (.var 3) .nil)))) (.call cl (.cons (.var 0) (.cons (.var 2) (.cons (.var 3) .nil))))) (.cons (.ite (.cmp .ne (.call cl (.cons (.var 0) (.cons (.var 1) (.cons (.var 4) .nil)))) (.call cl (.cons (.var 0) (.cons (.var 2) (.cons (.var 4) .nil))))) (.cons (.ret (.con (.bl false))) .nil) .nil) .nil) .nil) .nil)) (.cons (.ret (.b1 .all (.comp [5] (.nm 5) (.val (.idx (.var 0) (.con (.int 2)))) .none (.cmp .ne (.call cl (.cons (.var 0) (.cons (.var 1) (.cons (.var 5) .nil)))) (.call cl (.cons (.var 0) (.cons (.var 2) (.cons (.var 5) .nil)))))))) .nil))⟩
/-- one rule is kept by two rows -/
def rlB (cols : Sg) (xs ys : List Int) (p : Sg × Nat) : Bool := !(cellI cols xs p.1 == cellI cols ys p.1) || (cellI cols xs [p.2] == cellI cols ys [p.2])
def fitB (cols : Sg) (rules : List (Sg × Nat)) (keys : List Sg) (xs ys : List Int) : Bool := rules.all (rlB cols xs ys) && keys.all fun k => !(cellI cols xs k == cellI cols ys k)
theorem fitB_comm (cols : Sg) (rules : List (Sg × Nat)) (keys : List Sg) (xs ys : List Int) : fitB cols rules keys xs ys = fitB cols rules keys ys xs := by
  have e : ∀ a b : List Int, (a == b) = (b == a) := fun a b => by
    by_cases h : a = b
    · rw [h]
    · rw [beq_eq_false_iff_ne.mpr h, beq_eq_false_iff_ne.mpr (Ne.symm h)]
  unfold fitB rlB
  congr 1
  · congr 1; funext p; rw [e, e (cellI cols xs [p.2])]
  · congr 1; funext p; rw [e]
theorem filt_nil (ks : List Sg) (p : Sg → Bool) : eqDs ((ks.filter p).map .str) [] = ks.all fun k => !p k := by
  induction ks with
  | nil => rfl
  | cons a r ih =>
    rw [List.filter_cons, List.all_cons]
    cases hp : p a with
    | true => rfl
    | false => rw [if_neg (by decide), ih]; rfl
section
variable {T : Tb} {f cl n : Nat} {cols : Sg} {rules : List (Sg × Nat)} {keys : List Sg} {xs ys : List Int} {m : Mu}
theorem ev_cells (hc : T.fns[cl]? = some F_cells) {ρ : Env} {i j k : Nat} {l : Sg} {zs : List Int} (h1 : ρ[i]? = some (.val (schD cols rules keys))) (h2 : ρ[j]? = some (.val (.tup (zs.map .int)))) (h3 : ρ[k]? = some (.val (.str l))) (h : ∀ c ∈ l, c ∈ cols) (hx : zs.length = cols.length) :
    EV ⟨callF T (n + 1), T.gl, T.rp, T.wf⟩ ρ m (.call cl (.cons (.var i) (.cons (.var j) (.cons (.var k) .nil)))) ⟨.f, .lst ((cellI cols zs l).map .int)⟩ m :=
  x_call (x_cons (x_var (r := ⟨.v, schD cols rules keys⟩) (by rw [h1]; rfl)) (x_cons (x_var (r := ⟨.v, .tup (zs.map .int)⟩) (by rw [h2]; rfl)) (x_cons (x_var (r := ⟨.v, .str l⟩) (by rw [h3]; rfl)) x_nil))) (cells_ok hc cols _ _ zs l m h hx)
/-- the loop over the rules, in both -/
theorem fit_loop (hc : T.fns[cl]? = some F_cells) (so : SchOk cols rules keys) (hx : xs.length = cols.length) (hy : ys.length = cols.length) {P : R → Mu → Prop} {ss : CSs} (hno : rules.all (rlB cols xs ys) = false → P ⟨.v, .bl false⟩ m)
    (hyes : rules.all (rlB cols xs ys) = true → ∀ x3 x4 x5, OkS (exSs ⟨callF T (n + 1), T.gl, T.rp, T.wf⟩ ss [.val (schD cols rules keys), .val (.tup (xs.map .int)), .val (.tup (ys.map .int)), x3, x4, x5] m) (End P)) :
    OkS (exSs ⟨callF T (n + 1), T.gl, T.rp, T.wf⟩ (.cons (.for_ (.tp [3, 4]) (.val (.idx (.var 0) (.con (.int 1)))) (.cons (.ite (.cmp .eq (.call cl (.cons (.var 0) (.cons (.var 1) (.cons (.var 3) .nil)))) (.call cl (.cons (.var 0) (.cons (.var 2) (.cons (.var 3) .nil))))) (.cons (.ite (.cmp .ne (.call cl (.cons (.var 0) (.cons (.var 1) (.cons (.var 4) .nil)))) (.call cl (.cons (.var 0) (.cons (.var 2) (.cons (.var 4) .nil))))) (.cons (.ret (.con (.bl false))) .nil) .nil) .nil) .nil) .nil)) ss)
      [.val (schD cols rules keys), .val (.tup (xs.map .int)), .val (.tup (ys.map .int)), .un, .un, .un] m) (End P) := by
  refine k_for (J := fun r ρ m' => m' = m ∧ ∃ (rs : List (Sg × Nat)) (x3 x4 x5 : Sl), r = rs.map ruleD ∧ (∀ p ∈ rs, p ∈ rules) ∧ rules.all (rlB cols xs ys) = rs.all (rlB cols xs ys) ∧ ρ = [.val (schD cols rules keys), .val (.tup (xs.map .int)), .val (.tup (ys.map .int)), x3, x4, x5])
    (xi_val (ds := rules.map ruleD) (x_idx (x_var rfl) x_con (d := .tup (rules.map ruleD)) rfl) rfl) ⟨rfl, rules, .un, .un, .un, rfl, fun p h => h, rfl, rfl⟩ ?_ ?_
  · rintro d r ρ' m' ⟨rfl, rs, x3, x4, x5, er, hm, ea, rfl⟩
    cases rs with
    | nil => cases er
    | cons p rs =>
      injection er with e1 e2
      subst e1 e2
      obtain ⟨l1, l2⟩ := so.rl p (hm p (by simp))
      have s1 : ∀ c ∈ p.1, c ∈ cols := fun c hc => l1.subset hc
      have s2 : ∀ c ∈ [p.2], c ∈ cols := fun c hc => by
        have : c = p.2 := by simpa using hc
        rw [this]; exact l2
      refine ⟨_, rfl, ?_⟩
      refine k_ite (x_cmp (ev_cells hc rfl rfl rfl s1 hx) (ev_cells hc rfl rfl rfl s1 hy) (eq_ints _ _)) rfl (fun q1 => ?_) (fun q1 => ?_)
      · refine k_ite (x_cmp (ev_cells hc rfl rfl rfl s2 hx) (ev_cells hc rfl rfl rfl s2 hy) (ne_ints _ _)) rfl (fun q2 => ?_) (fun q2 => ?_)
        · refine k_ret x_con ⟨_, rfl⟩ ?_
          refine hno ?_
          rw [ea, List.all_cons]
          unfold rlB
          rw [q1]
          rw [Bool.not_eq_true'] at q2
          rw [q2]; rfl
        · rw [OkS_nil, Nx_nx, OkS_nil, Nx_nx, OkS_nil, Lp_nx]
          refine ⟨rfl, rs, _, _, _, rfl, fun q hq => hm q (by simp [hq]), ?_, rfl⟩
          rw [ea, List.all_cons]
          unfold rlB
          rw [Bool.not_eq_false'] at q2
          rw [q2]
          simp
      · rw [OkS_nil, Nx_nx, OkS_nil, Lp_nx]
        refine ⟨rfl, rs, _, _, _, rfl, fun q hq => hm q (by simp [hq]), ?_, rfl⟩
        rw [ea, List.all_cons]
        unfold rlB
        rw [q1]
        simp
  · rintro ρ' m' ⟨rfl, rs, x3, x4, x5, er, hm, ea, rfl⟩
    have : rs = [] := by cases rs with | nil => rfl | cons _ _ => cases er
    subst this
    exact hyes ea x3 x4 x5
theorem fits_ok (hf : T.fns[f]? = some (F_fits cl)) (hc : T.fns[cl]? = some F_cells) (so : SchOk cols rules keys) (hx : xs.length = cols.length) (hy : ys.length = cols.length) :
    callF T (n + 2) f [⟨.v, schD cols rules keys⟩, ⟨.v, .tup (xs.map .int)⟩, ⟨.v, .tup (ys.map .int)⟩] m = .ok ⟨.v, .bl (fitB cols rules keys xs ys)⟩ m := by
  have q : Ok (callF T (n + 2) f [⟨.v, schD cols rules keys⟩, ⟨.v, .tup (xs.map .int)⟩, ⟨.v, .tup (ys.map .int)⟩] m) fun r m' => m' = m ∧ r = ⟨.v, .bl (fitB cols rules keys xs ys)⟩ := by
    refine Ok_call hf rfl ?_
    refine fit_loop hc so hx hy (fun h => ⟨rfl, by unfold fitB; rw [h]; rfl⟩) fun h x3 x4 x5 => ?_
    refine k_ret (x_cmp (k := keys.all fun k => !(cellI cols xs k == cellI cols ys k)) (x_comp (p := fun d => match d with | .str k => cellI cols xs k == cellI cols ys k | _ => false) (g := id) (xi_val (ds := keys.map .str) (x_idx (x_var rfl) x_con (d := .tup (keys.map .str)) rfl) rfl) fun d hd => ?_) (x_lst x_nil rfl) ?_) ⟨_, rfl⟩ ⟨rfl, ?_⟩
    · obtain ⟨k, hk, rfl⟩ := List.mem_map.mp hd
      have s1 : ∀ c ∈ k, c ∈ cols := fun c hc => (so.ky k hk).2.subset hc
      exact ⟨_, rfl, xc_some (x_cmp (ev_cells hc rfl rfl rfl s1 hx) (ev_cells hc rfl rfl rfl s1 hy) (eq_ints _ _)) rfl, fun _ => ⟨_, x_var rfl, rfl⟩⟩
    · have e : ∀ ks : List Sg, ((ks.map D.str).filter fun d => match d with | .str k => cellI cols xs k == cellI cols ys k | _ => false).map id = (ks.filter fun k => cellI cols xs k == cellI cols ys k).map .str := fun ks => by
        induction ks with
        | nil => rfl
        | cons a r ih =>
          rw [List.map_cons, List.filter_cons, List.filter_cons]
          dsimp only
          split
          · rw [List.map_cons, ih, List.map_cons]; rfl
          · exact ih
      rw [e]
      have ok : (D.lst ((keys.filter fun k => cellI cols xs k == cellI cols ys k).map .str)).eqOk = true := by
        have pd : ∀ ks : List Sg, pureAll (ks.map .str) = true ∧ depthAll (ks.map .str) = 0 := fun ks => by
          induction ks with
          | nil => exact ⟨rfl, rfl⟩
          | cons a r ih =>
            refine ⟨?_, ?_⟩
            · show (true && pureAll (r.map .str)) = true
              rw [ih.1]; rfl
            · show Nat.max 0 (depthAll (r.map .str)) = 0
              rw [ih.2]; rfl
        obtain ⟨p1, p2⟩ := pd (keys.filter fun k => cellI cols xs k == cellI cols ys k)
        show (pureAll _ && decide (depthAll _ + 1 ≤ 60)) = true
        rw [p1, p2]; rfl
      show (if (D.lst ((keys.filter fun k => cellI cols xs k == cellI cols ys k).map .str)).eqOk && (D.lst []).eqOk then some (eqDs ((keys.filter fun k => cellI cols xs k == cellI cols ys k).map .str) []) else eq0 _ _) = _
      rw [ok]
      show some _ = some _
      congr 1
      exact filt_nil keys _
    · unfold fitB
      rw [h]; rfl
  obtain ⟨r, m', e, rfl, rfl⟩ := q.eq
  exact e
theorem fit_ok (hf : T.fns[f]? = some (F_fit cl)) (hc : T.fns[cl]? = some F_cells) (so : SchOk cols rules keys) (hx : xs.length = cols.length) (hy : ys.length = cols.length) :
    callF T (n + 2) f [⟨.v, schD cols rules keys⟩, ⟨.v, .tup (xs.map .int)⟩, ⟨.v, .tup (ys.map .int)⟩] m = .ok ⟨.v, .bl (fitB cols rules keys xs ys)⟩ m := by
  have q : Ok (callF T (n + 2) f [⟨.v, schD cols rules keys⟩, ⟨.v, .tup (xs.map .int)⟩, ⟨.v, .tup (ys.map .int)⟩] m) fun r m' => m' = m ∧ r = ⟨.v, .bl (fitB cols rules keys xs ys)⟩ := by
    refine Ok_call hf rfl ?_
    refine fit_loop hc so hx hy (fun h => ⟨rfl, by unfold fitB; rw [h]; rfl⟩) fun h x3 x4 x5 => ?_
    refine k_ret (x_b1 (r := ⟨.v, .bl (keys.all fun k => !(cellI cols xs k == cellI cols ys k))⟩) (x_comp (p := fun _ => true) (g := fun d => match d with | .str k => .bl (!(cellI cols xs k == cellI cols ys k)) | _ => .non) (xi_val (ds := keys.map .str) (x_idx (x_var rfl) x_con (d := .tup (keys.map .str)) rfl) rfl) fun d hd => ?_) ?_) ⟨_, rfl⟩ ⟨rfl, ?_⟩
    · obtain ⟨k, hk, rfl⟩ := List.mem_map.mp hd
      have s1 : ∀ c ∈ k, c ∈ cols := fun c hc => (so.ky k hk).2.subset hc
      exact ⟨_, rfl, xc_none, fun _ => ⟨_, x_cmp (ev_cells hc rfl rfl rfl s1 hx) (ev_cells hc rfl rfl rfl s1 hy) (ne_ints _ _), rfl⟩⟩
    · have e : ∀ ks : List Sg, bools? (((ks.map D.str).filter fun _ => true).map fun d => match d with | .str k => .bl (!(cellI cols xs k == cellI cols ys k)) | _ => .non) = some (ks.map fun k => !(cellI cols xs k == cellI cols ys k)) := fun ks => by
        rw [List.filter_eq_self.mpr (fun _ _ => rfl)]
        induction ks with
        | nil => rfl
        | cons a r ih =>
          show (bools? ((r.map D.str).map fun d => match d with | .str k => .bl (!(cellI cols xs k == cellI cols ys k)) | _ => .non)).map _ = _
          rw [ih]; rfl
      show (bools? _).map (fun bs => (⟨.v, .bl (bs.all id)⟩ : R)) = _
      rw [e]
      show some (⟨.v, .bl ((keys.map fun k => !(cellI cols xs k == cellI cols ys k)).all id)⟩ : R) = _
      rw [List.all_map]; rfl
    · unfold fitB
      rw [h]; rfl
  obtain ⟨r, m', e, rfl, rfl⟩ := q.eq
  exact e
end
end Dn

/-! DnL6 -/
set_option Elab.async false
set_option linter.all false
set_option maxRecDepth 100000
set_option maxHeartbeats 1000000
/-! DnL6: a table is drawn. -/
namespace Dn
def F_table (tk ft : Nat) : Fn := ⟨[false, false, false, false], 10, (.cons (.par [5, 6] [true, false] (.cons (.lst .nil) (.cons (.idx (.lst (.cons (.con (.int 0)) (.cons (.con (.int 2)) (.cons (.con (.int 11)) (.cons (.neg (.con (.int 8))) (.cons (.neg (.con (.int 1000))) .nil)))))) (.call tk (.cons (.var 0) (.cons (.con (.int 5)) .nil)))) .nil))) (.cons (.for_ (.nm 4) (.rng (.var 2)) (.cons (.set 7 false (.b1 .tuple (.comp [8] (.nm 8) (.val (.idx (.var 1) (.con (.int 0)))) .none (.bin .sub (.call tk (.cons (.var 0) (.cons (.var 3) .nil))) (.var 6))))) (.cons (.ite (.cmp .notin (.con (.bl false)) (.comp [9] (.nm 9) (.val (.var 5)) .none (.call ft (.cons (.var 1) (.cons (.var 7) (.cons (.var 9) .nil)))))) (.cons (.app 5 (.var 7)) .nil) .nil) .nil))) (.cons (.retF 5) .nil)))⟩
def rowD (xs : List Int) : D := .tup (xs.map .int)
def unI : D → Int
  | .int i => i
  | _ => 0
/-- the rows of a table -/
structure RowsOk (cols : Sg) (rules : List (Sg × Nat)) (keys : List Sg) (size : Int) (rows : List (List Int)) : Prop where
  len : ∀ x ∈ rows, x.length = cols.length
  sm : ∀ x ∈ rows, ∀ i ∈ x, -1000 ≤ i + 1000 ∧ i ≤ size + 1000
  pw : rows.Pairwise fun a b => fitB cols rules keys a b = true
theorem bools_eqOk : ∀ bs : List Bool, (bs.map D.bl).all D.eqOk = true
  | [] => rfl
  | b :: bs => by
    show ((D.bl b).eqOk && (bs.map D.bl).all D.eqOk) = true
    rw [bools_eqOk bs]; rfl
theorem mem_false : ∀ bs : List Bool, memD (.bl false) (bs.map D.bl) = !bs.all id
  | [] => rfl
  | b :: bs => by
    show (eqD (.bl false) (.bl b) || memD (.bl false) (bs.map D.bl)) = _
    rw [mem_false bs, List.all_cons]
    cases b <;> rfl
theorem notin_false (bs : List Bool) : cmpD .notin (.bl false) (.lst (bs.map D.bl)) = some (bs.all id) := by
  rw [notin_l rfl (bools_eqOk bs), mem_false, Bool.not_not]
theorem isin_false (bs : List Bool) : cmpD .isin (.bl false) (.lst (bs.map D.bl)) = some (!bs.all id) := by
  show (if (D.bl false).eqOk && (bs.map D.bl).all D.eqOk then some (memD (.bl false) (bs.map D.bl)) else none) = _
  rw [bools_eqOk, mem_false]; rfl
theorem ints_of_pr {A : Int → Prop} : ∀ {ds : List D} {os : List (Option D)}, Pr (fun _ o => ∃ i, o = some (.int i) ∧ A i) ds os → ∃ xs : List Int, os.filterMap id = xs.map .int ∧ xs.length = ds.length ∧ ∀ i ∈ xs, A i
  | _, _, .nil => ⟨[], rfl, rfl, fun i h => by cases h⟩
  | _, _, .cons h t => by
    obtain ⟨xs, h1, h2, h3⟩ := ints_of_pr t
    obtain ⟨i, rfl, ha⟩ := h
    refine ⟨i :: xs, by simp [h1], by simp [h2], fun j hj => ?_⟩
    rcases List.mem_cons.mp hj with rfl | hj
    · exact ha
    · exact h3 j hj
theorem shift_ok : ∀ d ∈ ([.int 0, .int 2, .int 11, .int (-8), .int (-1000)] : List D), ∃ s : Int, d = .int s ∧ -1000 ≤ s ∧ s ≤ 1000 := by
  intro d hd
  simp only [List.mem_cons, List.not_mem_nil, or_false] at hd
  rcases hd with rfl | rfl | rfl | rfl | rfl
  · exact ⟨_, rfl, by decide, by decide⟩
  · exact ⟨_, rfl, by decide, by decide⟩
  · exact ⟨_, rfl, by decide, by decide⟩
  · exact ⟨_, rfl, by decide, by decide⟩
  · exact ⟨_, rfl, by decide, by decide⟩
section
variable {T : Tb} {f tk ft cl sp n : Nat}
theorem table_ok (hf : T.fns[f]? = some (F_table tk ft)) (ht : T.fns[tk]? = some (F_take sp)) (hs : T.fns[sp]? = some F_spread) (hft : T.fns[ft]? = some (F_fits cl)) (hcl : T.fns[cl]? = some F_cells) {b : Nat} {m : Mu} {cols : Sg} {rules : List (Sg × Nat)} {keys : List Sg} (so : SchOk cols rules keys) (most : Nat) (size : Int) (hm : most ≤ 1000) (h0 : 0 < size) (h1 : size < 2 ^ 200) (hl : b + 1 + 5 * most < lim) (hp : Pen b m) :
    Ok (callF T (n + 3) f [⟨.v, .ref 0⟩, ⟨.v, schD cols rules keys⟩, ⟨.v, .int most⟩, ⟨.v, .int size⟩] m) fun r m' => Pen (b + 1 + 5 * most) m' ∧ ∃ rows, r = ⟨.f, .lst (rows.map rowD)⟩ ∧ RowsOk cols rules keys size rows ∧ rows.length ≤ most := by
  have hl' : b + 1 + 5 * most < 1000000000 := hl
  refine Ok_call hf rfl ?_
  obtain ⟨_, m1, e1, p1, i, rfl, hi⟩ := (take_ok (n := n) ht hs (show b < lim by show _ < 1000000000; omega) hp 5 (by decide) (by decide)).eq
  obtain ⟨_, e2, sh, rfl, s1⟩ := ix_all (m := m1) (i := (i : Int)) (by omega) (by exact hi) shift_ok
  refine k_par (xp_cons (x_lst x_nil rfl) rfl (xp_cons (x_idx (x_lst (x_cons x_con (x_cons x_con (x_cons x_con (x_cons (x_neg x_con) (x_cons (x_neg x_con) x_nil))))) rfl) (x_call (x_cons (x_var rfl) (x_cons x_con x_nil)) e1) e2) rfl xp_nil)) rfl ?_
  show OkS (exSs ⟨callF T (n + 2), T.gl, T.rp, T.wf⟩ _ [.val (.ref 0), .val (schD cols rules keys), .val (.int most), .val (.int size), .un, .own (.lst []), .val (.int sh), .un, .un, .un] m1) _
  generalize hρ : [Sl.val (.ref 0), .val (schD cols rules keys), .val (.int most), .val (.int size), .un, .own (.lst []), .val (.int sh), .un, .un, .un] = ρ0
  refine k_for (m1 := m1) (ds := ((List.range (most : Int).toNat).map fun (k : Nat) => D.int k)) (J := fun r ρ m => ∃ b' rows x4 x7 x8 x9, ρ = [.val (.ref 0), .val (schD cols rules keys), .val (.int most), .val (.int size), x4, .own (.lst (rows.map rowD)), .val (.int sh), x7, x8, x9] ∧ Pen b' m ∧ b' + 5 * r.length ≤ b + 1 + 5 * most ∧ RowsOk cols rules keys size rows ∧ rows.length + r.length ≤ most)
    (xi_rng (i := (most : Int)) (by rw [← hρ]; exact x_var rfl) ⟨by omega, by omega⟩) ?_ ?_ ?_
  · refine ⟨b + 1, [], .un, .un, .un, .un, hρ.symm, p1, ?_, ⟨fun x h => (nomatch h), fun x h => (nomatch h), .nil⟩, ?_⟩
    · simp
    · simp
  · rintro d r ρ' m' ⟨b', rows, x4, x7, x8, x9, rfl, p2, hb', ro, hr⟩
    rw [List.length_cons] at hb' hr
    refine ⟨_, rfl, ?_⟩
    have hsl : (sg cols).length = cols.length := by simp [sg]
    have hc5 := so.len
    have q := Ok_comp (C := ⟨callF T (n + 2), T.gl, T.rp, T.wf⟩) (ρ := [.val (.ref 0), .val (schD cols rules keys), .val (.int most), .val (.int size), .val d, .own (.lst (rows.map rowD)), .val (.int sh), x7, x8, x9]) (own := [8]) (tg := .nm 8) (it := .val (.idx (.var 1) (.con (.int 0)))) (cond := .none) (e := .bin .sub (.call tk (.cons (.var 0) (.cons (.var 3) .nil))) (.var 6)) (m := m') (m1 := m') (ds := sg cols) (I := Pen) (Q := fun _ o => ∃ i, o = some (.int i) ∧ (-1000 ≤ i + 1000 ∧ i ≤ size + 1000)) (b := b') (k := 1)
      (xi_val (x_idx (x_var rfl) x_con (d := .str cols) rfl) rfl) p2 fun d' hd b2 m2 hb2 i2 => by
        refine ⟨[.val (.ref 0), .val (schD cols rules keys), .val (.int most), .val (.int size), .val d, .own (.lst (rows.map rowD)), .val (.int sh), x7, .val d', x9], rfl, ?_⟩
        rw [xc_none]
        refine ⟨fun _ => ?_, fun h => by cases h⟩
        obtain ⟨_, m3, e3, p3, j, rfl, hj⟩ := (take_ok (n := n) ht hs (show b2 < lim by show _ < 1000000000; omega) i2 size h0 h1).eq
        have e4 : EV ⟨callF T (n + 2), T.gl, T.rp, T.wf⟩ [.val (.ref 0), .val (schD cols rules keys), .val (.int most), .val (.int size), .val d, .own (.lst (rows.map rowD)), .val (.int sh), x7, .val d', x9] m2 (.bin .sub (.call tk (.cons (.var 0) (.cons (.var 3) .nil))) (.var 6)) ⟨.v, .int (j - sh)⟩ m3 := x_sub (x_call (x_cons (x_var rfl) (x_cons (x_var rfl) x_nil)) e3) (x_var rfl)
        rw [show evE _ _ _ m2 = _ from e4]
        exact ⟨_, rfl, p3, j - sh, rfl, by omega, by omega⟩
    obtain ⟨_, m2, e3, p3, os, pr, rfl⟩ := q.eq
    obtain ⟨xs, ex, hx, hxs⟩ := ints_of_pr pr
    rw [ex] at e3
    rw [hsl] at hx p3
    refine k_set (x_b1 e3 rfl) rfl ?_
    have ecomp : (((rows.map rowD).filter fun _ => true).map fun d => match d with | .tup ys => D.bl (fitB cols rules keys xs (ys.map unI)) | _ => D.non) = (rows.map fun y => fitB cols rules keys xs y).map .bl := by
      rw [List.filter_eq_self.mpr (fun _ _ => rfl), List.map_map, List.map_map]
      apply List.map_congr_left
      intro y _
      show D.bl (fitB cols rules keys xs ((y.map D.int).map unI)) = _
      rw [List.map_map]
      show D.bl (fitB cols rules keys xs (y.map fun i => i)) = _
      rw [List.map_id']
      rfl
    refine k_ite (k := rows.all fun y => fitB cols rules keys xs y) (x_cmp x_con (x_comp (p := fun _ => true) (g := fun d => match d with | .tup ys => D.bl (fitB cols rules keys xs (ys.map unI)) | _ => D.non) (xi_val (x_var rfl) rfl) fun d' hd => ?_) ?_) rfl (fun hk => ?_) (fun hk => ?_)
    · obtain ⟨y, hy, rfl⟩ := List.mem_map.mp hd
      refine ⟨_, rfl, xc_none, fun _ => ⟨_, x_call (x_cons (x_var rfl) (x_cons (x_var rfl) (x_cons (x_var rfl) x_nil))) (fits_ok hft hcl so hx (ro.len y hy)), ?_⟩⟩
      show some (D.bl _) = some (D.bl (fitB cols rules keys xs ((y.map D.int).map unI)))
      rw [List.map_map]
      show _ = some (D.bl (fitB cols rules keys xs (y.map fun i => i)))
      rw [List.map_id']
    · rw [ecomp]
      show cmpD .notin (.bl false) (.lst ((rows.map fun y => fitB cols rules keys xs y).map .bl)) = _
      rw [notin_false, List.all_map]; rfl
    · refine k_app rfl (x_var rfl) rfl ?_ ?_
      · rw [List.length_map]
        show _ < 16777216
        omega
      · rw [OkS_nil, Nx_nx, OkS_nil, Lp_nx]
        refine ⟨b' + cols.length * 1, rows ++ [xs], .val d, .val (rowD xs), x8, x9, ?_, p3, by omega, ⟨fun x h => ?_, fun x h => ?_, ?_⟩, by rw [List.length_append, List.length_singleton]; omega⟩
        · rw [List.map_append]; rfl
        · rcases List.mem_append.mp h with h | h
          · exact ro.len x h
          · have : x = xs := by simpa using h
            rw [this]; exact hx
        · rcases List.mem_append.mp h with h | h
          · exact ro.sm x h
          · have : x = xs := by simpa using h
            rw [this]; exact hxs
        · refine List.pairwise_append.mpr ⟨ro.pw, List.pairwise_singleton _ _, fun a ha c hc => ?_⟩
          have : c = xs := by simpa using hc
          rw [this, fitB_comm]
          exact List.all_eq_true.mp hk a ha
    · rw [OkS_nil, Nx_nx, OkS_nil, Lp_nx]
      exact ⟨b' + cols.length * 1, rows, .val d, .val (rowD xs), x8, x9, rfl, p3, by omega, ro, by omega⟩
  · rintro ρ' m' ⟨b', rows, x4, x7, x8, x9, rfl, p2, hb', ro, hr⟩
    refine k_retF rfl ⟨p2.le (by simpa using hb'), rows, rfl, ro, by simpa using hr⟩
end
end Dn

/-! DnS -/
set_option Elab.async false
set_option linter.all false
set_option maxRecDepth 100000
set_option maxHeartbeats 1000000
/-! DnS: the evaluator by equations. -/
namespace Dn.Q
/-- an option ahead of what follows -/
def opo {α β : Type} (o : Option α) (f : α → Out β) : Out β := match o with | some a => f a | none => .st
@[simp] theorem opo_some {α β : Type} (a : α) (f : α → Out β) : opo (some a) f = f a := rfl
@[simp] theorem opo_none {α β : Type} (f : α → Out β) : opo none f = .st := rfl
def opS {α : Type} (o : Option α) (f : α → OutS) : OutS := match o with | some a => f a | none => .st
@[simp] theorem opS_some {α : Type} (a : α) (f : α → OutS) : opS (some a) f = f a := rfl
@[simp] theorem opS_none {α : Type} (f : α → OutS) : opS none f = .st := rfl
def bndS {α : Type} (o : Out α) (ρ : Env) (f : α → Mu → OutS) : OutS := match o with | .ok a m => f a m | .ex x m => .ex x ρ m | .st => .st
@[simp] theorem bndS_ok {α : Type} (a : α) (m : Mu) (ρ : Env) (f : α → Mu → OutS) : bndS (.ok a m) ρ f = f a m := rfl
@[simp] theorem bndS_ex {α : Type} (x : Xn) (m : Mu) (ρ : Env) (f : α → Mu → OutS) : bndS (.ex x m) ρ f = .ex x ρ m := rfl
@[simp] theorem mb_ex {α β : Type} (x : Xn) (m : Mu) (f : α → Mu → Out β) : (Out.ex x m : Out α).bnd f = .ex x m := rfl
theorem bnd_opt {α β : Type} (o : Option α) (m : Mu) (f : α → Mu → Out β) : ((M.opt o) m).bnd f = opo o fun a => f a m := by cases o <;> rfl
/-- a slot read -/
def rdE (ρ : Env) (i : Nat) : Option R := (ρ[i]?).bind Sl.read
theorem mb_bind' {α β : Type} (x : M α) (f : α → M β) (m : Mu) : (x >>= f) m = (x m).bnd fun a m => f a m := rfl
theorem opt_opo {α : Type} (o : Option α) (m : Mu) : (M.opt o) m = opo o fun a => .ok a m := by cases o <;> rfl
theorem gd_ite {α : Type} (c : Bool) (m : Mu) (f : Unit → Mu → Out α) : ((M.guard c) m).bnd f = if c = true then f () m else .st := by cases c <;> rfl
theorem ite_m {α : Type} (c : Prop) [Decidable c] (x y : M α) (m : Mu) : (if c then x else y) m = if c then x m else y m := by split <;> rfl
theorem dec_tr (p : Prop) [Decidable p] : (decide p = true) = p := by simp
theorem bnd_opo {α β γ : Type} (o : Option α) (f : α → Out β) (g : β → Mu → Out γ) : (opo o f).bnd g = opo o fun a => (f a).bnd g := by cases o <;> rfl
theorem opo_match {α β : Type} (o : Option α) (f : α → Out β) : (match o with | some a => f a | none => .st) = opo o f := by cases o <;> rfl
section
variable (C : Cx) (ρ : Env) (m : Mu) (a b c e : CE)
@[simp] theorem E_var (i : Nat) : evE C (.var i) ρ m = opo ((ρ[i]?).bind Sl.read) fun r => .ok r m := by
  rw [evE]; simp only [mb_ok, mb_bind', mb_pure, bnd_opt, opt_opo, gd_ite, ite_m, dec_tr, bnd_opo, itemsM, bit]; try rfl
@[simp] theorem E_con (d : D) : evE C (.con d) ρ m = .ok ⟨.v, d⟩ m := rfl
@[simp] theorem E_glob (k : Nat) : evE C (.glob k) ρ m = opo ((C.gl[k]?).map R.v) fun r => .ok r m := by
  rw [evE]; simp only [mb_ok, mb_bind', mb_pure, bnd_opt, opt_opo, gd_ite, ite_m, dec_tr, bnd_opo, itemsM, bit]; try rfl
@[simp] theorem E_tup (es : CEs) : evE C (.tup es) ρ m = (evEs C es ρ m).bnd fun rs m => opo (keepAll rs) fun ds => .ok ⟨.v, .tup ds⟩ m := by
  rw [evE]; simp only [mb_ok, mb_bind', mb_pure, bnd_opt, opt_opo, gd_ite, ite_m, dec_tr, bnd_opo, itemsM, bit]; try rfl
@[simp] theorem E_lst (es : CEs) : evE C (.lst es) ρ m = (evEs C es ρ m).bnd fun rs m => opo (keepAll rs) fun ds => .ok ⟨.f, .lst ds⟩ m := by
  rw [evE]; simp only [mb_ok, mb_bind', mb_pure, bnd_opt, opt_opo, gd_ite, ite_m, dec_tr, bnd_opo, itemsM, bit]; try rfl
@[simp] theorem E_emp (t : Bool) : evE C (.emp t) ρ m = .ok ⟨.f, .dic t []⟩ m := rfl
@[simp] theorem E_newl (es : CEs) : evE C (.newl es) ρ m = (evEs C es ρ m).bnd fun rs m => opo (keepAll rs) fun ds => .ok ⟨.v, .ref m.length⟩ (m ++ [.lst ds]) := by
  rw [evE]; simp only [mb_ok, mb_bind', mb_pure, bnd_opt, opt_opo, gd_ite, ite_m, dec_tr, bnd_opo, itemsM, bit]; try rfl
def tgD (d : D) : Tag := match d with | .lst _ => .f | _ => .v
@[simp] theorem tgD_lst (x : List D) : tgD (.lst x) = .f := rfl
@[simp] theorem tgD_tup (x : List D) : tgD (.tup x) = .v := rfl
@[simp] theorem tgD_int (x : Int) : tgD (.int x) = .v := rfl
@[simp] theorem tgD_str (x : Sg) : tgD (.str x) = .v := rfl
def mkR (d : D) : R := ⟨tgD d, d⟩
@[simp] theorem mkR_lst (x : List D) : mkR (.lst x) = ⟨.f, .lst x⟩ := rfl
@[simp] theorem mkR_tup (x : List D) : mkR (.tup x) = ⟨.v, .tup x⟩ := rfl
@[simp] theorem mkR_int (x : Int) : mkR (.int x) = ⟨.v, .int x⟩ := rfl
@[simp] theorem mkR_str (x : Sg) : mkR (.str x) = ⟨.v, .str x⟩ := rfl
@[simp] theorem E_bin (op : Bop) : evE C (.bin op a b) ρ m = (evE C a ρ m).bnd fun x m => (evE C b ρ m).bnd fun y m => opo (binD op x.d y.d) fun d => .ok (mkR d) m := by
  rw [evE]; simp only [mb_ok, mb_bind', mb_pure, bnd_opt, opt_opo, gd_ite, ite_m, dec_tr, bnd_opo, itemsM, bit]; try rfl
@[simp] theorem E_neg : evE C (.neg a) ρ m = (evE C a ρ m).bnd fun x m => opo x.d.int? fun i => .ok ⟨.v, .int (-i)⟩ m := by
  rw [evE]; simp only [mb_ok, mb_bind', mb_pure, bnd_opt, opt_opo, gd_ite, ite_m, dec_tr, bnd_opo, itemsM, bit]; try rfl
@[simp] theorem E_cmp (op : Cop) : evE C (.cmp op a b) ρ m = (evE C a ρ m).bnd fun x m => (evE C b ρ m).bnd fun y m => opo (cmpD op x.d y.d) fun k => .ok ⟨.v, .bl k⟩ m := by
  rw [evE]; simp only [mb_ok, mb_bind', mb_pure, bnd_opt, opt_opo, gd_ite, ite_m, dec_tr, bnd_opo, itemsM, bit]; try rfl
@[simp] theorem E_chain (o1 o2 : Cop) : evE C (.chain o1 o2 a b c) ρ m = (evE C a ρ m).bnd fun x m => (evE C b ρ m).bnd fun y m => opo (cmpD o1 x.d y.d) fun k =>
    if k = true then (evE C c ρ m).bnd fun z m => opo (cmpD o2 y.d z.d) fun k => .ok ⟨.v, .bl k⟩ m else .ok ⟨.v, .bl false⟩ m := by
  rw [evE]; simp only [mb_ok, mb_bind', mb_pure, bnd_opt, opt_opo, gd_ite, ite_m, dec_tr, bnd_opo, itemsM, bit]; try rfl
@[simp] theorem E_not : evE C (.not a) ρ m = (evE C a ρ m).bnd fun x m => opo x.d.truth fun k => .ok ⟨.v, .bl (!k)⟩ m := by
  rw [evE]; simp only [mb_ok, mb_bind', mb_pure, bnd_opt, opt_opo, gd_ite, ite_m, dec_tr, bnd_opo, itemsM, bit]; try rfl
@[simp] theorem E_and : evE C (.and a b) ρ m = (evE C a ρ m).bnd fun x m => opo x.d.truth fun k => if k = true then evE C b ρ m else .ok x.lo m := by
  rw [evE]; simp only [mb_ok, mb_bind', mb_pure, bnd_opt, opt_opo, gd_ite, ite_m, dec_tr, bnd_opo, itemsM, bit]; try rfl
@[simp] theorem E_or : evE C (.or a b) ρ m = (evE C a ρ m).bnd fun x m => opo x.d.truth fun k => if k = true then .ok x.lo m else evE C b ρ m := by
  rw [evE]; simp only [mb_ok, mb_bind', mb_pure, bnd_opt, opt_opo, gd_ite, ite_m, dec_tr, bnd_opo, itemsM, bit]; try rfl
@[simp] theorem E_ife : evE C (.ife c a b) ρ m = (evE C c ρ m).bnd fun x m => opo x.d.truth fun k => if k = true then evE C a ρ m else evE C b ρ m := by
  rw [evE]; simp only [mb_ok, mb_bind', mb_pure, bnd_opt, opt_opo, gd_ite, ite_m, dec_tr, bnd_opo, itemsM, bit]; try rfl
@[simp] theorem E_idx : evE C (.idx a b) ρ m = (evE C a ρ m).bnd fun x m => (evE C b ρ m).bnd fun y m => opo (ixS m x.d y.d) fun d => .ok ⟨.v, d⟩ m := by
  rw [evE]; simp only [mb_bind']
  congr; funext x m; congr; funext y m; cases ixS m x.d y.d <;> rfl
@[simp] theorem E_slice (lo hi : CEo) : evE C (.slice a lo hi) ρ m = (evE C a ρ m).bnd fun x m => (evO C lo ρ m).bnd fun l m => (evO C hi ρ m).bnd fun h m => opo (sliceD x.d l h) fun d => .ok (mkR d) m := by
  rw [evE]; simp only [mb_ok, mb_bind', mb_pure, bnd_opt, opt_opo, gd_ite, ite_m, dec_tr, bnd_opo, itemsM, bit]; try rfl
@[simp] theorem E_rev : evE C (.rev a) ρ m = (evE C a ρ m).bnd fun x m => opo (revD x.d) fun d => .ok (mkR d) m := by
  rw [evE]; simp only [mb_ok, mb_bind', mb_pure, bnd_opt, opt_opo, gd_ite, ite_m, dec_tr, bnd_opo, itemsM, bit]; try rfl
theorem E_call0 (f : Nat) (es : CEs) : evE C (.call f es) ρ m = (evEs C es ρ m).bnd fun rs m => C.call f rs m := rfl
@[simp] theorem E_b1 (f : B1) : evE C (.b1 f a) ρ m = (evE C a ρ m).bnd fun x m => opo (b1D C.rp f x.d) fun r => .ok r m := by
  rw [evE]; simp only [mb_ok, mb_bind', mb_pure, bnd_opt, opt_opo, gd_ite, ite_m, dec_tr, bnd_opo, itemsM, bit]; try rfl
@[simp] theorem E_isi (t : Ty) : evE C (.isi t a) ρ m = (evE C a ρ m).bnd fun x m => opo (x.d.tyB t) fun k => .ok ⟨.v, .bl k⟩ m := by
  rw [evE]; simp only [mb_ok, mb_bind', mb_pure, bnd_opt, opt_opo, gd_ite, ite_m, dec_tr, bnd_opo, itemsM, bit]; try rfl
@[simp] theorem E_lsti (it : CI) : evE C (.lsti it) ρ m = (evI C it ρ m).bnd fun ds m => .ok ⟨.f, .lst ds⟩ m := rfl
@[simp] theorem E_join : evE C (.join a b) ρ m = (evE C a ρ m).bnd fun x m => opo x.d.str? fun s => (evE C b ρ m).bnd fun y m => opo (y.d.lst?.bind strs?) fun ss =>
    if (ss.map List.length).sum + ss.length * s.length ≤ big then .ok ⟨.v, .str (joinS s ss)⟩ m else .st := by
  rw [evE]; simp only [mb_ok, mb_bind', mb_pure, bnd_opt, opt_opo, gd_ite, ite_m, dec_tr, bnd_opo, itemsM, bit]; try rfl
@[simp] theorem E_mindex : evE C (.mindex a b) ρ m = (evE C a ρ m).bnd fun x m => opo x.d.str? fun s => (evE C b ρ m).bnd fun y m => opo y.d.chr? fun c =>
    if c ∈ s then .ok ⟨.v, .int (s.idxOf c : Nat)⟩ m else .st := by
  rw [evE]; simp only [mb_ok, mb_bind', mb_pure, bnd_opt, opt_opo, gd_ite, ite_m, dec_tr, List.contains_eq_mem, bnd_opo, itemsM, bit, decide_eq_true_eq]; try rfl
@[simp] theorem Es_nil : evEs C .nil ρ m = .ok [] m := rfl
@[simp] theorem Es_cons (es : CEs) : evEs C (.cons e es) ρ m = (evE C e ρ m).bnd fun x m => (evEs C es ρ m).bnd fun xs m => .ok (x :: xs) m := rfl
@[simp] theorem Eo_none : evO C .none ρ m = .ok none m := rfl
@[simp] theorem Eo_some : evO C (.some e) ρ m = (evE C e ρ m).bnd fun x m => opo x.d.int? fun i => if -1000000000 < i ∧ i < 1000000000 then .ok (some i) m else .st := by
  rw [evO]; simp only [mb_ok, mb_bind', mb_pure, bnd_opt, opt_opo, gd_ite, ite_m, dec_tr, bnd_opo, itemsM, bit]; try rfl
@[simp] theorem Ec_none : evC C .none ρ m = .ok true m := rfl
@[simp] theorem Ec_some : evC C (.some e) ρ m = (evE C e ρ m).bnd fun x m => opo x.d.truth fun k => .ok k m := by
  rw [evC]; simp only [mb_ok, mb_bind', mb_pure, bnd_opt, opt_opo, gd_ite, ite_m, dec_tr, bnd_opo, itemsM, bit]; try rfl
@[simp] theorem Ei_val : evI C (.val e) ρ m = (evE C e ρ m).bnd fun x m => opo x.d.items fun ds => .ok ds m := by
  rw [evI]; simp only [mb_ok, mb_bind', mb_pure, bnd_opt, opt_opo, gd_ite, ite_m, dec_tr, bnd_opo, itemsM, bit]; try rfl
@[simp] theorem Ei_rng : evI C (.rng e) ρ m = (evE C e ρ m).bnd fun x m => opo x.d.int? fun n => if -1000000 < n ∧ n < 1000000 then .ok ((List.range n.toNat).map fun (k : Nat) => D.int k) m else .st := by
  rw [evI]; simp only [mb_ok, mb_bind', mb_pure, bnd_opt, opt_opo, gd_ite, ite_m, dec_tr, bnd_opo, itemsM, bit]; try rfl
@[simp] theorem Ei_enum : evI C (.enum e) ρ m = (evE C e ρ m).bnd fun x m => opo (enumD x.d) fun ds => .ok ds m := by
  rw [evI]; simp only [mb_ok, mb_bind', mb_pure, bnd_opt, opt_opo, gd_ite, ite_m, dec_tr, bnd_opo, itemsM, bit]; try rfl
@[simp] theorem Ei_zip : evI C (.zip a b) ρ m = (evE C a ρ m).bnd fun x m => (evE C b ρ m).bnd fun y m => opo (zipD x.d y.d) fun ds => .ok ds m := by
  rw [evI]; simp only [mb_ok, mb_bind', mb_pure, bnd_opt, opt_opo, gd_ite, ite_m, dec_tr, bnd_opo, itemsM, bit]; try rfl
/-- a comprehension's run -/
def compR (f : D → Mu → Out (Option D)) (ds : List D) (m : Mu) : Out (List D) := mapR (fun d => M.noex (f d)) ds m
@[simp] theorem E_comp (own : List Nat) (tg : Tg) (it : CI) (cond : CEo) : evE C (.comp own tg it cond e) ρ m = (evI C it ρ m).bnd fun ds m =>
    (compR (fun d m => opo (bindT tg d (wipeE ρ own)) fun ρ' => (evC C cond ρ' m).bnd fun c m => if c = true then (evE C e ρ' m).bnd fun r m => opo r.keep fun y => .ok (some y) m else .ok none m) ds m).bnd fun ys m => .ok ⟨.f, .lst ys⟩ m := by
  rw [evE]; simp only [mb_bind', compR]
  congr; funext ds m
  have : (fun d => M.noex (do
      let ρ' ← M.opt (bindT tg d (wipeE ρ own))
      let c ← evC C cond ρ'
      if c then do
        let r ← evE C e ρ'
        let y ← keepM r
        pure (some y)
      else pure none)) = fun d => M.noex fun m => opo (bindT tg d (wipeE ρ own)) fun ρ' => (evC C cond ρ' m).bnd fun c m => if c = true then (evE C e ρ' m).bnd fun r m => opo r.keep fun y => .ok (some y) m else .ok none m := by
    funext d; congr; funext m
    simp only [mb_ok, mb_bind', mb_pure, bnd_opt, opt_opo, ite_m, bnd_opo, keepM]
  rw [this]; rfl
end
section
variable {C : Cx} {ρ : Env} {m : Mu} {a b c e : CE}
theorem compR_pure {α : Type} {enc : α → D} {f : D → Mu → Out (Option D)} {g : α → Option D} : ∀ {xs : List α}, (∀ x ∈ xs, f (enc x) m = .ok (g x) m) → compR f (xs.map enc) m = .ok (xs.filterMap g) m
  | [], _ => rfl
  | x :: r, h => by
    have h1 := h x (by simp)
    have h2 := compR_pure (xs := r) fun d hd => h d (by simp [hd])
    show ((M.noex (f (enc x)) m).bnd fun y m1 => (compR f (r.map enc) m1).bnd fun ys m2 => .ok (match y with | some y => y :: ys | none => ys) m2) = _
    have e1 : M.noex (f (enc x)) m = .ok (g x) m := by unfold M.noex; rw [h1]
    rw [e1, mb_ok, h2, mb_ok]
    cases e : g x <;> simp [List.filterMap_cons, e]
theorem compR_map {α : Type} {enc : α → D} {f : D → Mu → Out (Option D)} (g : α → D) {xs : List α} (h : ∀ x ∈ xs, f (enc x) m = .ok (some (g x)) m) : compR f (xs.map enc) m = .ok (xs.map g) m := by
  rw [compR_pure (g := fun x => some (g x)) h]; congr 1; clear h; induction xs <;> simp_all
theorem compR_fil {α : Type} {enc : α → D} {f : D → Mu → Out (Option D)} (p : α → Bool) (g : α → D) {xs : List α} (h : ∀ x ∈ xs, f (enc x) m = .ok (if p x = true then some (g x) else none) m) : compR f (xs.map enc) m = .ok ((xs.filter p).map g) m := by
  rw [compR_pure (g := fun x => if p x = true then some (g x) else none) h]
  congr
  clear h
  induction xs with
  | nil => rfl
  | cons x r ih => cases hp : p x <;> simp [List.filterMap_cons, List.filter_cons, hp, ih]
end
section
variable (C : Cx) (ρ : Env) (m : Mu) (a b c e : CE) (ss : CSs)
def seqS (o : OutS) (k : Env → Mu → OutS) : OutS := match o with | .ok (.nx ρ) m => k ρ m | o => o
@[simp] theorem seqS_nx (k : Env → Mu → OutS) : seqS (.ok (.nx ρ) m) k = k ρ m := rfl
@[simp] theorem seqS_rt (r : R) (k : Env → Mu → OutS) : seqS (.ok (.rt r) m) k = .ok (.rt r) m := rfl
@[simp] theorem seqS_br (r : Env) (k : Env → Mu → OutS) : seqS (.ok (.br r) m) k = .ok (.br r) m := rfl
@[simp] theorem seqS_ct (r : Env) (k : Env → Mu → OutS) : seqS (.ok (.ct r) m) k = .ok (.ct r) m := rfl
@[simp] theorem seqS_ex (x : Xn) (k : Env → Mu → OutS) : seqS (.ex x ρ m) k = .ex x ρ m := rfl
@[simp] theorem seqS_st (k : Env → Mu → OutS) : seqS .st k = .st := rfl
@[simp] theorem S_nil : exSs C .nil ρ m = .ok (.nx ρ) m := rfl
theorem S_seq (s : CS) : exSs C (.cons s ss) ρ m = seqS (exS C s ρ m) (exSs C ss) := by
  rw [exSs]; dsimp only; cases exS C s ρ m with
  | ok f m => cases f <;> rfl
  | ex _ _ _ => rfl
  | st => rfl
theorem onE_bndS {α : Type} (x : M α) (f : α → Mu → OutS) : onE x ρ f m = bndS (x m) ρ f := rfl
theorem seq_bndS {α : Type} (x : Out α) (f : α → Mu → OutS) (k : Env → Mu → OutS) : seqS (bndS x ρ f) k = bndS x ρ fun a m => seqS (f a m) k := by cases x <;> rfl
theorem seq_opS {α : Type} (x : Option α) (f : α → OutS) (k : Env → Mu → OutS) : seqS (opS x f) k = opS x fun a => seqS (f a) k := by cases x <;> rfl
theorem nxt_opS (o : Option Env) : nxt o m = opS o fun ρ => .ok (.nx ρ) m := by cases o <;> rfl
theorem opS_map {α β : Type} (o : Option α) (g : α → β) (f : β → OutS) : opS (o.map g) f = opS o fun a => f (g a) := by cases o <;> rfl
theorem opS_bind {α β : Type} (o : Option α) (g : α → Option β) (f : β → OutS) : opS (o.bind g) f = opS o fun a => opS (g a) f := by cases o <;> rfl
theorem bndS_bnd {α β : Type} (x : Out α) (g : α → Mu → Out β) (f : β → Mu → OutS) : bndS (x.bnd g) ρ f = bndS x ρ fun a m => bndS (g a m) ρ f := by cases x <;> rfl
theorem bndS_opo {α β : Type} (o : Option α) (g : α → Out β) (f : β → Mu → OutS) : bndS (opo o g) ρ f = opS o fun a => bndS (g a) ρ f := by cases o <;> rfl
@[simp] theorem S_set (k : Nat) (own : Bool) : exSs C (.cons (.set k own e) ss) ρ m = bndS (evE C e ρ m) ρ fun r m => opS (slotOf own r) fun s => exSs C ss (ρ.set k s) m := by
  rw [S_seq, exS]; simp only [onE_bndS, seq_bndS, nxt_opS, opS_map, seq_opS, seqS_nx]
@[simp] theorem S_unp (is : List Nat) : exSs C (.cons (.unp is e) ss) ρ m = bndS (evE C e ρ m) ρ fun r m => opS r.keep fun d => opS (bindT (.tp is) d ρ) fun ρ => exSs C ss ρ m := by
  rw [S_seq, exS]; simp only [onE_bndS, seq_bndS, nxt_opS, opS_bind, seq_opS, seqS_nx]
@[simp] theorem S_par (is : List Nat) (os : List Bool) (es : CEs) : exSs C (.cons (.par is os es) ss) ρ m = bndS (evP C es os ρ m) ρ fun sl m => opS (setSl is sl ρ) fun ρ => exSs C ss ρ m := by
  rw [S_seq, exS]; simp only [onE_bndS, seq_bndS, nxt_opS, seq_opS, seqS_nx]
@[simp] theorem Ep_nil : evP C .nil [] ρ m = .ok [] m := rfl
@[simp] theorem Ep_cons (es : CEs) (o : Bool) (os : List Bool) : evP C (.cons e es) (o :: os) ρ m = (evE C e ρ m).bnd fun x m => opo (slotOf o x) fun s => (evP C es os ρ m).bnd fun sl m => .ok (s :: sl) m := by
  rw [evP]; simp only [mb_bind', bnd_opt, mb_pure]
@[simp] theorem S_oset (k : Nat) (x : CE) : exSs C (.cons (.oset k x e) ss) ρ m = bndS (evE C e ρ m) ρ fun r m => opS r.keep fun d => opS (ownL ρ k) fun ds => bndS (evE C x ρ m) ρ fun y m => opS (putL ds y.d d) fun o => exSs C ss (ρ.set k (.own o)) m := by
  rw [S_seq, exS]; simp only [onE_bndS, seq_bndS, nxt_opS, opS_map, seq_opS, seqS_nx, mb_bind', bnd_opt, mb_pure, bndS_bnd, bndS_opo, bndS_ok]
@[simp] theorem S_sset (x : CE) : exSs C (.cons (.sset a x e) ss) ρ m = bndS (evE C e ρ m) ρ fun r m => opS r.keep fun d => bndS (evE C a ρ m) ρ fun z m => bndS (evE C x ρ m) ρ fun y m => seqS (ssetD d z.d y.d ρ m) (exSs C ss) := by
  rw [S_seq, exS]; simp only [onE_bndS, seq_bndS, seq_opS, mb_bind', bnd_opt, mb_pure, bndS_bnd, bndS_opo, bndS_ok]
def valOf : Sl → Option D | .val d => some d | _ => none
def ownOf : Sl → Option (List D) | .own (.lst d) => some d | _ => none
@[simp] theorem valOf_v (d : D) : valOf (.val d) = some d := rfl
@[simp] theorem ownOf_o (d : List D) : ownOf (.own (.lst d)) = some d := rfl
@[simp] theorem S_aug (k : Nat) (op : Bop) : exSs C (.cons (.aug k op e) ss) ρ m = opS ((ρ[k]?).bind valOf) fun d => bndS (evE C e ρ m) ρ fun r m => opS (augD op d r.d) fun d => exSs C ss (ρ.set k (.val d)) m := by
  rw [S_seq, exS]
  rcases h : ρ[k]? with _ | s
  · rfl
  · cases s <;> first | rfl | (simp only [Option.bind_some, valOf_v, opS_some, onE_bndS, seq_bndS, nxt_opS, opS_map, seq_opS, seqS_nx])
@[simp] theorem S_app (k : Nat) : exSs C (.cons (.app k e) ss) ρ m = opS ((ρ[k]?).bind ownOf) fun ds => bndS (evE C e ρ m) ρ fun r m => if ds.length < big then opS r.keep fun d => exSs C ss (ρ.set k (.own (.lst (ds ++ [d])))) m else .st := by
  rw [S_seq, exS]
  rcases h : ρ[k]? with _ | s
  · rfl
  · cases s with
    | own d =>
      cases d <;> first | rfl | skip
      simp only [Option.bind_some, ownOf_o, opS_some, onE_bndS, seq_bndS, nxt_opS]
      congr; funext r m
      split <;> simp only [opS_map, seq_opS, seqS_nx, opS_none, seqS_st]
    | _ => rfl
@[simp] theorem S_ext (k : Nat) : exSs C (.cons (.ext k e) ss) ρ m = bndS (evE C e ρ m) ρ fun r m => opS ((ρ[k]?).bind ownOf) fun ds => opS r.d.lst? fun es => if ds.length + es.length ≤ big then exSs C ss (ρ.set k (.own (.lst (ds ++ es)))) m else .st := by
  rw [S_seq, exS]; simp only [onE_bndS, seq_bndS, nxt_opS]
  congr; funext r m
  rcases h : ρ[k]? with _ | s
  · rfl
  · cases s with
    | own d =>
      cases d <;> first | rfl | skip
      simp only [Option.bind_some, ownOf_o, opS_some]
      cases r.d <;> first | rfl | skip
      simp only [D.lst?, opS_some]
      split <;> rfl
    | _ => rfl
@[simp] theorem S_oins (k : Nat) (x : CE) : exSs C (.cons (.oins k x e) ss) ρ m = opS ((ρ[k]?).bind ownOf) fun ds => bndS (evE C x ρ m) ρ fun y m => bndS (evE C e ρ m) ρ fun r m => opS r.keep fun d => opS (insD? ds y.d d) fun o => exSs C ss (ρ.set k (.own o)) m := by
  rw [S_seq, exS]
  rcases h : ρ[k]? with _ | s
  · rfl
  · cases s with
    | own d =>
      cases d <;> first | rfl | skip
      simp only [Option.bind_some, ownOf_o, opS_some, onE_bndS, seq_bndS, nxt_opS, opS_map, seq_opS, seqS_nx, mb_bind', bnd_opt, mb_pure, bndS_bnd, bndS_opo, bndS_ok]
    | _ => rfl
@[simp] theorem S_expr : exSs C (.cons (.expr e) ss) ρ m = bndS (evE C e ρ m) ρ fun _ m => exSs C ss ρ m := by
  rw [S_seq, exS]; simp only [onE_bndS, seq_bndS, seqS_nx]
@[simp] theorem S_doc : exSs C (.cons .doc ss) ρ m = exSs C ss ρ m := rfl
@[simp] theorem S_pass : exSs C (.cons .pass ss) ρ m = exSs C ss ρ m := rfl
@[simp] theorem S_brk : exSs C (.cons .brk ss) ρ m = .ok (.br ρ) m := rfl
@[simp] theorem S_cont : exSs C (.cons .cont ss) ρ m = .ok (.ct ρ) m := rfl
@[simp] theorem S_frz (k : Nat) : exSs C (.cons (.frz k) ss) ρ m = opS ((ρ[k]?).bind frzS) fun s => exSs C ss (ρ.set k s) m := by
  rw [S_seq, exS]; simp only [nxt_opS, opS_map, seq_opS, seqS_nx]
def strOf : Sl → Option Sg | .val (.str s) => some s | _ => none
@[simp] theorem strOf_v (d : Sg) : strOf (.val (.str d)) = some d := rfl
@[simp] theorem S_isS (k : Nat) : exSs C (.cons (.isS k) ss) ρ m = opS ((ρ[k]?).bind strOf) fun _ => exSs C ss ρ m := by
  rw [S_seq, exS]
  rcases h : ρ[k]? with _ | s
  · rfl
  · cases s with
    | val d => cases d <;> rfl
    | _ => rfl
@[simp] theorem S_ret : exSs C (.cons (.ret e) ss) ρ m = bndS (evE C e ρ m) ρ fun r m => opS r.keep fun _ => .ok (.rt r) m := by
  rw [S_seq, exS]; simp only [onE_bndS, seq_bndS]
  congr; funext r m
  cases r.keep <;> rfl
@[simp] theorem S_retN : exSs C (.cons .retN ss) ρ m = .ok (.rt ⟨.v, .non⟩) m := rfl
@[simp] theorem S_retF (k : Nat) : exSs C (.cons (.retF k) ss) ρ m = opS (ρ[k]?) fun s => match s with | .own d => .ok (.rt ⟨.f, d⟩) m | _ => .st := by
  rw [S_seq, exS]
  rcases h : ρ[k]? with _ | s
  · rfl
  · cases s <;> rfl
@[simp] theorem S_ite (x y : CSs) : exSs C (.cons (.ite c x y) ss) ρ m = bndS (evE C c ρ m) ρ fun r m => opS r.d.truth fun k => if k = true then seqS (exSs C x ρ m) (exSs C ss) else seqS (exSs C y ρ m) (exSs C ss) := by
  rw [S_seq, exS]; simp only [onE_bndS, seq_bndS, mb_bind', bndS_bnd, opt_opo, bndS_opo, bndS_ok, seq_opS]
  congr; funext r m; congr; funext k
  split <;> rfl
@[simp] theorem S_for (tg : Tg) (it : CI) (x : CSs) : exSs C (.cons (.for_ tg it x) ss) ρ m = bndS (evI C it (hideO ρ) m) ρ fun ds m => seqS (forS tg (exSs C x) ds ρ m) (exSs C ss) := by
  rw [S_seq, exS]; simp only [onE_bndS, seq_bndS]
/-- a round's end -/
def seqL (o : OutS) (k : Env → Mu → OutS) : OutS := match o with | .ok (.nx ρ) m => k ρ m | .ok (.ct ρ) m => k ρ m | .ok (.br ρ) m => .ok (.nx ρ) m | o => o
@[simp] theorem seqL_nx (k : Env → Mu → OutS) : seqL (.ok (.nx ρ) m) k = k ρ m := rfl
@[simp] theorem seqL_ct (k : Env → Mu → OutS) : seqL (.ok (.ct ρ) m) k = k ρ m := rfl
@[simp] theorem seqL_br (k : Env → Mu → OutS) : seqL (.ok (.br ρ) m) k = .ok (.nx ρ) m := rfl
@[simp] theorem seqL_rt (r : R) (k : Env → Mu → OutS) : seqL (.ok (.rt r) m) k = .ok (.rt r) m := rfl
@[simp] theorem seqL_ex (x : Xn) (k : Env → Mu → OutS) : seqL (.ex x ρ m) k = .ex x ρ m := rfl
@[simp] theorem seqL_st (k : Env → Mu → OutS) : seqL .st k = .st := rfl
@[simp] theorem for_nil (tg : Tg) (body : Env → Mu → OutS) : forS tg body [] ρ m = .ok (.nx ρ) m := rfl
theorem for_cons (tg : Tg) (body : Env → Mu → OutS) (d : D) (ds : List D) : forS tg body (d :: ds) ρ m = opS (bindT tg d ρ) fun ρ1 => seqL (body ρ1 m) (forS tg body ds) := by
  rw [forS]
  cases bindT tg d ρ with
  | none => rfl
  | some ρ1 =>
    show _ = seqL (body ρ1 m) (forS tg body ds)
    simp only []
    cases body ρ1 m with
    | ok f m => cases f <;> rfl
    | ex _ _ _ => rfl
    | st => rfl
def nrm (r : R) : R := match r.t with | .f => ⟨.v, r.d⟩ | _ => r
@[simp] theorem nrm_v (d : D) : nrm ⟨.v, d⟩ = ⟨.v, d⟩ := rfl
@[simp] theorem nrm_f (d : D) : nrm ⟨.f, d⟩ = ⟨.v, d⟩ := rfl
@[simp] theorem nrm_p (d : D) : nrm ⟨.p, d⟩ = ⟨.p, d⟩ := rfl
theorem nrm_keep (r : R) : (nrm r).keep = r.keep := by
  obtain ⟨t, d⟩ := r
  cases t <;> cases d <;> rfl
theorem nrm_d (r : R) : (nrm r).d = r.d := by
  obtain ⟨t, d⟩ := r
  cases t <;> rfl
theorem bindA_nrm : ∀ (bs : List Bool) (rs : List R), bindA bs (rs.map nrm) = bindA bs rs
  | [], [] => rfl
  | [], _ :: _ => rfl
  | _ :: _, [] => rfl
  | b :: bs, r :: rs => by
    show (if b && (nrm r).isCont then some (Sl.bor (nrm r).d) else (nrm r).keep.map Sl.val).bind (fun s => (bindA bs (rs.map nrm)).map (s :: ·)) = (if b && r.isCont then some (Sl.bor r.d) else r.keep.map Sl.val).bind fun s => (bindA bs rs).map (s :: ·)
    have e : (nrm r).isCont = r.isCont := by unfold R.isCont; rw [nrm_d]
    rw [nrm_keep, nrm_d, bindA_nrm bs rs, e]
theorem call_nrm {T : Tb} (n f : Nat) (rs : List R) : callF T n f (rs.map nrm) = callF T n f rs := by
  cases n with
  | zero => rfl
  | succ n =>
    show (match T.fns[f]? with | some fn => runF ⟨callF T n, T.gl, T.rp, T.wf⟩ fn (rs.map nrm) | none => M.stuck) = (match T.fns[f]? with | some fn => runF ⟨callF T n, T.gl, T.rp, T.wf⟩ fn rs | none => M.stuck)
    cases T.fns[f]? with
    | none => rfl
    | some fn =>
      funext m
      simp only [runF, bindA_nrm]
@[simp] theorem E_call {T : Tb} {n : Nat} {gl : List D} {rp : D → Option Sg} {wf : Nat} (f : Nat) (es : CEs) : evE ⟨callF T n, gl, rp, wf⟩ (.call f es) ρ m = (evEs ⟨callF T n, gl, rp, wf⟩ es ρ m).bnd fun rs m => callF T n f (rs.map nrm) m := by
  rw [E_call0]; simp only [call_nrm]
/-- a def's end -/
def finF (o : OutS) : Out R := match o with | .ok (.nx _) m => .ok ⟨.v, .non⟩ m | .ok (.rt r) m => .ok r m | .ok _ _ => .st | .ex x _ m => .ex x m | .st => .st
@[simp] theorem finF_nx : finF (.ok (.nx ρ) m) = .ok ⟨.v, .non⟩ m := rfl
@[simp] theorem finF_rt (r : R) : finF (.ok (.rt r) m) = .ok r m := rfl
@[simp] theorem finF_ex (x : Xn) : finF (.ex x ρ m) = .ex x m := rfl
@[simp] theorem finF_st : finF .st = .st := rfl
theorem call_eq {T : Tb} {f n : Nat} {fn : Fn} (h : T.fns[f]? = some fn) (args : List R) : callF T (n + 1) f args m = opo (bindA fn.modes args) fun ρ => finF (exSs ⟨callF T n, T.gl, T.rp, T.wf⟩ fn.body (ρ ++ List.replicate (fn.ns - ρ.length) .un) m) := by
  rw [callF_at n h]
  unfold runF
  cases bindA fn.modes args with
  | none => rfl
  | some ρ =>
    show _ = finF (exSs ⟨callF T n, T.gl, T.rp, T.wf⟩ fn.body (ρ ++ List.replicate (fn.ns - ρ.length) .un) m)
    simp only []
    cases exSs ⟨callF T n, T.gl, T.rp, T.wf⟩ fn.body (ρ ++ List.replicate (fn.ns - ρ.length) .un) m with
    | ok f m => cases f <;> rfl
    | ex _ _ _ => rfl
    | st => rfl
end
end Dn.Q

/-! DnU -/
set_option Elab.async false
set_option linter.all false
set_option maxRecDepth 100000
set_option maxHeartbeats 1000000
/-! DnU: operations on data, by equations. -/
namespace Dn.Q
@[simp] theorem rd_val (d : D) : Sl.read (.val d) = some ⟨.v, d⟩ := rfl
@[simp] theorem rd_own (d : D) : Sl.read (.own d) = some ⟨.p, d⟩ := rfl
@[simp] theorem rd_bor (d : D) : Sl.read (.bor d) = some ⟨.p, d⟩ := rfl
@[simp] theorem rd_un : Sl.read .un = none := rfl
@[simp] theorem lo_v (d : D) : R.lo ⟨.v, d⟩ = ⟨.v, d⟩ := by cases d <;> rfl
@[simp] theorem lo_f (d : D) : R.lo ⟨.f, d⟩ = ⟨.v, d⟩ := by cases d <;> rfl
@[simp] theorem lo_plst (d : List D) : R.lo ⟨.p, .lst d⟩ = ⟨.p, .lst d⟩ := rfl
@[simp] theorem kp_int (t : Tag) (i : Int) : R.keep ⟨t, .int i⟩ = some (.int i) := by cases t <;> rfl
@[simp] theorem kp_str (t : Tag) (i : Sg) : R.keep ⟨t, .str i⟩ = some (.str i) := by cases t <;> rfl
@[simp] theorem kp_bl (t : Tag) (i : Bool) : R.keep ⟨t, .bl i⟩ = some (.bl i) := by cases t <;> rfl
@[simp] theorem kp_tup (t : Tag) (i : List D) : R.keep ⟨t, .tup i⟩ = some (.tup i) := by cases t <;> rfl
@[simp] theorem bindT_nm (i : Nat) (d : D) (ρ : Env) : bindT (.nm i) d ρ = some (ρ.set i (.val d)) := rfl
@[simp] theorem bindT_tp (is : List Nat) (ds : List D) (ρ : Env) : bindT (.tp is) (.tup ds) ρ = setAll is ds ρ := rfl
@[simp] theorem setAll_nil (ρ : Env) : setAll [] [] ρ = some ρ := rfl
@[simp] theorem setAll_cons (i : Nat) (is : List Nat) (d : D) (ds : List D) (ρ : Env) : setAll (i :: is) (d :: ds) ρ = setAll is ds (ρ.set i (.val d)) := rfl
@[simp] theorem wipe_nil (ρ : Env) : wipeE ρ [] = ρ := rfl
@[simp] theorem wipe_cons (ρ : Env) (i : Nat) (is : List Nat) : wipeE ρ (i :: is) = (wipeE ρ is).set i .un := rfl
@[simp] theorem hide_nil : hideO [] = [] := rfl
def hdS (s : Sl) : Sl := match s with | .own _ => .un | .grp _ => .un | s => s
@[simp] theorem hide_cons (s : Sl) (ρ : Env) : hideO (s :: ρ) = hdS s :: hideO ρ := rfl
@[simp] theorem hd_un : hdS .un = .un := rfl
@[simp] theorem hd_val (d : D) : hdS (.val d) = .val d := rfl
@[simp] theorem hd_bor (d : D) : hdS (.bor d) = .bor d := rfl
@[simp] theorem hd_own (d : D) : hdS (.own d) = .un := rfl
@[simp] theorem keepAll_nil : keepAll [] = some [] := rfl
@[simp] theorem keepAll_cons (r : R) (rs : List R) : keepAll (r :: rs) = r.keep.bind fun d => (keepAll rs).map (d :: ·) := rfl
@[simp] theorem slot_f (r : R) : slotOf false r = r.keep.map Sl.val := rfl
@[simp] theorem slot_t (d : D) : slotOf true ⟨.f, d⟩ = some (.own d) := rfl
@[simp] theorem setSl_nil (ρ : Env) : setSl [] [] ρ = some ρ := rfl
@[simp] theorem setSl_cons (i : Nat) (is : List Nat) (d : Sl) (ds : List Sl) (ρ : Env) : setSl (i :: is) (d :: ds) ρ = setSl is ds (ρ.set i d) := rfl
@[simp] theorem tr_bl (b : Bool) : D.truth (.bl b) = some b := rfl
@[simp] theorem tr_non : D.truth .non = some false := rfl
@[simp] theorem tr_int (i : Int) : D.truth (.int i) = some (i != 0) := rfl
@[simp] theorem tr_str (i : Sg) : D.truth (.str i) = some (i != []) := rfl
@[simp] theorem tr_tup (i : List D) : D.truth (.tup i) = some (!i.isEmpty) := rfl
@[simp] theorem tr_lst (i : List D) : D.truth (.lst i) = some (!i.isEmpty) := rfl
@[simp] theorem it_str (s : Sg) : D.items (.str s) = some (s.map fun c => .str [c]) := rfl
@[simp] theorem it_tup (s : List D) : D.items (.tup s) = some s := rfl
@[simp] theorem it_lst (s : List D) : D.items (.lst s) = some s := rfl
@[simp] theorem ln_str (s : Sg) : D.len (.str s) = some s.length := rfl
@[simp] theorem ln_tup (s : List D) : D.len (.tup s) = some s.length := rfl
@[simp] theorem ln_lst (s : List D) : D.len (.lst s) = some s.length := rfl
@[simp] theorem int_q (s : Int) : D.int? (.int s) = some s := rfl
@[simp] theorem str_q (s : Sg) : D.str? (.str s) = some s := rfl
@[simp] theorem lst_q (s : List D) : D.lst? (.lst s) = some s := rfl
@[simp] theorem chr_q (s : Nat) : D.chr? (.str [s]) = some s := rfl
@[simp] theorem bindA_nil : bindA [] [] = some [] := rfl
@[simp] theorem bindA_f (bs : List Bool) (r : R) (rs : List R) : bindA (false :: bs) (r :: rs) = (r.keep.map Sl.val).bind fun s => (bindA bs rs).map (s :: ·) := rfl
@[simp] theorem bindA_t (bs : List Bool) (r : R) (rs : List R) : bindA (true :: bs) (r :: rs) = (if r.isCont then some (Sl.bor r.d) else r.keep.map Sl.val).bind fun s => (bindA bs rs).map (s :: ·) := rfl
@[simp] theorem frz_own (d : D) : frzS (.own d) = some (.val d) := rfl
@[simp] theorem frz_val (d : D) : frzS (.val d) = some (.val d) := rfl
@[simp] theorem atN_nat (n k : Nat) : atN n (k : Int) = if k < n then some k else none := by
  unfold atN; simp
@[simp] theorem ixS_tup (m : Mu) (ds : List D) (d : D) : ixS m (.tup ds) d = idxD (.tup ds) d := rfl
@[simp] theorem ixS_lst (m : Mu) (ds : List D) (d : D) : ixS m (.lst ds) d = idxD (.lst ds) d := rfl
@[simp] theorem ixS_str (m : Mu) (ds : Sg) (d : D) : ixS m (.str ds) d = idxD (.str ds) d := rfl
theorem ix_nat {α : Type} (ds : List α) (k : Nat) : (if k < ds.length then some k else none).bind (ds[·]?) = ds[k]? := by
  by_cases h : k < ds.length <;> simp [h]
theorem ix_atN {α : Type} (ds : List α) (i : Int) : (atN ds.length i).bind (ds[·]?) = if 0 ≤ i then ds[i.toNat]? else if -(ds.length : Int) ≤ i then ds[(i + ds.length).toNat]? else none := by
  unfold atN
  split
  · split
    · rfl
    · simp; omega
  · split <;> rfl
@[simp] theorem idx_t (ds : List D) (i : Int) : idxD (.tup ds) (.int i) = if 0 ≤ i then ds[i.toNat]? else if -(ds.length : Int) ≤ i then ds[(i + ds.length).toNat]? else none := ix_atN ds i
@[simp] theorem idx_l (ds : List D) (i : Int) : idxD (.lst ds) (.int i) = if 0 ≤ i then ds[i.toNat]? else if -(ds.length : Int) ≤ i then ds[(i + ds.length).toNat]? else none := ix_atN ds i
/-! comparisons -/
theorem pure_map {α : Type} {enc : α → D} (h : ∀ a, (enc a).pure = true) : ∀ xs : List α, pureAll (xs.map enc) = true
  | [] => rfl
  | x :: r => by show ((enc x).pure && pureAll (r.map enc)) = true; rw [h x, pure_map h r]; rfl
theorem depth_map {α : Type} {enc : α → D} {k : Nat} (h : ∀ a, (enc a).depth ≤ k) : ∀ xs : List α, depthAll (xs.map enc) ≤ k
  | [] => Nat.zero_le _
  | x :: r => by show Nat.max (enc x).depth (depthAll (r.map enc)) ≤ k; exact Nat.max_le.mpr ⟨h x, depth_map h r⟩
/-- data of a kind that can be compared, and are compared as in Lean -/
class EqEnc {α : Type} [BEq α] (enc : α → D) : Prop where
  pu : ∀ a, (enc a).pure = true
  de : ∀ a, (enc a).depth ≤ 50
  eq : ∀ a b, eqD (enc a) (enc b) = (a == b)
instance : EqEnc D.int := ⟨fun _ => rfl, fun _ => Nat.zero_le _, fun _ _ => rfl⟩
instance : EqEnc D.str := ⟨fun _ => rfl, fun _ => Nat.zero_le _, fun _ _ => rfl⟩
instance : EqEnc D.bl := ⟨fun _ => rfl, fun _ => Nat.zero_le _, fun _ _ => rfl⟩
theorem eqDs_map {α : Type} [BEq α] {enc : α → D} [h : EqEnc enc] : ∀ xs ys : List α, eqDs (xs.map enc) (ys.map enc) = (xs == ys)
  | [], [] => rfl
  | [], _ :: _ => rfl
  | _ :: _, [] => rfl
  | x :: r, y :: s => by
    show (eqD (enc x) (enc y) && eqDs (r.map enc) (s.map enc)) = _
    rw [h.eq, eqDs_map r s]; rfl
section
variable {α : Type} [BEq α] {enc : α → D} [h : EqEnc enc]
theorem eqOk_lst (xs : List α) : (D.lst (xs.map enc)).eqOk = true := by
  show (pureAll (xs.map enc) && decide (depthAll (xs.map enc) + 1 ≤ 60)) = true
  rw [pure_map h.pu, decide_eq_true]; rfl
  have := depth_map h.de xs; omega
theorem eqOk_tup (xs : List α) : (D.tup (xs.map enc)).eqOk = true := eqOk_lst xs
theorem eqOk_enc (a : α) : (enc a).eqOk = true := by
  show ((enc a).pure && decide ((enc a).depth ≤ 60)) = true
  rw [h.pu, decide_eq_true]; rfl
  have := h.de a; omega
@[simp] theorem eq_lst (xs ys : List α) : cmpD .eq (.lst (xs.map enc)) (.lst (ys.map enc)) = some (xs == ys) := by
  show (if (D.lst (xs.map enc)).eqOk && (D.lst (ys.map enc)).eqOk then some (eqDs (xs.map enc) (ys.map enc)) else eq0 _ _) = _
  rw [eqOk_lst, eqOk_lst, eqDs_map]; rfl
@[simp] theorem ne_lst (xs ys : List α) : cmpD .ne (.lst (xs.map enc)) (.lst (ys.map enc)) = some (!(xs == ys)) := by
  show (if (D.lst (xs.map enc)).eqOk && (D.lst (ys.map enc)).eqOk then some (!eqDs (xs.map enc) (ys.map enc)) else none) = _
  rw [eqOk_lst, eqOk_lst, eqDs_map]; rfl
@[simp] theorem isin_lst (x : α) (ys : List α) : inD (enc x) (.lst (ys.map enc)) = some (ys.any (x == ·)) := by
  show (if (enc x).eqOk && (ys.map enc).all D.eqOk then some (memD (enc x) (ys.map enc)) else none) = _
  have e1 : (ys.map enc).all D.eqOk = true := by
    rw [List.all_map, List.all_eq_true]
    exact fun x _ => eqOk_enc x
  have e2 : memD (enc x) (ys.map enc) = ys.any (x == ·) := by
    unfold memD
    rw [List.any_map]
    exact congrArg ys.any (funext fun y => h.eq x y)
  rw [eqOk_enc, e1, e2]; rfl
@[simp] theorem isin_tup (x : α) (ys : List α) : inD (enc x) (.tup (ys.map enc)) = some (ys.any (x == ·)) := isin_lst x ys
theorem eqDs_nil (xs : List α) : eqDs (xs.map enc) [] = xs.isEmpty := by cases xs <;> rfl
@[simp] theorem eq_lst0 (xs : List α) : cmpD .eq (.lst (xs.map enc)) (.lst []) = some xs.isEmpty := by
  show (if (D.lst (xs.map enc)).eqOk && (D.lst []).eqOk then some (eqDs (xs.map enc) []) else eq0 _ _) = _
  rw [eqOk_lst, eqDs_nil]; rfl
end
theorem cmp_eq {a b : D} (h1 : a.eqOk = true) (h2 : b.eqOk = true) : cmpD .eq a b = some (eqD a b) := by
  show (if a.eqOk && b.eqOk then some (eqD a b) else eq0 _ _) = _
  rw [h1, h2]; rfl
theorem cmp_ne {a b : D} (h1 : a.eqOk = true) (h2 : b.eqOk = true) : cmpD .ne a b = some (!eqD a b) := by
  show (if a.eqOk && b.eqOk then some (!eqD a b) else none) = _
  rw [h1, h2]; rfl
@[simp] theorem eq_tup0 (xs : List D) : cmpD .eq (.tup xs) (.tup []) = some xs.isEmpty := by
  show (if (D.tup xs).eqOk && (D.tup []).eqOk then some (eqDs xs []) else eq0 _ _) = _
  cases xs <;> split <;> rfl
@[simp] theorem eq_int (a b : Int) : cmpD .eq (.int a) (.int b) = some (a == b) := rfl
@[simp] theorem ne_int (a b : Int) : cmpD .ne (.int a) (.int b) = some (!(a == b)) := rfl
@[simp] theorem eq_str (a b : Sg) : cmpD .eq (.str a) (.str b) = some (a == b) := rfl
@[simp] theorem ne_str (a b : Sg) : cmpD .ne (.str a) (.str b) = some (!(a == b)) := rfl
@[simp] theorem lt_int (a b : Int) : cmpD .lt (.int a) (.int b) = some (decide (a < b)) := rfl
@[simp] theorem le_int (a b : Int) : cmpD .le (.int a) (.int b) = some (decide (a ≤ b)) := rfl
@[simp] theorem gt_int (a b : Int) : cmpD .gt (.int a) (.int b) = some (decide (b < a)) := rfl
@[simp] theorem ge_int (a b : Int) : cmpD .ge (.int a) (.int b) = some (decide (b ≤ a)) := rfl
/-! built-ins -/
section
variable (rp : D → Option Sg)
@[simp] theorem b1_len (d : D) : b1D rp .len d = d.len.map fun n => ⟨.v, .int (n : Nat)⟩ := rfl
@[simp] theorem b1_all (bs : List D) : b1D rp .all (.lst bs) = (bools? bs).map fun bs => ⟨.v, .bl (bs.all id)⟩ := rfl
@[simp] theorem b1_any (bs : List D) : b1D rp .any (.lst bs) = (bools? bs).map fun bs => ⟨.v, .bl (bs.any id)⟩ := rfl
@[simp] theorem bools_map {α : Type} (f : α → Bool) : ∀ ds : List α, bools? (ds.map fun d => D.bl (f d)) = some (ds.map f)
  | [] => rfl
  | a :: r => by
    show (bools? (r.map fun d => D.bl (f d))).map _ = _
    rw [bools_map f r]; rfl
@[simp] theorem b1_tup_t (d : List D) : b1D rp .tuple (.tup d) = some ⟨.v, .tup d⟩ := rfl
@[simp] theorem b1_tup_l (d : List D) : b1D rp .tuple (.lst d) = some ⟨.v, .tup d⟩ := rfl
@[simp] theorem b1_int_i (d : Int) : b1D rp .int (.int d) = some ⟨.v, .int d⟩ := rfl
@[simp] theorem b1_int_b (d : Bool) : b1D rp .int (.bl d) = some ⟨.v, .int (b2i d)⟩ := rfl
@[simp] theorem b1_repr (d : D) : b1D rp .repr d = (rp d).bind fun s => if s.length ≤ big then some ⟨.v, .str s⟩ else none := rfl
@[simp] theorem b1_sum (d : List D) : b1D rp .sum (.lst d) = (ints? d).map fun ns => ⟨.v, .int ns.sum⟩ := rfl
@[simp] theorem b1_sorted (d : D) : b1D rp .sorted d = (sortedD d).map fun r => ⟨.f, .lst r⟩ := rfl
@[simp] theorem b1_lenset (a : D) : b1D rp .lenset a = lensetD a := rfl
@[simp] theorem b1_sortset (a : D) : b1D rp .sortset a = a.strsI.bind fun ss => if ss.length < 4000 then some ⟨.f, .lst ((sortS (dedupS ss)).map .str)⟩ else none := rfl
end
@[simp] theorem lens_str (s : Sg) : lensetD (.str s) = if (s.map fun c => [c]).length < 4000 then some ⟨.v, .int (dedupS (s.map fun c => [c])).length⟩ else none := rfl
@[simp] theorem bn_addi (i j : Int) : binD .add (.int i) (.int j) = some (.int (i + j)) := rfl
@[simp] theorem bn_subi (i j : Int) : binD .sub (.int i) (.int j) = some (.int (i - j)) := rfl
@[simp] theorem bn_adds (x y : Sg) : binD .add (.str x) (.str y) = if x.length + y.length ≤ big then some (.str (x ++ y)) else none := rfl
@[simp] theorem bn_addt (x y : List D) : binD .add (.tup x) (.tup y) = if x.length + y.length ≤ big then some (.tup (x ++ y)) else none := rfl
@[simp] theorem bn_addl (x y : List D) : binD .add (.lst x) (.lst y) = if x.length + y.length ≤ big then some (.lst (x ++ y)) else none := rfl
@[simp] theorem bn_muli (i j : Int) : binD .mul (.int i) (.int j) = if i.natAbs.log2 + j.natAbs.log2 < 1000000 then some (.int (i * j)) else none := rfl
@[simp] theorem bn_mull (x : List D) (j : Int) : binD .mul (.lst x) (.int j) = if x.length ≤ 1000 ∧ -1000 ≤ j ∧ j ≤ 1000 then some (.lst (rep j.toNat x)) else none := by
  show (if repOk x.length j then some (D.lst (rep j.toNat x)) else none) = _
  unfold repOk
  simp only [dec_tr]
@[simp] theorem bn_mult (x : List D) (j : Int) : binD .mul (.tup x) (.int j) = if x.length ≤ 1000 ∧ -1000 ≤ j ∧ j ≤ 1000 ∧ (x = [] ∨ 1 ≤ j) then some (.tup (rep j.toNat x)) else none := by
  show (if repOk x.length j && (x.isEmpty || decide (1 ≤ j)) then some (D.tup (rep j.toNat x)) else none) = _
  congr 1
  unfold repOk
  cases x <;> simp <;> omega
@[simp] theorem bn_mod (i j : Int) : binD .mod (.int i) (.int j) = if 0 < j then some (.int (i % j)) else none := rfl
@[simp] theorem bn_fdiv (i j : Int) : binD .fdiv (.int i) (.int j) = if 0 < j ∧ j.natAbs.log2 < 9000 then some (.int (i / j)) else none := rfl
@[simp] theorem bn_pow (i j : Int) : binD .pow (.int i) (.int j) = if 0 ≤ j ∧ j ≤ 1000000 ∧ i.natAbs < 2 ^ 64 then some (.int (i ^ j.toNat)) else none := rfl
@[simp] theorem ag_addi (i j : Int) : augD .add (.int i) (.int j) = some (.int (i + j)) := rfl
@[simp] theorem ag_subi (i j : Int) : augD .sub (.int i) (.int j) = some (.int (i - j)) := rfl
@[simp] theorem ag_adds (x y : Sg) : augD .add (.str x) (.str y) = if x.length + y.length ≤ big then some (.str (x ++ y)) else none := rfl
@[simp] theorem sl_t (ds : List D) (lo hi : Option Int) : sliceD (.tup ds) lo hi = some (.tup (sliL ds lo hi)) := rfl
@[simp] theorem sl_l (ds : List D) (lo hi : Option Int) : sliceD (.lst ds) lo hi = some (.lst (sliL ds lo hi)) := rfl
@[simp] theorem sl_s (ds : Sg) (lo hi : Option Int) : sliceD (.str ds) lo hi = some (.str (sliL ds lo hi)) := rfl
@[simp] theorem rv_t (ds : List D) : revD (.tup ds) = some (.tup ds.reverse) := rfl
@[simp] theorem rv_s (ds : Sg) : revD (.str ds) = some (.str ds.reverse) := rfl
@[simp] theorem rv_l (ds : List D) : revD (.lst ds) = some (.lst ds.reverse) := rfl
@[simp] theorem cp_is_non (a : D) : cmpD .is a .non = isD a .non := rfl
@[simp] theorem cp_isnot (a b : D) : cmpD .isnot a b = (isD a b).map (!·) := rfl
@[simp] theorem is_nn : isD .non .non = some true := rfl
@[simp] theorem is_in (i : Int) : isD (.int i) .non = some false := rfl
@[simp] theorem is_sn (i : Sg) : isD (.str i) .non = some false := rfl
@[simp] theorem is_bn (i : Bool) : isD (.bl i) .non = some false := rfl
@[simp] theorem is_tn (i : List D) : isD (.tup i) .non = some false := rfl
@[simp] theorem is_ln (i : List D) : isD (.lst i) .non = some false := rfl
@[simp] theorem is_bb (i j : Bool) : isD (.bl i) (.bl j) = some (i == j) := rfl
@[simp] theorem cp_in (a b : D) : cmpD .isin a b = inD a b := rfl
@[simp] theorem cp_notin (a b : D) : cmpD .notin a b = (inD a b).map (!·) := rfl
@[simp] theorem in_str (c : Nat) (y : Sg) : inD (.str [c]) (.str y) = some (decide (c ∈ y)) := by
  show some (y.contains c) = _
  rw [List.contains_eq_mem]
@[simp] theorem ins_eq (ds : List D) (i : Int) (d : D) : insD? ds (.int i) d = if ds.length < big ∧ 0 ≤ i ∧ i < 1000000 then some (.lst (ds.take i.toNat ++ [d] ++ ds.drop i.toNat)) else none := rfl
@[simp] theorem putL_eq (ds : List D) (i : Int) (d : D) : putL ds (.int i) d = (atN ds.length i).map fun j => .lst (ds.set j d) := rfl
@[simp] theorem ownL_eqv (ρ : Env) (i : Nat) : ownL ρ i = (ρ[i]?).bind ownOf := by
  unfold ownL
  rcases h : ρ[i]? with _ | s
  · rfl
  · cases s with
    | own d => cases d <;> rfl
    | _ => rfl
/-- the way a round goes on -/
def Rd (P : OutS → Prop) (J : Env → Mu → Prop) (o : OutS) : Prop := match o with | .ok (.nx ρ) m => J ρ m | .ok (.ct ρ) m => J ρ m | .ok (.br ρ) m => P (.ok (.nx ρ) m) | .ok (.rt r) m => P (.ok (.rt r) m) | .ex x ρ m => P (.ex x ρ m) | .st => False
section
variable {P : OutS → Prop} {J : Env → Mu → Prop} {ρ : Env} {m : Mu}
@[simp] theorem Rd_nx : Rd P J (.ok (.nx ρ) m) ↔ J ρ m := Iff.rfl
@[simp] theorem Rd_ct : Rd P J (.ok (.ct ρ) m) ↔ J ρ m := Iff.rfl
@[simp] theorem Rd_br : Rd P J (.ok (.br ρ) m) ↔ P (.ok (.nx ρ) m) := Iff.rfl
@[simp] theorem Rd_rt {r : R} : Rd P J (.ok (.rt r) m) ↔ P (.ok (.rt r) m) := Iff.rfl
@[simp] theorem Rd_ex {x : Xn} : Rd P J (.ex x ρ m) ↔ P (.ex x ρ m) := Iff.rfl
end
/-- a for -/
theorem for_rule {α : Type} {enc : α → D} {tg : Tg} {body : Env → Mu → OutS} {P : OutS → Prop} (J : List α → Env → Mu → Prop) : ∀ (xs : List α) (ρ : Env) (m : Mu), J xs ρ m →
    (∀ x r ρ m, J (x :: r) ρ m → Rd P (J r) (opS (bindT tg (enc x) ρ) fun ρ1 => body ρ1 m)) → (∀ ρ m, J [] ρ m → P (.ok (.nx ρ) m)) → P (forS tg body (xs.map enc) ρ m)
  | [], ρ, m, j, _, e => e ρ m j
  | x :: r, ρ, m, j, h, e => by
    have k := h x r ρ m j
    rw [List.map_cons, for_cons]
    cases e1 : bindT tg (enc x) ρ with
    | none => rw [e1] at k; exact k.elim
    | some ρ1 =>
      rw [e1, opS_some] at k
      rw [opS_some]
      cases e2 : body ρ1 m with
      | ok f m2 =>
        rw [e2] at k
        cases f with
        | nx ρ2 => exact for_rule J r ρ2 m2 k h e
        | ct ρ2 => exact for_rule J r ρ2 m2 k h e
        | br ρ2 => exact k
        | rt r => exact k
      | ex _ _ _ => rw [e2] at k; exact k
      | st => rw [e2] at k; exact k.elim
theorem for_ruleD {tg : Tg} {body : Env → Mu → OutS} {P : OutS → Prop} (J : List D → Env → Mu → Prop) (xs : List D) (ρ : Env) (m : Mu) (j : J xs ρ m)
    (h : ∀ x r ρ m, J (x :: r) ρ m → Rd P (J r) (opS (bindT tg x ρ) fun ρ1 => body ρ1 m)) (e : ∀ ρ m, J [] ρ m → P (.ok (.nx ρ) m)) : P (forS tg body xs ρ m) := by
  have := for_rule (enc := id) (tg := tg) (body := body) (P := P) J xs ρ m j h e
  rwa [List.map_id] at this
/-- a comprehension that may change the store -/
theorem compR_inv {α : Type} {enc : α → D} {f : D → Mu → Out (Option D)} {I : Nat → Mu → Prop} {Q : D → Prop} (c : Nat) : ∀ (xs : List α) (b : Nat) (m : Mu), I b m →
    (∀ x ∈ xs, ∀ b' m', b' + c ≤ b + xs.length * c → I b' m' → Ok (f (enc x) m') fun y m2 => I (b' + c) m2 ∧ ∀ d, y = some d → Q d) →
    Ok (compR f (xs.map enc) m) fun ys m2 => I (b + xs.length * c) m2 ∧ (∀ d ∈ ys, Q d) ∧ ys.length ≤ xs.length
  | [], b, m, i, _ => by
    show I (b + 0 * c) m ∧ _
    rw [Nat.zero_mul]
    exact ⟨i, fun d h => (nomatch h), Nat.le_refl _⟩
  | x :: r, b, m, i, h => by
    have e : b + c + r.length * c = b + (x :: r).length * c := by rw [List.length_cons, Nat.succ_mul]; omega
    show Ok ((M.noex (f (enc x)) m).bnd fun y m1 => (compR f (r.map enc) m1).bnd fun ys m2 => .ok (match y with | some y => y :: ys | none => ys) m2) _
    rw [Ok_bnd, Ok_noex]
    refine (h x (by simp) b m (by rw [← e]; omega) i).mono fun y m1 ⟨i1, q1⟩ => ?_
    rw [Ok_bnd]
    refine (compR_inv c r (b + c) m1 i1 fun x' hx b' m' hb i' => h x' (by simp [hx]) b' m' (by rw [← e]; exact hb) i').mono fun ys m2 ⟨i2, q2, l2⟩ => ?_
    rw [e] at i2
    rw [Ok_ok]
    refine ⟨i2, ?_, ?_⟩
    · cases y with
      | none => exact q2
      | some y =>
        intro d hd
        rcases List.mem_cons.mp hd with rfl | hd
        · exact q1 _ rfl
        · exact q2 d hd
    · cases y <;> simp <;> omega
end Dn.Q

/-! DnP -/
set_option Elab.async false
set_option linter.all false
set_option maxRecDepth 100000
set_option maxHeartbeats 1000000
/-! DnP: repr is told of small data. -/
namespace Dn.Q
open PySem
mutual
def bulkD : D → Nat
  | .str s => s.length
  | .tup ds => bulkDs ds
  | .lst ds => bulkDs ds
  | _ => 0
def bulkDs : List D → Nat
  | [] => 0
  | d :: ds => bulkD d + 1 + bulkDs ds
end
mutual
theorem bulk_eq : ∀ d : D, (toQ d).bulk = bulkD d
  | .str s => by simp [toQ, PyData.bulk, bulkD, S]
  | .tup ds => bulks_eq ds
  | .lst ds => bulks_eq ds
  | .non => rfl
  | .bl _ => rfl
  | .int _ => rfl
  | .dic _ _ => rfl
  | .ref _ => rfl
  | .scr _ => rfl
theorem bulks_eq : ∀ ds : List D, PyData.bulkAll (toQs ds) = bulkDs ds
  | [] => rfl
  | d :: ds => by
    show (toQ d).bulk + 1 + PyData.bulkAll (toQs ds) = bulkD d + 1 + bulkDs ds
    rw [bulk_eq d, bulks_eq ds]
end
mutual
theorem leaves_sh : ∀ d : D, shB d = true → (toQ d).leavesShort 1922 = true
  | .str s, h => by
    have h : s.all asc = true := h
    show ((S s).cps.toList.all fun c => decide (c < 16 ^ 8)) = true
    rw [List.all_eq_true] at h ⊢
    intro c hc
    have h2 := h c (by simpa [S] using hc)
    simp only [asc, Bool.and_eq_true, decide_eq_true_eq] at h2
    have e : (16 : Nat) ^ 8 = 4294967296 := by decide
    rw [decide_eq_true_eq]; omega
  | .tup ds, h => leaves_shs ds h
  | .lst ds, h => leaves_shs ds h
  | .non, _ => rfl
  | .bl _, _ => rfl
  | .int i, h => by
    have h : decide (i.natAbs.log2 < 1920) = true := h
    rw [decide_eq_true_eq] at h
    show decide ((PyData.shown (.int i)).length ≤ 1922) = true
    rw [decide_eq_true_eq]
    simp only [PyData.shown]
    rw [PySem.ofString_length]
    have := PySem.int_text_length_le (k := 1920) (by decide) h
    omega
  | .dic _ _, _ => rfl
  | .ref _, _ => rfl
  | .scr _, _ => rfl
theorem leaves_shs : ∀ ds : List D, shB.shBs ds = true → PyData.leavesShortAll 1922 (toQs ds) = true
  | [], _ => rfl
  | d :: ds, h => by
    have h : (shB d && shB.shBs ds) = true := h
    rw [Bool.and_eq_true] at h
    show ((toQ d).leavesShort 1922 && PyData.leavesShortAll 1922 (toQs ds)) = true
    rw [leaves_sh d h.1, leaves_shs ds h.2]; rfl
end
theorem rp_some {d : D} (h : shB d = true) (hd : d.depth ≤ 60) (hw : bulkD d ≤ 8000) : ∃ s, rpD d = some s ∧ s.length ≤ big := by
  have hl : (toQ d).leavesShort 1922 = true := leaves_sh d h
  have hs := PyData.shown_le_bulk 1922 (by decide) (toQ d) hl
  rw [bulk_eq] at hs
  have hs2 : (toQ d).shown.length ≤ 16777216 := by omega
  refine ⟨(toQ d).shown.cps.toList, ?_, ?_⟩
  · unfold rpD
    rw [if_pos]
    rw [h, decide_eq_true hd, decide_eq_true hs2]; rfl
  · show (toQ d).shown.cps.toList.length ≤ 16777216
    rw [Array.length_toList]; exact hs2
theorem bulkDs_le {k : Nat} : ∀ {ds : List D}, (∀ d ∈ ds, bulkD d ≤ k) → bulkDs ds ≤ ds.length * (k + 1)
  | [], _ => Nat.zero_le _
  | d :: r, h => by
    have h1 := h d (by simp)
    have h2 := bulkDs_le (ds := r) fun x hx => h x (by simp [hx])
    show bulkD d + 1 + bulkDs r ≤ _
    rw [List.length_cons, Nat.succ_mul]; omega
theorem depthAll_le {k : Nat} : ∀ {ds : List D}, (∀ d ∈ ds, d.depth ≤ k) → depthAll ds ≤ k
  | [], _ => Nat.zero_le _
  | d :: r, h => Nat.max_le.mpr ⟨h d (by simp), depthAll_le fun x hx => h x (by simp [hx])⟩
theorem shBs_all : ∀ {ds : List D}, (∀ d ∈ ds, shB d = true) → shB.shBs ds = true
  | [], _ => rfl
  | d :: r, h => by
    show (shB d && shB.shBs r) = true
    rw [h d (by simp), shBs_all fun x hx => h x (by simp [hx])]; rfl
/-- small to repr -/
structure Sm (k e : Nat) (d : D) : Prop where
  sh : shB d = true
  bu : bulkD d ≤ k
  de : d.depth ≤ e
theorem Sm.le {k e k' e' : Nat} {d : D} (h : Sm k e d) (h1 : k ≤ k') (h2 : e ≤ e') : Sm k' e' d := ⟨h.sh, Nat.le_trans h.bu h1, Nat.le_trans h.de h2⟩
theorem Sm.tup {k e n : Nat} {ds : List D} (h : ∀ d ∈ ds, Sm k e d) (hn : ds.length ≤ n) : Sm (n * (k + 1)) (e + 1) (.tup ds) :=
  ⟨shBs_all fun d hd => (h d hd).sh, Nat.le_trans (bulkDs_le fun d hd => (h d hd).bu) (Nat.mul_le_mul_right _ hn), Nat.succ_le_succ (depthAll_le fun d hd => (h d hd).de)⟩
theorem Sm.lst {k e n : Nat} {ds : List D} (h : ∀ d ∈ ds, Sm k e d) (hn : ds.length ≤ n) : Sm (n * (k + 1)) (e + 1) (.lst ds) :=
  ⟨shBs_all fun d hd => (h d hd).sh, Nat.le_trans (bulkDs_le fun d hd => (h d hd).bu) (Nat.mul_le_mul_right _ hn), Nat.succ_le_succ (depthAll_le fun d hd => (h d hd).de)⟩
theorem Sm.str {s : Sg} (h : s.all asc = true) : Sm s.length 0 (.str s) := ⟨h, Nat.le_refl _, Nat.le_refl _⟩
theorem Sm.int {i : Int} (h : i.natAbs < 2 ^ 250) : Sm 0 0 (.int i) := ⟨by
  show decide (i.natAbs.log2 < 1920) = true
  rw [decide_eq_true_eq]
  exact Nat.lt_of_lt_of_le (log2_lt h (by decide)) (by decide), Nat.le_refl _, Nat.le_refl _⟩
theorem Sm.sch {cols : Sg} {rules : List (Sg × Nat)} {keys : List Sg} (so : SchOk cols rules keys) : Sm 300 3 (schD cols rules keys) := by
  have asc_of : ∀ s : Sg, (∀ c ∈ s, c ∈ cols) → s.all asc = true := fun s h => by
    rw [List.all_eq_true]
    intro c hc
    have := so.ch c (h c hc)
    simp only [asc, Bool.and_eq_true, decide_eq_true_eq]; omega
  have h5 := so.len
  refine (Sm.tup (n := 3) (k := 90) (e := 2) (fun d hd => ?_) (by simp)).le (by decide) (Nat.le_refl _)
  simp only [List.mem_cons, List.not_mem_nil, or_false] at hd
  rcases hd with rfl | rfl | rfl
  · exact (Sm.str (asc_of _ fun c h => h)).le (by omega) (by decide)
  · refine (Sm.tup (n := 8) (k := 10) (e := 1) (fun d hd => ?_) (by rw [List.length_map]; exact so.rlen)).le (by decide) (Nat.le_refl _)
    obtain ⟨p, hp, rfl⟩ := List.mem_map.mp hd
    obtain ⟨h1, h2⟩ := so.rl p hp
    have h3 := h1.length_le
    have s1 := Sm.str (asc_of p.1 fun c h => h1.subset h)
    have s2 := Sm.str (asc_of [p.2] fun c h => by rw [show c = p.2 by simpa using h]; exact h2)
    refine ⟨shBs_all fun d hd => ?_, ?_, Nat.le_refl 1⟩
    · simp only [List.mem_cons, List.not_mem_nil, or_false] at hd
      rcases hd with rfl | rfl
      · exact s1.sh
      · exact s2.sh
    · show p.1.length + 1 + (1 + 1 + 0) ≤ 10
      omega
  · refine (Sm.tup (n := 2) (k := 5) (e := 0) (fun d hd => ?_) (by rw [List.length_map]; exact so.klen)).le (by decide) (by decide)
    obtain ⟨k, hk, rfl⟩ := List.mem_map.mp hd
    obtain ⟨_, h2⟩ := so.ky k hk
    have := h2.length_le
    exact (Sm.str (asc_of k fun c h => h2.subset h)).le (by omega) (by decide)
theorem rp_sm {d : D} {k e : Nat} (h : Sm k e d) (hk : k ≤ 8000) (he : e ≤ 60) : ∃ s, rpD d = some s ∧ s.length ≤ big :=
  rp_some h.sh (Nat.le_trans h.de he) (Nat.le_trans h.bu hk)
end Dn.Q

/-! DnN -/
set_option Elab.async false
set_option linter.all false
set_option maxRecDepth 100000
set_option maxHeartbeats 1000000
/-! DnN: drawn reports. -/
namespace Dn
open Dn.Q
def F_mixed (tk : Nat) : Fn := ⟨[false, false], 5, (.cons (.set 2 false (.con (.str []))) (.cons (.for_ (.nm 3) (.val (.var 1)) (.cons (.set 4 false (.call tk (.cons (.var 0) (.cons (.bin .add (.b1 .len (.var 2)) (.con (.int 1))) .nil)))) (.cons (.set 2 false (.bin .add (.bin .add (.slice (.var 2) .none (.some (.var 4))) (.var 3)) (.slice (.var 2) (.some (.var 4)) .none))) .nil))) (.cons (.ret (.var 2)) .nil)))⟩
def F_step (tk sb mx : Nat) : Fn := ⟨[false, false, false, false], 6, (.cons (.set 4 false (.call tk (.cons (.var 0) (.cons (.con (.int 9)) .nil)))) (.cons (.ite (.and (.cmp .lt (.var 4) (.con (.int 4))) (.not (.var 2))) (.cons (.set 5 false (.call mx (.cons (.var 0) (.cons (.or (.call sb (.cons (.var 0) (.cons (.var 1) .nil))) (.slice (.var 1) .none (.some (.con (.int 1))))) .nil)))) (.cons (.ret (.tup (.cons (.idx (.lst (.cons (.con (.str [115, 111, 114, 116])) (.cons (.con (.str [115, 111, 114, 116])) (.cons (.con (.str [115, 111, 114, 116])) (.cons (.con (.str [115, 116, 97, 98, 108, 101])) .nil))))) (.var 4)) (.cons (.var 5) .nil)))) .nil)) .nil) (.cons (.ite (.and (.cmp .lt (.var 4) (.con (.int 6))) (.var 2)) (.cons (.ret (.tup (.cons (.idx (.lst (.cons (.con (.str [102, 105, 114, 115, 116])) (.cons (.con (.str [102, 105, 114, 115, 116])) (.cons (.con (.str [115, 107, 105, 112])) .nil)))) (.bin .mod (.var 4) (.con (.int 3)))) (.cons (.call tk (.cons (.var 0) (.cons (.idx (.lst (.cons (.var 3) (.cons (.var 3) (.cons (.var 3) (.cons (.con (.int 21)) .nil))))) (.call tk (.cons (.var 0) (.cons (.con (.int 4)) .nil)))) .nil))) .nil)))) .nil) .nil) (.cons (.ite (.cmp .eq (.var 4) (.con (.int 8))) (.cons (.ret (.tup (.cons (.con (.str [99, 111, 108, 117, 109, 110, 115])) (.cons (.or (.call sb (.cons (.var 0) (.cons (.var 1) .nil))) (.var 1)) .nil)))) .nil) .nil) (.cons (.ret (.tup (.cons (.con (.str [119, 104, 101, 114, 101])) (.cons (.idx (.var 1) (.call tk (.cons (.var 0) (.cons (.b1 .len (.var 1)) .nil)))) (.cons (.bin .sub (.call tk (.cons (.var 0) (.cons (.con (.int 3)) .nil))) (.idx (.lst (.cons (.con (.int 0)) (.cons (.con (.int 2)) (.cons (.con (.int 11)) (.cons (.neg (.con (.int 8))) (.cons (.neg (.con (.int 1000))) .nil)))))) (.call tk (.cons (.var 0) (.cons (.con (.int 5)) .nil))))) .nil))))) .nil)))))⟩
def F_report (tk sb st : Nat) : Fn := ⟨[false, false, false, false], 13, (.cons (.par [9, 10] [false, true] (.cons (.idx (.var 1) (.con (.int 0))) (.cons (.lst .nil) .nil))) (.cons (.set 4 false (.call tk (.cons (.var 0) (.cons (.bin .add (.var 2) (.con (.int 1))) .nil)))) (.cons (.for_ (.nm 5) (.rng (.call tk (.cons (.var 0) (.cons (.bin .add (.var 2) (.con (.int 1))) .nil)))) (.cons (.set 11 false (.call st (.cons (.var 0) (.cons (.var 9) (.cons (.cmp .ge (.var 5) (.var 4)) (.cons (.var 3) .nil)))))) (.cons (.set 9 false (.ife (.cmp .eq (.idx (.var 11) (.con (.int 0))) (.con (.str [99, 111, 108, 117, 109, 110, 115]))) (.idx (.var 11) (.con (.int 1))) (.var 9))) (.cons (.app 10 (.var 11)) .nil)))) (.cons (.set 6 false (.call tk (.cons (.var 0) (.cons (.con (.int 8)) .nil)))) (.cons (.set 7 false (.or (.call sb (.cons (.var 0) (.cons (.var 9) .nil))) (.idx (.var 9) (.neg (.con (.int 1)))))) (.cons (.set 8 false (.comp [12] (.nm 12) (.val (.var 9)) (.some (.cmp .notin (.var 12) (.var 7))) (.var 12))) (.cons (.ite (.cmp .eq (.var 6) (.con (.int 0))) (.cons (.app 10 (.tup (.cons (.con (.str [99, 111, 117, 110, 116])) (.cons (.var 7) .nil)))) .nil) (.cons (.ite (.and (.cmp .eq (.var 6) (.con (.int 1))) (.cmp .ne (.var 8) (.lst .nil))) (.cons (.app 10 (.tup (.cons (.con (.str [115, 117, 109])) (.cons (.var 7) (.cons (.idx (.var 8) (.call tk (.cons (.var 0) (.cons (.b1 .len (.var 8)) .nil)))) .nil))))) .nil) (.cons (.ite (.cmp .eq (.var 6) (.con (.int 2))) (.cons (.app 10 (.tup (.cons (.con (.str [104, 101, 97, 100, 115])) (.cons (.var 7) .nil)))) .nil) .nil) .nil)) .nil)) (.cons (.ret (.b1 .tuple (.var 10))) .nil))))))))⟩
inductive Stp where
  | sort (st : Bool) (x : Sg)
  | cut (sk : Bool) (k : Int)
  | cols (x : Sg)
  | whr (c : Nat) (v : Int)
inductive Grp where
  | count (g : Sg)
  | sum (g : Sg) (c : Nat)
  | heads (g : Sg)
def stpD : Stp → D
  | .sort st x => .tup [.str (if st then [115, 116, 97, 98, 108, 101] else [115, 111, 114, 116]), .str x]
  | .cut sk k => .tup [.str (if sk then [115, 107, 105, 112] else [102, 105, 114, 115, 116]), .int k]
  | .cols x => .tup [.str [99, 111, 108, 117, 109, 110, 115], .str x]
  | .whr c v => .tup [.str [119, 104, 101, 114, 101], .str [c], .int v]
def grpD : Grp → D
  | .count g => .tup [.str [99, 111, 117, 110, 116], .str g]
  | .sum g c => .tup [.str [115, 117, 109], .str g, .str [c]]
  | .heads g => .tup [.str [104, 101, 97, 100, 115], .str g]
def Stp.aft (kept : Sg) : Stp → Sg
  | .cols x => x
  | _ => kept
def Stp.isCut : Stp → Bool
  | .cut _ _ => true
  | _ => false
def StpOk (kept : Sg) (behind : Bool) (size : Int) : Stp → Prop
  | .sort _ x => behind = false ∧ x ≠ [] ∧ x.Nodup ∧ (∀ c ∈ x, c ∈ kept) ∧ x.length ≤ kept.length
  | .cut _ k => behind = true ∧ 0 ≤ k ∧ (k < size ∨ k < 21)
  | .cols x => x ≠ [] ∧ x.Sublist kept
  | .whr c v => c ∈ kept ∧ -11 ≤ v ∧ v ≤ 1002
def GrpOk (kept : Sg) : Grp → Prop
  | .count g => g ≠ [] ∧ g.Sublist kept
  | .sum g c => g ≠ [] ∧ g.Sublist kept ∧ c ∈ kept ∧ c ∉ g
  | .heads g => g ≠ [] ∧ g.Sublist kept
theorem sli_to {α : Type} (s : List α) {i : Int} (h0 : 0 ≤ i) (h1 : i ≤ s.length) : sliL s none (some i) = s.take i.toNat := by
  unfold sliL
  have : sliN s.length s.length (some i) = i.toNat := by
    show (if i < 0 then (i + s.length).toNat else min i.toNat s.length) = _
    rw [if_neg (by omega)]; omega
  rw [this]
  show (s.drop 0).take (i.toNat - 0) = _
  simp
theorem sli_from {α : Type} (s : List α) {i : Int} (h0 : 0 ≤ i) (h1 : i ≤ s.length) : sliL s (some i) none = s.drop i.toNat := by
  unfold sliL
  have : sliN s.length 0 (some i) = i.toNat := by
    show (if i < 0 then (i + s.length).toNat else min i.toNat s.length) = _
    rw [if_neg (by omega)]; omega
  rw [this]
  show (s.drop i.toNat).take (s.length - i.toNat) = _
  rw [List.take_of_length_le (by rw [List.length_drop]; omega)]
section
variable {T : Tb} {f tk sb sp mx st n : Nat}
theorem tkg (ht : T.fns[tk]? = some (F_take sp)) (hs : T.fns[sp]? = some F_spread) {b : Nat} {m : Mu} (hb : b < lim) (hp : Pen b m) (a : Int) (ha : 0 < a) (hl : a < 2 ^ 200) : ∃ (i : Int) (m' : Mu), callF T (n + 2) tk [⟨.v, .ref 0⟩, ⟨.v, .int a⟩] m = .ok ⟨.v, .int i⟩ m' ∧ Pen (b + 1) m' ∧ 0 ≤ i ∧ i < a := by
  obtain ⟨_, m', e, p, i, rfl, hi⟩ := (take_ok (n := n) ht hs hb hp a ha hl).eq
  exact ⟨i, m', e, p, by omega, hi⟩
def JM (s : Sg) (b : Nat) (r : List Nat) (ρ : Env) (m : Mu) : Prop := ∃ b' found x3 x4, ρ = [.val (.ref 0), .val (.str s), .val (.str found), x3, x4] ∧ Pen b' m ∧ b' + r.length ≤ b + s.length ∧ (found ++ r).Perm s
theorem mixed_ok (hf : T.fns[f]? = some (F_mixed tk)) (ht : T.fns[tk]? = some (F_take sp)) (hs : T.fns[sp]? = some F_spread) {b : Nat} {m : Mu} (s : Sg) (hb : b + s.length < lim) (hp : Pen b m) (hl : s.length ≤ 1000) :
    Ok (callF T (n + 3) f [⟨.v, .ref 0⟩, ⟨.v, .str s⟩] m) fun r m' => Pen (b + s.length) m' ∧ ∃ u, r = ⟨.v, .str u⟩ ∧ u.Perm s := by
  have F := call_eq (T := T) (f := f) (n := n + 2) (fn := F_mixed tk) m hf
  simp [F, F_mixed]
  refine for_rule (P := fun o => Ok (finF (seqS o _)) _) (J := JM s b) (enc := fun c => D.str [c]) s _ _ ⟨b, [], _, _, rfl, hp, by simp, by simp⟩ ?_ ?_
  · rintro c r _ m ⟨b', found, x3, x4, rfl, p, hb', hpm⟩
    rw [List.length_cons] at hb'
    have hlen := hpm.length_eq
    rw [List.length_append, List.length_cons] at hlen
    obtain ⟨i, m2, e2, p2, i0, i1⟩ := tkg (n := n) ht hs (b := b') (by show _ < 1000000000; have : lim = 1000000000 := rfl; omega) p ((found.length : Int) + 1) (by omega) (by
      have : (2 : Int) ^ 200 = 1606938044258990275541962092341162602522202993782792835301376 := by decide
      omega)
    have b1 : -1000000000 < i ∧ i < 1000000000 := by omega
    have s1 := sli_to found i0 (by omega)
    have s2 := sli_from found i0 (by omega)
    have n1 : min i.toNat found.length + 1 ≤ big := by show _ ≤ 16777216; omega
    have n2 : min i.toNat found.length + 1 + (found.length - i.toNat) ≤ big := by show _ ≤ 16777216; omega
    simp [e2, s1, s2, b1, n1, n2]
    refine ⟨b' + 1, _, _, _, rfl, p2, by omega, ?_⟩
    refine List.Perm.trans ?_ hpm
    rw [show found.take i.toNat ++ c :: found.drop i.toNat ++ r = found.take i.toNat ++ c :: (found.drop i.toNat ++ r) by simp]
    refine List.perm_middle.trans ?_
    rw [← List.append_assoc, List.take_append_drop]
    exact List.perm_middle.symm
  · rintro _ m ⟨b', found, x3, x4, rfl, p, hb', hpm⟩
    rw [List.append_nil] at hpm
    simp
    exact ⟨p.le (by simpa using hb'), hpm⟩
theorem sub_ne {s u : Sg} (h : u.Sublist s) (x : Sg) (hx : x = if u = [] then s else u) (h0 : s ≠ []) : x ≠ [] ∧ x.Sublist s := by
  subst hx
  split
  · exact ⟨h0, List.Sublist.refl _⟩
  · exact ⟨by assumption, h⟩
theorem whr_v (i j : Int) (h0 : 0 ≤ i) (h3 : i < 3) (hj : j = 0 ∨ j = 1 ∨ j = 2 ∨ j = 3 ∨ j = 4) : ∃ d : Int, (([.int 0, .int 2, .int 11, .int (-8), .int (-1000)] : List D)[j.toNat]? = some (.int d)) ∧ -11 ≤ i - d ∧ i - d ≤ 1002 := by
  rcases hj with rfl | rfl | rfl | rfl | rfl <;> exact ⟨_, rfl, by omega, by omega⟩
theorem step_ok (hf : T.fns[f]? = some (F_step tk sb mx)) (ht : T.fns[tk]? = some (F_take sp)) (hs : T.fns[sp]? = some F_spread) (hb' : T.fns[sb]? = some (F_subset tk)) (hm : T.fns[mx]? = some (F_mixed tk)) {b : Nat} {m : Mu} {kept : Sg} (behind : Bool) (size : Int)
    (hk : kept ≠ []) (hnd : kept.Nodup) (hl : kept.length ≤ 5) (z0 : 0 < size) (z1 : size < 1000000) (hb : b + 20 < lim) (hp : Pen b m) :
    Ok (callF T (n + 4) f [⟨.v, .ref 0⟩, ⟨.v, .str kept⟩, ⟨.v, .bl behind⟩, ⟨.v, .int size⟩] m) fun r m' => Pen (b + 20) m' ∧ ∃ s, r = ⟨.v, stpD s⟩ ∧ StpOk kept behind size s := by
  have F := call_eq (T := T) (f := f) (n := n + 3) (fn := F_step tk sb mx) m hf
  have hlim : lim = 1000000000 := rfl
  have two : (2 : Int) ^ 200 = 1606938044258990275541962092341162602522202993782792835301376 := by decide
  obtain ⟨w, m1, e1, p1, w0, w9⟩ := tkg (n := n + 1) ht hs (b := b) (by omega) hp 9 (by omega) (by omega)
  have klen : 0 < kept.length := List.length_pos_iff.mpr hk
  obtain ⟨_, m2, e2, p2, u, rfl, hu⟩ := (subset_ok (n := n) hb' ht hs kept (by omega) p1 (by omega)).eq
  have hs1 : sliL kept none (some 1) = kept.take 1 := sli_to kept (by omega) (by omega)
  by_cases h4 : behind = false ∧ w < 4
  · obtain ⟨rfl, h4⟩ := h4
    have ww : w = 0 ∨ w = 1 ∨ w = 2 ∨ w = 3 := by omega
    by_cases u0 : u = []
    · subst u0
      have h1 : kept.take 1 ≠ [] := by cases kept <;> simp at hk ⊢
      have h2 : (kept.take 1).Sublist kept := List.take_sublist _ _
      have h3 : (kept.take 1).length ≤ 1 := by rw [List.length_take]; omega
      obtain ⟨_, m3, e3, p3, x, rfl, hx⟩ := (mixed_ok (n := n) hm ht hs (kept.take 1) (by omega) p2 (by omega)).eq
      have st : ∀ q, StpOk kept false size (.sort q x) := fun q => ⟨rfl, fun e => by subst e; exact h1 hx.nil_eq.symm, hx.nodup_iff.mpr (hnd.sublist h2), fun c hc => h2.subset (hx.subset hc), by rw [hx.length_eq]; omega⟩
      rcases ww with rfl | rfl | rfl | rfl <;> simp [F, F_step, e1, e2, hs1, e3]
      · exact ⟨p3.le (by omega), .sort false x, rfl, st _⟩
      · exact ⟨p3.le (by omega), .sort false x, rfl, st _⟩
      · exact ⟨p3.le (by omega), .sort false x, rfl, st _⟩
      · exact ⟨p3.le (by omega), .sort true x, rfl, st _⟩
    · have h3 := hu.length_le
      obtain ⟨_, m3, e3, p3, x, rfl, hx⟩ := (mixed_ok (n := n) hm ht hs u (by omega) p2 (by omega)).eq
      have st : ∀ q, StpOk kept false size (.sort q x) := fun q => ⟨rfl, fun e => by subst e; exact u0 hx.nil_eq.symm, hx.nodup_iff.mpr (hnd.sublist hu), fun c hc => hu.subset (hx.subset hc), by rw [hx.length_eq]; omega⟩
      rcases ww with rfl | rfl | rfl | rfl <;> simp [F, F_step, e1, e2, u0, e3]
      · exact ⟨p3.le (by omega), .sort false x, rfl, st _⟩
      · exact ⟨p3.le (by omega), .sort false x, rfl, st _⟩
      · exact ⟨p3.le (by omega), .sort false x, rfl, st _⟩
      · exact ⟨p3.le (by omega), .sort true x, rfl, st _⟩
  by_cases h6 : behind = true ∧ w < 6
  · obtain ⟨rfl, h6⟩ := h6
    obtain ⟨j, m3, e3, p3, j0, j4⟩ := tkg (n := n + 1) ht hs (b := b + 1) (by omega) p1 4 (by omega) (by omega)
    have hj : ∃ a : Int, (([.int size, .int size, .int size, .int 21] : List D)[j.toNat]? = some (.int a)) ∧ 0 < a ∧ a < 1000000 ∧ (a = size ∨ a = 21) := by
      have : j = 0 ∨ j = 1 ∨ j = 2 ∨ j = 3 := by omega
      rcases this with rfl | rfl | rfl | rfl
      · exact ⟨size, rfl, z0, z1, .inl rfl⟩
      · exact ⟨size, rfl, z0, z1, .inl rfl⟩
      · exact ⟨size, rfl, z0, z1, .inl rfl⟩
      · exact ⟨21, rfl, by omega, by omega, .inr rfl⟩
    obtain ⟨a, ea, a0, a1, a2⟩ := hj
    obtain ⟨k, m4, e4, p4, k0, k1⟩ := tkg (n := n + 1) ht hs (b := b + 2) (by omega) p3 a (by omega) (by omega)
    have st : ∀ q, StpOk kept true size (.cut q k) := fun q => ⟨rfl, k0, by rcases a2 with rfl | rfl; exact .inl k1; exact .inr k1⟩
    have ww : w = 0 ∨ w = 1 ∨ w = 2 ∨ w = 3 ∨ w = 4 ∨ w = 5 := by omega
    rcases ww with rfl | rfl | rfl | rfl | rfl | rfl <;> simp [F, F_step, e1, e3, j0, ea, e4]
    · exact ⟨p4.le (by omega), .cut false k, rfl, st _⟩
    · exact ⟨p4.le (by omega), .cut false k, rfl, st _⟩
    · exact ⟨p4.le (by omega), .cut true k, rfl, st _⟩
    · exact ⟨p4.le (by omega), .cut false k, rfl, st _⟩
    · exact ⟨p4.le (by omega), .cut false k, rfl, st _⟩
    · exact ⟨p4.le (by omega), .cut true k, rfl, st _⟩
  have g4 : (decide (w < 4) && !behind) = false := by
    cases behind <;> simp at h4 ⊢ <;> omega
  have g6 : (decide (w < 6) && behind) = false := by
    cases behind <;> simp at h6 ⊢ <;> omega
  by_cases h8 : w = 8
  · subst h8
    by_cases u0 : u = []
    · subst u0
      simp [F, F_step, e1, e2]
      exact ⟨p2.le (by omega), .cols kept, rfl, hk, List.Sublist.refl _⟩
    · simp [F, F_step, e1, e2, u0]
      exact ⟨p2.le (by omega), .cols u, rfl, u0, hu⟩
  · obtain ⟨i, m3, e3, p3, i0, i1⟩ := tkg (n := n + 1) ht hs (b := b + 1) (by omega) p1 (kept.length : Nat) (by omega) (by omega)
    obtain ⟨k, m4, e4, p4, k0, k1⟩ := tkg (n := n + 1) ht hs (b := b + 2) (by omega) p3 3 (by omega) (by omega)
    obtain ⟨j, m5, e5, p5, j0, j1⟩ := tkg (n := n + 1) ht hs (b := b + 3) (by omega) p4 5 (by omega) (by omega)
    obtain ⟨d, ed, d0, d1⟩ := whr_v k j k0 k1 (by omega)
    obtain ⟨c, hc, ec⟩ := ix_str_at (s := kept) (i := i) (m := m3) i0 i1
    have ec : idxD (.str kept) (.int i) = some (.str [c]) := ec
    cases behind with
    | true =>
      have q6 : ¬ w < 6 := by simpa using g6
      have q4 : ¬ w < 4 := by omega
      simp [F, F_step, e1, q4, q6, h8, e3, ec, e4, e5, j0, ed]
      exact ⟨p5.le (by omega), .whr c (k - d), rfl, hc, d0, d1⟩
    | false =>
      have q4 : ¬ w < 4 := by simpa using g4
      by_cases q6 : w < 6 <;> simp [F, F_step, e1, q4, q6, h8, e3, ec, e4, e5, j0, ed] <;> exact ⟨p5.le (by omega), .whr c (k - d), rfl, hc, d0, d1⟩
end
end Dn

/-! DnN3 -/
set_option Elab.async false
set_option linter.all false
set_option maxRecDepth 100000
set_option maxHeartbeats 1000000
/-! DnN3: closures. -/
namespace Dn
open Dn.Q
def F_cont : Fn := ⟨[false, false], 3, (.cons (.ret (.b1 .all (.comp [2] (.nm 2) (.val (.var 1)) .none (.cmp .isin (.var 2) (.var 0))))) .nil)⟩
def F_uniq (ca cl : Nat) : Fn := ⟨[false, false], 4, (.cons (.set 2 false (.call cl (.cons (.var 0) (.cons (.var 1) .nil)))) (.cons (.ret (.b1 .any (.comp [3] (.nm 3) (.val (.idx (.var 0) (.con (.int 2)))) .none (.call ca (.cons (.var 2) (.cons (.var 3) .nil)))))) .nil))⟩
def F_clos (ca : Nat) : Fn := ⟨[false, false], 7, (.cons (.par [2, 3] [false, false] (.cons (.var 1) (.cons (.con .non) .nil))) (.cons (.while_ (.cmp .ne (.var 2) (.var 3)) (.cons (.set 3 false (.var 2)) (.cons (.for_ (.tp [4, 5]) (.val (.idx (.var 0) (.con (.int 1)))) (.cons (.ite (.and (.call ca (.cons (.var 2) (.cons (.var 4) .nil))) (.cmp .notin (.var 5) (.var 2))) (.cons (.aug 2 .add (.var 5)) .nil) .nil) .nil)) (.cons (.ite (.b1 .any (.comp [6] (.nm 6) (.val (.idx (.var 0) (.con (.int 2)))) .none (.call ca (.cons (.var 2) (.cons (.var 6) .nil))))) (.cons (.set 2 false (.idx (.var 0) (.con (.int 0)))) .nil) .nil) .nil)))) (.cons (.ret (.join (.con (.str [])) (.b1 .sortset (.var 2)))) .nil)))⟩
def F_allin : Fn := ⟨[false, false], 3, (.cons (.ret (.cmp .eq (.comp [2] (.nm 2) (.val (.var 0)) (.some (.cmp .notin (.var 2) (.var 1))) (.var 2)) (.lst .nil))) .nil)⟩
def F_lclos (ai : Nat) : Fn := ⟨[false, false], 8, (.cons (.par [2, 3] [false, false] (.cons (.var 1) (.cons (.con .non) .nil))) (.cons (.while_ (.cmp .ne (.var 2) (.var 3)) (.cons (.set 3 false (.var 2)) (.cons (.for_ (.tp [4, 5]) (.val (.idx (.var 0) (.con (.int 1)))) (.cons (.ite (.and (.call ai (.cons (.var 4) (.cons (.var 2) .nil))) (.cmp .notin (.var 5) (.var 2))) (.cons (.set 2 false (.bin .add (.var 2) (.var 5))) .nil) .nil) .nil)) (.cons (.ite (.cmp .isin (.con (.bl true)) (.comp [7] (.nm 7) (.val (.idx (.var 0) (.con (.int 2)))) .none (.call ai (.cons (.var 7) (.cons (.var 2) .nil))))) (.cons (.set 2 false (.idx (.var 0) (.con (.int 0)))) .nil) .nil) .nil)))) (.cons (.ret (.join (.con (.str [])) (.comp [6] (.nm 6) (.val (.idx (.var 0) (.con (.int 0)))) (.some (.cmp .isin (.var 6) (.var 2))) (.var 6)))) .nil)))⟩
def F_isone (ai lc : Nat) : Fn := ⟨[false, false], 4, (.cons (.set 2 false (.call lc (.cons (.var 0) (.cons (.var 1) .nil)))) (.cons (.ret (.cmp .isin (.con (.bl true)) (.comp [3] (.nm 3) (.val (.idx (.var 0) (.con (.int 2)))) .none (.call ai (.cons (.var 3) (.cons (.var 2) .nil)))))) .nil))⟩
/-- what a closure asks of a schema -/
structure SchC (cols : Sg) (rules : List (Sg × Nat)) : Prop where
  len : cols.length ≤ 5
  as : cols.Pairwise (· < ·)
  rl : ∀ p ∈ rules, p.1.Sublist cols ∧ p.2 ∈ cols
  rlen : rules.length ≤ 8
theorem SchN.c {R : Nat} {cols : Sg} {rules : List (Sg × Nat)} {keys : List Sg} (h : SchN R cols rules keys) (hR : R ≤ 8) : SchC cols rules := ⟨h.len, h.as, h.rl, Nat.le_trans h.rlen hR⟩
theorem while_rule {C : Cx} {c : CE} {body : Env → Mu → OutS} {P : OutS → Prop} (J : Nat → Env → Mu → Prop) : ∀ (n k : Nat) (ρ : Env) (m : Mu), k < n → J k ρ m →
    (∀ k ρ m, J k ρ m → Rd P (fun ρ m => ∃ k', k' < k ∧ J k' ρ m) (bndS (evE C c ρ m) ρ fun r m => opS r.d.truth fun b => if b = true then body ρ m else .ok (.br ρ) m)) → P (whileS (fun ρ => evE C c ρ >>= fun r => M.opt r.d.truth) body n ρ m)
  | 0, k, ρ, m, h, _, _ => absurd h (Nat.not_lt_zero _)
  | n + 1, k, ρ, m, h, j, st => by
    have q := st k ρ m j
    rw [whileS]
    show P (onE (fun m => (evE C c ρ m).bnd fun r m => M.opt r.d.truth m) ρ _ m)
    unfold onE
    rw [show ((fun m => (evE C c ρ m).bnd fun r m => M.opt r.d.truth m) m) = (evE C c ρ m).bnd (fun r m => M.opt r.d.truth m) from rfl]
    cases e : evE C c ρ m with
    | ok r m1 =>
      rw [e] at q
      have q : Rd P (fun ρ m => ∃ k', k' < k ∧ J k' ρ m) (opS r.d.truth fun b => if b = true then body ρ m1 else .ok (.br ρ) m1) := q
      cases t : r.d.truth with
      | none => rw [t] at q; exact q.elim
      | some b =>
        rw [t, opS_some] at q
        have w : ((Out.ok r m1 : Out R).bnd fun r m => M.opt r.d.truth m) = .ok b m1 := by
          show M.opt r.d.truth m1 = _
          rw [t]; rfl
        rw [w]
        show P (if b = true then _ else _)
        cases b with
        | false => exact q
        | true =>
          rw [if_pos rfl] at q ⊢
          cases e2 : body ρ m1 with
          | ok f m2 =>
            rw [e2] at q
            cases f with
            | nx ρ2 => obtain ⟨k', h', j'⟩ := q; exact while_rule J n k' ρ2 m2 (by omega) j' st
            | ct ρ2 => obtain ⟨k', h', j'⟩ := q; exact while_rule J n k' ρ2 m2 (by omega) j' st
            | br ρ2 => exact q
            | rt r => exact q
          | ex _ _ _ => rw [e2] at q; exact q
          | st => rw [e2] at q; exact q.elim
    | ex x m1 => rw [e] at q; exact (show P (.ex x ρ m1) from q)
    | st => rw [e] at q; exact (show False from q).elim
/-- one rule -/
def addR (f : Sg) (p : Sg × Nat) : Sg := if (p.1.all (fun c => decide (c ∈ f)) && !decide (p.2 ∈ f)) = true then f ++ [p.2] else f
def keyIn (keys : List Sg) (f : Sg) : Bool := keys.any fun k => k.all fun c => decide (c ∈ f)
def rnd (cols : Sg) (rules : List (Sg × Nat)) (keys : List Sg) (f : Sg) : Sg := if keyIn keys (rules.foldl addR f) = true then cols else rules.foldl addR f
def fixN (cols : Sg) (rules : List (Sg × Nat)) (keys : List Sg) : Nat → Sg → Sg
  | 0, f => f
  | n + 1, f => if rnd cols rules keys f = f then f else fixN cols rules keys n (rnd cols rules keys f)
def clos (cols : Sg) (rules : List (Sg × Nat)) (keys : List Sg) (s : Sg) : Sg := cols.filter fun c => decide (c ∈ fixN cols rules keys 20 s)
/-- how far it is to the end -/
def mis (cols f : Sg) : Nat := (cols.filter fun c => !decide (c ∈ f)).length
def far (cols f : Sg) : Nat := 2 * mis cols f + if f = cols then 0 else 1
theorem addR_sub (f : Sg) (p : Sg × Nat) : ∀ c ∈ f, c ∈ addR f p := fun c h => by
  unfold addR; split
  · exact List.mem_append_left _ h
  · exact h
theorem fold_sub : ∀ (rules : List (Sg × Nat)) (f : Sg), ∀ c ∈ f, c ∈ rules.foldl addR f
  | [], _ => fun c h => h
  | p :: r, f => fun c h => fold_sub r _ c (addR_sub f p c h)
theorem fold_in {cols : Sg} : ∀ (rules : List (Sg × Nat)) (f : Sg), (∀ p ∈ rules, p.2 ∈ cols) → (∀ c ∈ f, c ∈ cols) → ∀ c ∈ rules.foldl addR f, c ∈ cols
  | [], _, _, h => h
  | p :: r, f, hr, h => fold_in r _ (fun q hq => hr q (by simp [hq])) fun c hc => by
    unfold addR at hc
    split at hc
    · rcases List.mem_append.mp hc with hc | hc
      · exact h c hc
      · rw [List.mem_singleton.mp hc]; exact hr p (by simp)
    · exact h c hc
/-- a round adds nothing, or a column -/
theorem fold_eq : ∀ (rules : List (Sg × Nat)) (f : Sg), rules.foldl addR f = f ∨ ∃ p ∈ rules, p.2 ∉ f ∧ p.2 ∈ rules.foldl addR f
  | [], f => .inl rfl
  | p :: r, f => by
    rw [List.foldl_cons]
    by_cases q : (p.1.all (fun c => decide (c ∈ f)) && !decide (p.2 ∈ f)) = true
    · have e : addR f p = f ++ [p.2] := by unfold addR; rw [if_pos q]
      refine .inr ⟨p, by simp, ?_, ?_⟩
      · rw [Bool.and_eq_true] at q
        simpa using q.2
      · exact fold_sub r _ _ (by rw [e]; simp)
    · have e : addR f p = f := by unfold addR; rw [if_neg q]
      rw [e]
      rcases fold_eq r f with h | ⟨p', h1, h2, h3⟩
      · exact .inl h
      · exact .inr ⟨p', by simp [h1], h2, h3⟩
theorem mis_le {cols f g : Sg} (h : ∀ c ∈ f, c ∈ g) : mis cols g ≤ mis cols f := by
  unfold mis
  induction cols with
  | nil => exact Nat.le_refl _
  | cons x r ih =>
    by_cases h1 : x ∈ g
    · by_cases h2 : x ∈ f
      · simpa [h1, h2] using ih
      · simp [h1, h2]; omega
    · have h2 : x ∉ f := fun q => h1 (h x q)
      simpa [h1, h2] using ih
theorem mis_lt {cols f g : Sg} (h : ∀ c ∈ f, c ∈ g) {x : Nat} (hx : x ∈ cols) (h1 : x ∉ f) (h2 : x ∈ g) : mis cols g < mis cols f := by
  induction cols with
  | nil => cases hx
  | cons y r ih =>
    have lr := mis_le (cols := r) h
    unfold mis at lr ih ⊢
    rcases List.mem_cons.mp hx with rfl | hx
    · simp [h1, h2]; omega
    · have := ih hx
      by_cases h3 : y ∈ g
      · by_cases h4 : y ∈ f
        · simpa [h3, h4] using this
        · simp [h3, h4]; omega
      · have h4 : y ∉ f := fun q => h3 (h y q)
        simpa [h3, h4] using this
theorem mis_all {cols : Sg} : mis cols cols = 0 := by
  unfold mis
  rw [List.length_eq_zero_iff, List.filter_eq_nil_iff]
  intro c hc; simp [hc]
theorem rnd_in {cols : Sg} {rules : List (Sg × Nat)} {keys : List Sg} {f : Sg} (hr : ∀ p ∈ rules, p.2 ∈ cols) (h : ∀ c ∈ f, c ∈ cols) : ∀ c ∈ rnd cols rules keys f, c ∈ cols := by
  unfold rnd; split
  · exact fun c h => h
  · exact fold_in rules f hr h
theorem rnd_far {cols : Sg} {rules : List (Sg × Nat)} {keys : List Sg} {f : Sg} (hr : ∀ p ∈ rules, p.2 ∈ cols) (h : ∀ c ∈ f, c ∈ cols) (hn : rnd cols rules keys f ≠ f) : far cols (rnd cols rules keys f) < far cols f := by
  have grow : rules.foldl addR f ≠ f → mis cols (rules.foldl addR f) < mis cols f := fun q => by
    rcases fold_eq rules f with e | ⟨p, h1, h2, h3⟩
    · exact absurd e q
    · exact mis_lt (fold_sub rules f) (hr p h1) h2 h3
  unfold rnd at hn ⊢
  split
  · rename_i hk
    rw [if_pos hk] at hn
    unfold far
    rw [mis_all, if_pos rfl, if_neg (fun e => hn e.symm)]
    omega
  · rename_i hk
    rw [if_neg hk] at hn
    have := grow hn
    unfold far
    split <;> split <;> omega
theorem far_le {cols f : Sg} (h5 : cols.length ≤ 5) : far cols f ≤ 11 := by
  have : mis cols f ≤ cols.length := List.length_filter_le _ _
  unfold far
  split <;> omega
theorem fix_more {cols : Sg} {rules : List (Sg × Nat)} {keys : List Sg} (hr : ∀ p ∈ rules, p.2 ∈ cols) : ∀ (n k : Nat) (f : Sg), (∀ c ∈ f, c ∈ cols) → far cols f < n → far cols f < k → fixN cols rules keys n f = fixN cols rules keys k f
  | 0, _, _, _, h, _ => absurd h (Nat.not_lt_zero _)
  | _, 0, _, _, _, h => absurd h (Nat.not_lt_zero _)
  | n + 1, k + 1, f, hf, h1, h2 => by
    rw [fixN, fixN]
    by_cases q : rnd cols rules keys f = f
    · rw [if_pos q, if_pos q]
    · rw [if_neg q, if_neg q]
      have := rnd_far hr hf q
      exact fix_more hr n k _ (rnd_in hr hf) (by omega) (by omega)
@[simp] theorem S_while {C : Cx} {ρ : Env} {m : Mu} (c : CE) (x ss : CSs) : exSs C (.cons (.while_ c x) ss) ρ m = seqS (whileS (fun ρ => evE C c ρ >>= fun r => M.opt r.d.truth) (exSs C x) C.wf ρ m) (exSs C ss) := by
  rw [S_seq, exS]
@[simp] theorem ne_sn (s : Sg) : cmpD .ne (.str s) .non = some true := rfl
theorem all_in_or (f s : Sg) : (((∃ x, x ∈ s ∧ ¬x ∈ f) = False ∧ (∀ x, x ∈ s → x ∈ f) = True) ∧ (s.all fun c => decide (c ∈ f)) = true) ∨ (((∃ x, x ∈ s ∧ ¬x ∈ f) = True ∧ (∀ x, x ∈ s → x ∈ f) = False) ∧ (s.all fun c => decide (c ∈ f)) = false) := by
  by_cases q : ∃ x, x ∈ s ∧ ¬x ∈ f
  · exact .inr ⟨⟨eq_true q, eq_false (by simpa using q)⟩, by simpa using q⟩
  · exact .inl ⟨⟨eq_false q, eq_true (by simpa using q)⟩, by simpa using q⟩
section
variable {T : Tb} {i j ca cl ai lc n : Nat} {m : Mu}
theorem cont_ok (h : T.fns[i]? = some F_cont) (f p : Sg) : callF T (n + 1) i [⟨.v, .str f⟩, ⟨.v, .str p⟩] m = .ok ⟨.v, .bl (p.all fun c => decide (c ∈ f))⟩ m := by
  have F := call_eq (T := T) (f := i) (n := n) (fn := F_cont) m h
  simp [F, F_cont]
  rw [compR_map (enc := fun c => D.str [c]) (fun c => .bl (decide (c ∈ f))) (fun x hx => by simp)]
  simp
theorem allin_ok (h : T.fns[i]? = some F_allin) (f p : Sg) : callF T (n + 1) i [⟨.v, .str p⟩, ⟨.v, .str f⟩] m = .ok ⟨.v, .bl (p.all fun c => decide (c ∈ f))⟩ m := by
  have F := call_eq (T := T) (f := i) (n := n) (fn := F_allin) m h
  have e0 : ∀ s : Sg, cmpD .eq (.lst (s.map fun c => D.str [c])) (.lst []) = some s.isEmpty := fun s => by
    have := eq_lst (enc := D.str) (s.map fun c => [c]) []
    rw [List.map_map] at this
    refine this.trans ?_
    cases s <;> rfl
  simp [F, F_allin]
  rw [compR_fil (enc := fun c => D.str [c]) (fun c => !decide (c ∈ f)) (fun c => .str [c]) (fun x hx => by by_cases q : x ∈ f <;> simp [q])]
  simp [e0]
  rcases all_in_or f p with ⟨⟨q, q'⟩, e⟩ | ⟨⟨q, q'⟩, e⟩ <;> simp [q, q', e]
theorem sorted_set {cols f : Sg} (ha : cols.Pairwise (· < ·)) (hf : ∀ c ∈ f, c ∈ cols) : sortS (dedupS (f.map fun c => [c])) = (cols.filter fun c => decide (c ∈ f)).map fun c => [c] := by
  have fa : (cols.filter fun c => decide (c ∈ f)).Pairwise (· < ·) := ha.sublist List.filter_sublist
  have nd : ((cols.filter fun c => decide (c ∈ f)).map fun c => [c]).Nodup := List.Pairwise.map _ (fun a b (hab : a ≠ b) e => hab (by simpa using e)) (fa.imp Nat.ne_of_lt)
  refine sorted_uniq ((sortS_perm _).trans ((List.perm_ext_iff_of_nodup (nodup_dedupS _) nd).mpr fun x => ?_)) (sortS_sorted _) (List.Pairwise.map _ (fun a b hab => List.le_of_lt (List.Lex.rel hab)) fa)
  rw [mem_dedupS]
  constructor
  · intro h
    obtain ⟨c, hc, rfl⟩ := List.mem_map.mp h
    exact List.mem_map.mpr ⟨c, List.mem_filter.mpr ⟨hf c hc, by simpa using hc⟩, rfl⟩
  · intro h
    obtain ⟨c, hc, rfl⟩ := List.mem_map.mp h
    have := (List.mem_filter.mp hc).2
    exact List.mem_map.mpr ⟨c, by simpa using this, rfl⟩
variable {cols : Sg} {rules : List (Sg × Nat)} {keys : List Sg}
def JC (B : Nat) (sch : D) (s : Sg) (cols : Sg) (rules : List (Sg × Nat)) (keys : List Sg) (m0 : Mu) (w : Nat) (k : Nat) (ρ : Env) (m : Mu) : Prop := ∃ f b xs, m = m0 ∧ ρ = .val sch :: .val (.str s) :: .val (.str f) :: .val b :: xs ∧ xs.length = w ∧ (∀ c ∈ f, c ∈ cols) ∧ f.length + 13 * far cols f ≤ B ∧ fixN cols rules keys 20 f = fixN cols rules keys 20 s ∧
  ((b = .str f ∧ rnd cols rules keys f = f ∧ k = 0) ∨ ((b = .non ∨ ∃ g, b = .str g ∧ g ≠ f) ∧ k = far cols f + 1))
theorem fix_step {f : Sg} (hr : ∀ p ∈ rules, p.2 ∈ cols) (h5 : cols.length ≤ 5) (hf : ∀ c ∈ f, c ∈ cols) : fixN cols rules keys 20 (rnd cols rules keys f) = fixN cols rules keys 20 f := by
  have e : fixN cols rules keys 20 f = if rnd cols rules keys f = f then f else fixN cols rules keys 19 (rnd cols rules keys f) := rfl
  rw [e]
  by_cases q : rnd cols rules keys f = f
  · rw [if_pos q, q, e, if_pos q]
  · rw [if_neg q]
    have := far_le (f := rnd cols rules keys f) h5
    exact fix_more hr 20 19 _ (rnd_in hr hf) (by omega) (by omega)
theorem fix_end {f : Sg} (h : rnd cols rules keys f = f) : fixN cols rules keys 20 f = f := by
  have e : fixN cols rules keys 20 f = if rnd cols rules keys f = f then f else fixN cols rules keys 19 (rnd cols rules keys f) := rfl
  rw [e, if_pos h]
theorem fold_len : ∀ (rules : List (Sg × Nat)) (f : Sg), (rules.foldl addR f).length ≤ f.length + rules.length
  | [], f => by simp
  | p :: r, f => by
    rw [List.foldl_cons]
    have := fold_len r (addR f p)
    have h2 : (addR f p).length ≤ f.length + 1 := by unfold addR; split <;> simp
    rw [List.length_cons]; omega
theorem si_one (s : Sg) : D.strsI (.str s) = some (s.map fun c => [c]) := rfl
theorem strs_map : ∀ xs : List Sg, strs? (xs.map .str) = some xs
  | [] => rfl
  | x :: r => by show (strs? (r.map .str)).map (x :: ·) = _; rw [strs_map r]; rfl
def JF (B : Nat) (sch : D) (s f : Sg) (cols : Sg) (rules : List (Sg × Nat)) (m0 : Mu) (w : Nat) (r : List (Sg × Nat)) (ρ : Env) (m : Mu) : Prop := ∃ g xs, m = m0 ∧ ρ = .val sch :: .val (.str s) :: .val (.str g) :: .val (.str f) :: xs ∧ xs.length = w ∧ r.foldl addR g = rules.foldl addR f ∧ g.length + r.length ≤ f.length + 8
theorem rnd_len {f : Sg} {B : Nat} (hr : ∀ p ∈ rules, p.2 ∈ cols) (h8 : rules.length ≤ 8) (h5 : cols.length ≤ 5) (hf : ∀ c ∈ f, c ∈ cols) (hn : rnd cols rules keys f ≠ f) (hB : f.length + 13 * far cols f ≤ B) : (rnd cols rules keys f).length + 13 * far cols (rnd cols rules keys f) ≤ B := by
  have h1 := rnd_far hr hf hn
  have h2 := fold_len rules f
  have h3 : (rnd cols rules keys f).length ≤ f.length + 13 := by unfold rnd; split <;> omega
  omega
theorem clos_okC (so : SchC cols rules) (hi : T.fns[i]? = some (F_clos ca)) (hc : T.fns[ca]? = some F_cont) (hw : 100 ≤ T.wf) {s : Sg} (hs : ∀ c ∈ s, c ∈ cols) (hl : s.length ≤ 1000) : callF T (n + 2) i [⟨.v, schD cols rules keys⟩, ⟨.v, .str s⟩] m = .ok ⟨.v, .str (clos cols rules keys s)⟩ m := by
  have F := call_eq (T := T) (f := i) (n := n + 1) (fn := F_clos ca) m hi
  have h5 := so.len
  have h8 := so.rlen
  have hr : ∀ p ∈ rules, p.2 ∈ cols := fun p hp => (so.rl p hp).2
  have q : Ok (callF T (n + 2) i [⟨.v, schD cols rules keys⟩, ⟨.v, .str s⟩] m) fun r m' => r = ⟨.v, .str (clos cols rules keys s)⟩ ∧ m' = m := by
    simp [F, F_clos]
    refine while_rule (P := fun o => Ok (finF (seqS o _)) _) (JC (s.length + 13 * far cols s) (schD cols rules keys) s cols rules keys m 3) T.wf (far cols s + 1) _ _ (by have := far_le (f := s) h5; omega) ⟨s, .non, _, rfl, rfl, rfl, hs, Nat.le_refl _, rfl, .inr ⟨.inl rfl, rfl⟩⟩ ?_
    rintro k _ m1 ⟨f, b, xs, rfl, rfl, hx, hf, hB, hfix, hb⟩
    obtain ⟨x4, x5, x6, rfl⟩ : ∃ x4 x5 x6, xs = [x4, x5, x6] := by
      match xs, hx with
      | [a, b, c], _ => exact ⟨a, b, c, rfl⟩
    have ix0 : ∀ m, ixS m (schD cols rules keys) (.int 0) = some (.str cols) := fun m => rfl
    have ix1 : ∀ m, ixS m (schD cols rules keys) (.int 1) = some (.tup (rules.map ruleD)) := fun m => rfl
    have ix2 : ∀ m, ixS m (schD cols rules keys) (.int 2) = some (.tup (keys.map .str)) := fun m => rfl
    have fl : f.length ≤ 1200 := by have := far_le (f := s) h5; omega
    rcases hb with ⟨rfl, hrn, rfl⟩ | ⟨hb, rfl⟩
    · have e1 := sorted_set so.as hf
      have e2 : clos cols rules keys s = cols.filter fun c => decide (c ∈ f) := by
        unfold clos
        rw [← hfix, fix_end hrn]
      have e3 : ((cols.filter fun c => decide (c ∈ f)).map fun c => [c]).length ≤ 5 := by
        rw [List.length_map]; exact Nat.le_trans (List.length_filter_le _ _) h5
      have e4 := join_ones (cols.filter fun c => decide (c ∈ f))
      have e5 := sum_ones (cols.filter fun c => decide (c ∈ f))
      have l1 : (cols.filter fun c => decide (c ∈ f)).length ≤ big := Nat.le_trans (List.length_filter_le _ _) (by show _ ≤ 16777216; omega)
      have l2 : f.length < 4000 := by omega
      rw [e2]
      generalize (cols.filter fun c => decide (c ∈ f)) = w at *
      simp [si_one, l2, e1, strs_map, -List.map_map, e4, e5, l1]
    · have cnd : cmpD .ne (.str f) b = some true := by
        rcases hb with rfl | ⟨g, rfl, hg⟩
        · rfl
        · rw [ne_str]; simp; exact fun e => hg e.symm
      have nx : ∀ f' x4' x5' x6', f' = rnd cols rules keys f → ∃ k', k' < far cols f + 1 ∧ JC (s.length + 13 * far cols s) (schD cols rules keys) s cols rules keys m1 3 k' [.val (schD cols rules keys), .val (.str s), .val (.str f'), .val (.str f), x4', x5', x6'] m1 := by
        rintro _ x4' x5' x6' rfl
        by_cases q : rnd cols rules keys f = f
        · exact ⟨0, by omega, _, _, _, rfl, rfl, rfl, rnd_in hr hf, by rw [q]; exact hB, by rw [fix_step hr h5 hf]; exact hfix, .inl ⟨by rw [q], by rw [q, q], rfl⟩⟩
        · have := rnd_far (keys := keys) hr hf q
          exact ⟨_, by omega, _, _, _, rfl, rfl, rfl, rnd_in hr hf, rnd_len hr h8 h5 hf q hB, by rw [fix_step hr h5 hf]; exact hfix, .inr ⟨.inr ⟨f, rfl, fun e => q e.symm⟩, rfl⟩⟩
      simp [cnd, ix1]
      refine for_rule (P := fun o => Rd _ _ (seqS o _)) (J := JF 0 (schD cols rules keys) s f cols rules m1 3) (enc := ruleD) rules _ _ ⟨f, _, rfl, rfl, rfl, rfl, by omega⟩ ?_ ?_
      · rintro p r _ m2 ⟨g, xs, rfl, rfl, hx, hg, hgl⟩
        obtain ⟨x4, x5, x6, rfl⟩ : ∃ x4 x5 x6, xs = [x4, x5, x6] := by
          match xs, hx with
          | [a, b, c], _ => exact ⟨a, b, c, rfl⟩
        rw [List.length_cons] at hgl
        rw [List.foldl_cons] at hg
        have ec := cont_ok (T := T) (i := ca) (n := n) (m := m2) hc g p.1
        have hbig : g.length + 1 ≤ big := by show _ ≤ 16777216; omega
        have add : ∀ g', addR g p = g' → ∀ y4 y5 y6, JF 0 (schD cols rules keys) s f cols rules m2 3 r [.val (schD cols rules keys), .val (.str s), .val (.str g'), .val (.str f), y4, y5, y6] m2 := by
          rintro _ rfl y4 y5 y6
          have : (addR g p).length ≤ g.length + 1 := by unfold addR; split <;> simp
          exact ⟨_, _, rfl, rfl, rfl, hg, by omega⟩
        cases q1 : (p.1.all fun c => decide (c ∈ g)) with
        | false =>
          rw [q1] at ec
          simp [ruleD, ec]
          exact add _ (by unfold addR; rw [q1]; rfl) _ _ _
        | true =>
          rw [q1] at ec
          by_cases q2 : p.2 ∈ g
          · simp [ruleD, ec, q2]
            exact add _ (by unfold addR; rw [q1]; simp [q2]) _ _ _
          · simp [ruleD, ec, q2, hbig]
            exact add _ (by unfold addR; rw [q1]; simp [q2]) _ _ _
      · rintro _ m2 ⟨g, xs, rfl, rfl, hx, hg, hgl⟩
        obtain ⟨x4, x5, x6, rfl⟩ : ∃ x4 x5 x6, xs = [x4, x5, x6] := by
          match xs, hx with
          | [a, b, c], _ => exact ⟨a, b, c, rfl⟩
        have hg : g = rules.foldl addR f := hg
        simp [ix2]
        rw [compR_map (enc := D.str) (fun k => .bl (k.all fun c => decide (c ∈ g))) (fun k hk => by simp [cont_ok (T := T) (i := ca) (n := n) (m := m2) hc g k])]
        have e1 := bools_map (fun k : Sg => k.all fun c => decide (c ∈ g)) keys
        have e2 : (keys.map fun k : Sg => k.all fun c => decide (c ∈ g)).any id = keyIn keys g := by unfold keyIn; rw [List.any_map]; rfl
        cases q : keyIn keys g with
        | true =>
          rw [q] at e2
          simp only [mb_ok, b1_any, e1, Option.map_some, e2]
          simp [ix0]
          exact nx _ _ _ _ (by unfold rnd; rw [← hg, q]; rfl)
        | false =>
          rw [q] at e2
          simp only [mb_ok, b1_any, e1, Option.map_some, e2]
          simp
          exact nx _ _ _ _ (by unfold rnd; rw [← hg, q]; simp)
  obtain ⟨r, m', e, rfl, rfl⟩ := q.eq
  exact e
theorem in_keys (keys : List Sg) (g : Sg) : inD (.bl true) (.lst (keys.map fun k : Sg => D.bl (k.all fun c => decide (c ∈ g)))) = some (keyIn keys g) := by
  have := isin_lst (enc := D.bl) true (keys.map fun k : Sg => k.all fun c => decide (c ∈ g))
  rw [List.map_map] at this
  refine this.trans ?_
  rw [List.any_map]
  congr 1
  unfold keyIn
  congr 1
  funext k
  show (true == (k.all fun c => decide (c ∈ g))) = (k.all fun c => decide (c ∈ g))
  cases (k.all fun c => decide (c ∈ g)) <;> rfl
theorem lclos_okC (so : SchC cols rules) (hi : T.fns[i]? = some (F_lclos ai)) (hc : T.fns[ai]? = some F_allin) (hw : 100 ≤ T.wf) {s : Sg} (hs : ∀ c ∈ s, c ∈ cols) (hl : s.length ≤ 1000) : callF T (n + 2) i [⟨.v, schD cols rules keys⟩, ⟨.v, .str s⟩] m = .ok ⟨.v, .str (clos cols rules keys s)⟩ m := by
  have F := call_eq (T := T) (f := i) (n := n + 1) (fn := F_lclos ai) m hi
  have h5 := so.len
  have h8 := so.rlen
  have hr : ∀ p ∈ rules, p.2 ∈ cols := fun p hp => (so.rl p hp).2
  have q : Ok (callF T (n + 2) i [⟨.v, schD cols rules keys⟩, ⟨.v, .str s⟩] m) fun r m' => r = ⟨.v, .str (clos cols rules keys s)⟩ ∧ m' = m := by
    simp [F, F_lclos]
    refine while_rule (P := fun o => Ok (finF (seqS o _)) _) (JC (s.length + 13 * far cols s) (schD cols rules keys) s cols rules keys m 4) T.wf (far cols s + 1) _ _ (by have := far_le (f := s) h5; omega) ⟨s, .non, _, rfl, rfl, rfl, hs, Nat.le_refl _, rfl, .inr ⟨.inl rfl, rfl⟩⟩ ?_
    rintro k _ m1 ⟨f, b, xs, rfl, rfl, hx, hf, hB, hfix, hb⟩
    obtain ⟨x4, x5, x6, x7, rfl⟩ : ∃ x4 x5 x6 x7, xs = [x4, x5, x6, x7] := by
      match xs, hx with
      | [a, b, c, d], _ => exact ⟨a, b, c, d, rfl⟩
    have ix0 : ∀ m, ixS m (schD cols rules keys) (.int 0) = some (.str cols) := fun m => rfl
    have ix1 : ∀ m, ixS m (schD cols rules keys) (.int 1) = some (.tup (rules.map ruleD)) := fun m => rfl
    have ix2 : ∀ m, ixS m (schD cols rules keys) (.int 2) = some (.tup (keys.map .str)) := fun m => rfl
    have fl : f.length ≤ 1200 := by have := far_le (f := s) h5; omega
    rcases hb with ⟨rfl, hrn, rfl⟩ | ⟨hb, rfl⟩
    · have e1 := sorted_set so.as hf
      have e2 : clos cols rules keys s = cols.filter fun c => decide (c ∈ f) := by
        unfold clos
        rw [← hfix, fix_end hrn]
      have e3 : ((cols.filter fun c => decide (c ∈ f)).map fun c => [c]).length ≤ 5 := by
        rw [List.length_map]; exact Nat.le_trans (List.length_filter_le _ _) h5
      have e4 := join_ones (cols.filter fun c => decide (c ∈ f))
      have e5 := sum_ones (cols.filter fun c => decide (c ∈ f))
      have l1 : (cols.filter fun c => decide (c ∈ f)).length ≤ big := Nat.le_trans (List.length_filter_le _ _) (by show _ ≤ 16777216; omega)
      have l2 : f.length < 4000 := by omega
      rw [e2]
      simp [ix0]
      rw [compR_fil (enc := fun c => D.str [c]) (fun c => decide (c ∈ f)) (fun c => .str [c]) (fun x hx => by by_cases q : x ∈ f <;> simp [q])]
      have e6 : ((cols.filter fun c => decide (c ∈ f)).map fun c => D.str [c]) = ((cols.filter fun c => decide (c ∈ f)).map fun c => [c]).map .str := by rw [List.map_map]; rfl
      rw [e6]
      generalize (cols.filter fun c => decide (c ∈ f)) = w at *
      simp [strs_map, -List.map_map, e4, e5, l1]
    · have cnd : cmpD .ne (.str f) b = some true := by
        rcases hb with rfl | ⟨g, rfl, hg⟩
        · rfl
        · rw [ne_str]; simp; exact fun e => hg e.symm
      have nx : ∀ f' x4' x5' x6' x7', f' = rnd cols rules keys f → ∃ k', k' < far cols f + 1 ∧ JC (s.length + 13 * far cols s) (schD cols rules keys) s cols rules keys m1 4 k' [.val (schD cols rules keys), .val (.str s), .val (.str f'), .val (.str f), x4', x5', x6', x7'] m1 := by
        rintro _ x4' x5' x6' x7' rfl
        by_cases q : rnd cols rules keys f = f
        · exact ⟨0, by omega, _, _, _, rfl, rfl, rfl, rnd_in hr hf, by rw [q]; exact hB, by rw [fix_step hr h5 hf]; exact hfix, .inl ⟨by rw [q], by rw [q, q], rfl⟩⟩
        · have := rnd_far (keys := keys) hr hf q
          exact ⟨_, by omega, _, _, _, rfl, rfl, rfl, rnd_in hr hf, rnd_len hr h8 h5 hf q hB, by rw [fix_step hr h5 hf]; exact hfix, .inr ⟨.inr ⟨f, rfl, fun e => q e.symm⟩, rfl⟩⟩
      simp [cnd, ix1]
      refine for_rule (P := fun o => Rd _ _ (seqS o _)) (J := JF 0 (schD cols rules keys) s f cols rules m1 4) (enc := ruleD) rules _ _ ⟨f, _, rfl, rfl, rfl, rfl, by omega⟩ ?_ ?_
      · rintro p r _ m2 ⟨g, xs, rfl, rfl, hx, hg, hgl⟩
        obtain ⟨x4, x5, x6, x7, rfl⟩ : ∃ x4 x5 x6 x7, xs = [x4, x5, x6, x7] := by
          match xs, hx with
          | [a, b, c, d], _ => exact ⟨a, b, c, d, rfl⟩
        rw [List.length_cons] at hgl
        rw [List.foldl_cons] at hg
        have ec := allin_ok (T := T) (i := ai) (n := n) (m := m2) hc g p.1
        have hbig : g.length + 1 ≤ big := by show _ ≤ 16777216; omega
        have add : ∀ g', addR g p = g' → ∀ y4 y5 y6 y7, JF 0 (schD cols rules keys) s f cols rules m2 4 r [.val (schD cols rules keys), .val (.str s), .val (.str g'), .val (.str f), y4, y5, y6, y7] m2 := by
          rintro _ rfl y4 y5 y6 y7
          have : (addR g p).length ≤ g.length + 1 := by unfold addR; split <;> simp
          exact ⟨_, _, rfl, rfl, rfl, hg, by omega⟩
        cases q1 : (p.1.all fun c => decide (c ∈ g)) with
        | false =>
          rw [q1] at ec
          simp [ruleD, ec]
          exact add _ (by unfold addR; rw [q1]; rfl) _ _ _ _
        | true =>
          rw [q1] at ec
          by_cases q2 : p.2 ∈ g
          · simp [ruleD, ec, q2]
            exact add _ (by unfold addR; rw [q1]; simp [q2]) _ _ _ _
          · simp [ruleD, ec, q2, hbig]
            exact add _ (by unfold addR; rw [q1]; simp [q2]) _ _ _ _
      · rintro _ m2 ⟨g, xs, rfl, rfl, hx, hg, hgl⟩
        obtain ⟨x4, x5, x6, x7, rfl⟩ : ∃ x4 x5 x6 x7, xs = [x4, x5, x6, x7] := by
          match xs, hx with
          | [a, b, c, d], _ => exact ⟨a, b, c, d, rfl⟩
        have hg : g = rules.foldl addR f := hg
        simp [ix2]
        rw [compR_map (enc := D.str) (fun k => .bl (k.all fun c => decide (c ∈ g))) (fun k hk => by simp [allin_ok (T := T) (i := ai) (n := n) (m := m2) hc g k])]
        have e2 : inD (.bl true) (.lst (keys.map fun k : Sg => D.bl (k.all fun c => decide (c ∈ g)))) = some (keyIn keys g) := by
          have := isin_lst (enc := D.bl) true (keys.map fun k : Sg => k.all fun c => decide (c ∈ g))
          rw [List.map_map] at this
          refine this.trans ?_
          rw [List.any_map]
          congr 1
          unfold keyIn
          congr 1
          funext k
          show (true == (k.all fun c => decide (c ∈ g))) = (k.all fun c => decide (c ∈ g))
          cases (k.all fun c => decide (c ∈ g)) <;> rfl
        cases q : keyIn keys g with
        | true =>
          rw [q] at e2
          simp only [mb_ok, cp_in, e2, opo_some]
          simp [ix0]
          exact nx _ _ _ _ _ (by unfold rnd; rw [← hg, q]; rfl)
        | false =>
          rw [q] at e2
          simp only [mb_ok, cp_in, e2, opo_some]
          simp
          exact nx _ _ _ _ _ (by unfold rnd; rw [← hg, q]; simp)
  obtain ⟨r, m', e, rfl, rfl⟩ := q.eq
  exact e
theorem uniq_okC (so : SchC cols rules) (hu : T.fns[j]? = some (F_uniq ca cl)) (hi : T.fns[cl]? = some (F_clos ca)) (hc : T.fns[ca]? = some F_cont) (hw : 100 ≤ T.wf) {s : Sg} (hs : ∀ c ∈ s, c ∈ cols) (hl : s.length ≤ 1000) : callF T (n + 3) j [⟨.v, schD cols rules keys⟩, ⟨.v, .str s⟩] m = .ok ⟨.v, .bl (keyIn keys (clos cols rules keys s))⟩ m := by
  have F := call_eq (T := T) (f := j) (n := n + 2) (fn := F_uniq ca cl) m hu
  have e := clos_okC (keys := keys) (n := n) (m := m) so hi hc hw hs hl
  have ix2 : ∀ m, ixS m (schD cols rules keys) (.int 2) = some (.tup (keys.map .str)) := fun m => rfl
  simp [F, F_uniq, e, ix2]
  rw [compR_map (enc := D.str) (fun k => .bl (k.all fun c => decide (c ∈ clos cols rules keys s))) (fun k hk => by simp [cont_ok (T := T) (i := ca) (n := n + 1) (m := m) hc _ k])]
  have e1 := bools_map (fun k : Sg => k.all fun c => decide (c ∈ clos cols rules keys s)) keys
  have e2 : (keys.map fun k : Sg => k.all fun c => decide (c ∈ clos cols rules keys s)).any id = keyIn keys (clos cols rules keys s) := by unfold keyIn; rw [List.any_map]; rfl
  simp only [mb_ok, b1_any, e1, Option.map_some, e2]
  simp
theorem isone_okC (so : SchC cols rules) (hu : T.fns[j]? = some (F_isone ai lc)) (hi : T.fns[lc]? = some (F_lclos ai)) (hc : T.fns[ai]? = some F_allin) (hw : 100 ≤ T.wf) {s : Sg} (hs : ∀ c ∈ s, c ∈ cols) (hl : s.length ≤ 1000) : callF T (n + 3) j [⟨.v, schD cols rules keys⟩, ⟨.v, .str s⟩] m = .ok ⟨.v, .bl (keyIn keys (clos cols rules keys s))⟩ m := by
  have F := call_eq (T := T) (f := j) (n := n + 2) (fn := F_isone ai lc) m hu
  have e := lclos_okC (keys := keys) (n := n) (m := m) so hi hc hw hs hl
  have ix2 : ∀ m, ixS m (schD cols rules keys) (.int 2) = some (.tup (keys.map .str)) := fun m => rfl
  simp [F, F_isone, e, ix2]
  rw [compR_map (enc := D.str) (fun k => .bl (k.all fun c => decide (c ∈ clos cols rules keys s))) (fun k hk => by simp [allin_ok (T := T) (i := ai) (n := n + 1) (m := m) hc _ k])]
  have e2 := in_keys keys (clos cols rules keys s)
  simp only [mb_ok, cp_in, e2, opo_some]
  simp
theorem clos_ok (so : SchOk cols rules keys) (hi : T.fns[i]? = some (F_clos ca)) (hc : T.fns[ca]? = some F_cont) (hw : 100 ≤ T.wf) {s : Sg} (hs : ∀ c ∈ s, c ∈ cols) (hl : s.length ≤ 1000) : callF T (n + 2) i [⟨.v, schD cols rules keys⟩, ⟨.v, .str s⟩] m = .ok ⟨.v, .str (clos cols rules keys s)⟩ m := clos_okC (so.c (Nat.le_refl 8)) hi hc hw hs hl
theorem lclos_ok (so : SchOk cols rules keys) (hi : T.fns[i]? = some (F_lclos ai)) (hc : T.fns[ai]? = some F_allin) (hw : 100 ≤ T.wf) {s : Sg} (hs : ∀ c ∈ s, c ∈ cols) (hl : s.length ≤ 1000) : callF T (n + 2) i [⟨.v, schD cols rules keys⟩, ⟨.v, .str s⟩] m = .ok ⟨.v, .str (clos cols rules keys s)⟩ m := lclos_okC (so.c (Nat.le_refl 8)) hi hc hw hs hl
theorem uniq_ok (so : SchOk cols rules keys) (hu : T.fns[j]? = some (F_uniq ca cl)) (hi : T.fns[cl]? = some (F_clos ca)) (hc : T.fns[ca]? = some F_cont) (hw : 100 ≤ T.wf) {s : Sg} (hs : ∀ c ∈ s, c ∈ cols) (hl : s.length ≤ 1000) : callF T (n + 3) j [⟨.v, schD cols rules keys⟩, ⟨.v, .str s⟩] m = .ok ⟨.v, .bl (keyIn keys (clos cols rules keys s))⟩ m := uniq_okC (so.c (Nat.le_refl 8)) hu hi hc hw hs hl
theorem isone_ok (so : SchOk cols rules keys) (hu : T.fns[j]? = some (F_isone ai lc)) (hi : T.fns[lc]? = some (F_lclos ai)) (hc : T.fns[ai]? = some F_allin) (hw : 100 ≤ T.wf) {s : Sg} (hs : ∀ c ∈ s, c ∈ cols) (hl : s.length ≤ 1000) : callF T (n + 3) j [⟨.v, schD cols rules keys⟩, ⟨.v, .str s⟩] m = .ok ⟨.v, .bl (keyIn keys (clos cols rules keys s))⟩ m := isone_okC (so.c (Nat.le_refl 8)) hu hi hc hw hs hl
end
end Dn

/-! DnN4 -/
set_option Elab.async false
set_option linter.all false
set_option maxRecDepth 100000
set_option maxHeartbeats 1000000
/-! DnN4: column sets and columns told of any value. -/
namespace Dn.Q
open Dn
def F_isset : Fn := ⟨[false, false], 3, (.cons (.ite (.or (.not (.isi .str (.var 1))) (.not (.b1 .all (.comp [2] (.nm 2) (.val (.var 1)) .none (.cmp .isin (.var 2) (.var 0)))))) (.cons (.ret (.con (.bl false))) .nil) .nil) (.cons (.ret (.cmp .eq (.lsti (.val (.var 1))) (.b1 .sortset (.var 1)))) .nil))⟩
def F_iscol : Fn := ⟨[false, false], 2, (.cons (.ret (.and (.isi .str (.var 1)) (.and (.cmp .eq (.b1 .len (.var 1)) (.con (.int 1))) (.cmp .isin (.var 1) (.var 0))))) .nil)⟩
def F_lisset : Fn := ⟨[false, false], 3, (.cons (.ite (.or (.not (.isi .str (.var 1))) (.cmp .ne (.comp [2] (.nm 2) (.val (.var 1)) (.some (.cmp .notin (.var 2) (.lsti (.val (.var 0))))) (.var 2)) (.lst .nil))) (.cons (.ret (.con (.bl false))) .nil) .nil) (.cons (.ret (.cmp .eq (.lsti (.val (.var 1))) (.b1 .sortset (.var 1)))) .nil))⟩
mutual
def okV : D → Bool
  | .str s => decide (s.length < 64)
  | .tup ds => okVs ds
  | .lst ds => okVs ds
  | .ref _ => false
  | .scr _ => false
  | _ => true
def okVs : List D → Bool
  | [] => true
  | d :: r => okV d && okVs r
end
theorem okVs_iff : ∀ {ds : List D}, okVs ds = true ↔ ∀ d ∈ ds, okV d = true
  | [] => by simp [okVs]
  | d :: r => by simp [okVs, okVs_iff (ds := r)]
def intB : D → Bool
  | .int _ => true
  | _ => false
def one (s : Sg) : List Sg := s.map fun c => [c]
def setB (kept : Sg) : D → Bool
  | .str s => s.all (fun c => decide (c ∈ kept)) && (one s == sortS (dedupS (one s)))
  | _ => false
def chrB (kept : Sg) : D → Bool
  | .str [c] => decide (c ∈ kept)
  | _ => false
def neB : D → Bool
  | .str s => !s.isEmpty
  | _ => false
def outB : D → D → Bool
  | .str [c], .str s => !decide (c ∈ s)
  | _, _ => false
@[simp] theorem eq_chars (s : Sg) (ys : List Sg) : cmpD .eq (.lst (s.map fun c => D.str [c])) (.lst (ys.map .str)) = some (one s == ys) := by
  have := eq_lst (enc := D.str) (one s) ys
  rw [← this]; unfold one; rw [List.map_map]; rfl
@[simp] theorem in_chars (s : Sg) (k : Sg) : inD (.str s) (.lst (k.map fun c => D.str [c])) = some (chrB k (.str s)) := by
  have := isin_lst (enc := D.str) s (one k)
  unfold one at this
  rw [List.map_map] at this
  refine this.trans ?_
  rw [List.any_map]
  congr 1
  unfold chrB
  rcases s with _ | ⟨c, _ | ⟨c2, r⟩⟩
  · simp
  · simp [List.any_eq]
  · simp
theorem all_or (kept s : Sg) : (((∃ x, x ∈ s ∧ ¬x ∈ kept) = False ∧ (∀ x, x ∈ s → x ∈ kept) = True) ∧ (s.all fun c => decide (c ∈ kept)) = true) ∨ (((∃ x, x ∈ s ∧ ¬x ∈ kept) = True ∧ (∀ x, x ∈ s → x ∈ kept) = False) ∧ (s.all fun c => decide (c ∈ kept)) = false) := by
  by_cases q : ∃ x, x ∈ s ∧ ¬x ∈ kept
  · exact .inr ⟨⟨eq_true q, eq_false (by simpa using q)⟩, by simpa using q⟩
  · exact .inl ⟨⟨eq_false q, eq_true (by simpa using q)⟩, by simpa using q⟩
theorem cast_beq (a b : Nat) : ((a : Int) == (b : Int)) = (a == b) := by
  rw [Bool.eq_iff_iff, beq_iff_eq, beq_iff_eq]; omega
theorem str_or {a : D} (h : okV a = true) : (∃ s, a = .str s ∧ s.length < 64) ∨ (a.tyB .str = some false ∧ (∀ k, setB k a = false) ∧ (∀ k, chrB k a = false) ∧ neB a = false) := by
  cases a <;> simp [okV] at h <;> first | exact .inl ⟨_, rfl, h⟩ | exact .inr ⟨rfl, fun _ => rfl, fun _ => rfl, rfl⟩
@[simp] theorem ty_str (s : Sg) : D.tyB (.str s) .str = some true := rfl
@[simp] theorem ty_tup (s : List D) : D.tyB (.tup s) .tup = some true := rfl
@[simp] theorem ty_strt (s : Sg) : D.tyB (.str s) .tup = some false := rfl
@[simp] theorem si_str (s : Sg) : D.strsI (.str s) = some (one s) := rfl
theorem one_len (s : Sg) : (one s).length = s.length := by simp [one]
@[simp] theorem chrB_one (kept : Sg) (c : Nat) : chrB kept (.str [c]) = decide (c ∈ kept) := rfl
@[simp] theorem ne_chars0 (s : Sg) : cmpD .ne (.lst (s.map fun c => D.str [c])) (.lst []) = some (!s.isEmpty) := by
  have := ne_lst (enc := D.str) (one s) []
  unfold one at this
  rw [List.map_map] at this
  refine this.trans ?_
  cases s <;> rfl
section
variable {T : Tb} {i n : Nat} {kept : Sg} {m : Mu}
theorem isset (hi : T.fns[i]? = some F_isset) {d : D} (h : okV d = true) : callF T (n + 1) i [⟨.v, .str kept⟩, ⟨.v, d⟩] m = .ok ⟨.v, .bl (setB kept d)⟩ m := by
  have F := call_eq (T := T) (f := i) (n := n) (fn := F_isset) m hi
  rcases str_or h with ⟨s, rfl, hs⟩ | ⟨t, e, _⟩
  · have hl : (one s).length < 4000 := by rw [one_len]; omega
    simp [F, F_isset]
    rw [compR_map (enc := fun c => D.str [c]) (fun c => .bl (decide (c ∈ kept))) (fun x hx => by simp)]
    simp [hl]
    rcases all_or kept s with ⟨⟨q, q'⟩, e⟩ | ⟨⟨q, q'⟩, e⟩ <;> simp only [q, e, setB] <;> simp
  · simp [F, F_isset, t, e]
theorem iscol (hi : T.fns[i]? = some F_iscol) {d : D} (h : okV d = true) : callF T (n + 1) i [⟨.v, .str kept⟩, ⟨.v, d⟩] m = .ok ⟨.v, .bl (chrB kept d)⟩ m := by
  have F := call_eq (T := T) (f := i) (n := n) (fn := F_iscol) m hi
  rcases str_or h with ⟨s, rfl, hs⟩ | ⟨t, e, e2, _⟩
  · rcases s with _ | ⟨c, _ | ⟨c2, r⟩⟩
    · simp [F, F_iscol, chrB]
    · simp [F, F_iscol, chrB]
    · have : ¬ ((r.length : Int) + 1 + 1 = 1) := by omega
      simp [F, F_iscol, chrB, this]
  · simp [F, F_iscol, t, e2]
theorem lisset (hi : T.fns[i]? = some F_lisset) {d : D} (h : okV d = true) : callF T (n + 1) i [⟨.v, .str kept⟩, ⟨.v, d⟩] m = .ok ⟨.v, .bl (setB kept d)⟩ m := by
  have F := call_eq (T := T) (f := i) (n := n) (fn := F_lisset) m hi
  rcases str_or h with ⟨s, rfl, hs⟩ | ⟨t, e, _⟩
  · have hl : (one s).length < 4000 := by rw [one_len]; omega
    simp [F, F_lisset]
    rw [compR_fil (enc := fun c => D.str [c]) (fun c => !decide (c ∈ kept)) (fun c => .str [c]) (fun x hx => by by_cases q : x ∈ kept <;> simp [q])]
    rcases all_or kept s with ⟨⟨q, q'⟩, e⟩ | ⟨⟨q, q'⟩, e⟩ <;> simp [q, q', e, setB, hl]
  · simp [F, F_lisset, t, e]
end
theorem chr_str {kept s : Sg} (h : chrB kept (.str s) = true) : ∃ c, s = [c] ∧ c ∈ kept := by
  rcases s with _ | ⟨c, _ | ⟨c2, r⟩⟩
  · simp [chrB] at h
  · exact ⟨c, rfl, by simpa [chrB] using h⟩
  · simp [chrB] at h
end Dn.Q

/-! DnN5 -/
set_option Elab.async false
set_option linter.all false
set_option maxRecDepth 100000
set_option maxHeartbeats 1000000
/-! DnN5: closures, what they are. -/
namespace Dn
open Dn.Q
variable {cols : Sg} {rules : List (Sg × Nat)} {keys : List Sg}
/-- nothing follows that is not there -/
structure Clsd (cols : Sg) (rules : List (Sg × Nat)) (keys : List Sg) (f : Sg) : Prop where
  rl : ∀ p ∈ rules, (∀ c ∈ p.1, c ∈ f) → p.2 ∈ f
  ky : ∀ k ∈ keys, (∀ c ∈ k, c ∈ f) → ∀ c ∈ cols, c ∈ f
theorem keyIn_iff {keys : List Sg} {f : Sg} : keyIn keys f = true ↔ ∃ k ∈ keys, ∀ c ∈ k, c ∈ f := by
  unfold keyIn
  simp
theorem addR_has {f : Sg} {p : Sg × Nat} (h : ∀ c ∈ p.1, c ∈ f) : p.2 ∈ addR f p := by
  unfold addR
  by_cases q : p.2 ∈ f
  · simp [q]
  · have : (p.1.all fun c => decide (c ∈ f)) = true := by simpa using h
    simp [q, this]
theorem fold_has : ∀ (rules : List (Sg × Nat)) (f : Sg) (p : Sg × Nat), p ∈ rules → (∀ c ∈ p.1, c ∈ f) → p.2 ∈ rules.foldl addR f
  | q :: r, f, p, hp, h => by
    rw [List.foldl_cons]
    rcases List.mem_cons.mp hp with rfl | hp
    · exact fold_sub r _ _ (addR_has h)
    · exact fold_has r _ p hp fun c hc => addR_sub f q c (h c hc)
theorem rnd_clsd {f : Sg} (hr : ∀ p ∈ rules, p.2 ∈ cols) (hf : ∀ c ∈ f, c ∈ cols) (h : rnd cols rules keys f = f) : Clsd cols rules keys f := by
  unfold rnd at h
  by_cases q : keyIn keys (rules.foldl addR f) = true
  · rw [if_pos q] at h
    subst h
    exact ⟨fun p hp _ => hr p hp, fun k hk _ c hc => hc⟩
  · rw [if_neg q] at h
    refine ⟨fun p hp hl => ?_, fun k hk hl => ?_⟩
    · have := fold_has rules f p hp hl
      rwa [h] at this
    · rw [h] at q
      exact absurd (keyIn_iff.mpr ⟨k, hk, hl⟩) q
theorem fix_rnd (hr : ∀ p ∈ rules, p.2 ∈ cols) : ∀ (n : Nat) (f : Sg), (∀ c ∈ f, c ∈ cols) → far cols f < n → rnd cols rules keys (fixN cols rules keys n f) = fixN cols rules keys n f ∧ (∀ c ∈ fixN cols rules keys n f, c ∈ cols) ∧ ∀ c ∈ f, c ∈ fixN cols rules keys n f
  | 0, _, _, h => absurd h (Nat.not_lt_zero _)
  | n + 1, f, hf, h => by
    rw [fixN]
    by_cases q : rnd cols rules keys f = f
    · rw [if_pos q]; exact ⟨q, hf, fun c h => h⟩
    · rw [if_neg q]
      have := rnd_far hr hf q
      obtain ⟨h1, h2, h3⟩ := fix_rnd hr n (rnd cols rules keys f) (rnd_in hr hf) (by omega)
      refine ⟨h1, h2, fun c hc => h3 c ?_⟩
      unfold rnd
      split
      · exact hf c hc
      · exact fold_sub rules f c hc
theorem fold_in_clsd {g : Sg} (hg : Clsd cols rules keys g) : ∀ (rs : List (Sg × Nat)) (f : Sg), (∀ p ∈ rs, p ∈ rules) → (∀ c ∈ f, c ∈ g) → ∀ c ∈ rs.foldl addR f, c ∈ g
  | [], f, _, hf => hf
  | p :: r, f, hp, hf => by
    rw [List.foldl_cons]
    refine fold_in_clsd hg r _ (fun q hq => hp q (List.mem_cons_of_mem _ hq)) fun c hc => ?_
    unfold addR at hc
    split at hc
    · rename_i q
      rw [Bool.and_eq_true] at q
      rcases List.mem_append.mp hc with z | z
      · exact hf c z
      · rw [List.mem_singleton.mp z]
        have q1 : ∀ c ∈ p.1, c ∈ f := by simpa using q.1
        exact hg.rl p (hp p List.mem_cons_self) fun d hd => hf d (q1 d hd)
    · exact hf c hc
theorem rnd_in_clsd {g f : Sg} (hg : Clsd cols rules keys g) (hf : ∀ c ∈ f, c ∈ g) : ∀ c ∈ rnd cols rules keys f, c ∈ g := by
  have h1 := fold_in_clsd hg rules f (fun p h => h) hf
  unfold rnd
  split
  · rename_i q
    obtain ⟨k, hk, hl⟩ := keyIn_iff.mp q
    exact hg.ky k hk fun c hc => h1 c (hl c hc)
  · exact h1
theorem fix_in_clsd {g : Sg} (hg : Clsd cols rules keys g) : ∀ (n : Nat) (f : Sg), (∀ c ∈ f, c ∈ g) → ∀ c ∈ fixN cols rules keys n f, c ∈ g
  | 0, f, hf => hf
  | n + 1, f, hf => by
    rw [fixN]
    split
    · exact hf
    · exact fix_in_clsd hg n _ (rnd_in_clsd hg hf)
section
variable (sc : SchC cols rules)
include sc
theorem clos_mem {s : Sg} (hs : ∀ c ∈ s, c ∈ cols) (c : Nat) : c ∈ clos cols rules keys s ↔ c ∈ fixN cols rules keys 20 s := by
  have := far_le (f := s) sc.len
  obtain ⟨_, h2, _⟩ := fix_rnd (keys := keys) (fun p hp => (sc.rl p hp).2) 20 s hs (by omega)
  unfold clos
  simp
  exact fun h => h2 c h
theorem clos_sub {s : Sg} : ∀ c ∈ clos cols rules keys s, c ∈ cols := fun c hc => (List.mem_filter.mp hc).1
theorem clos_ext {s : Sg} (hs : ∀ c ∈ s, c ∈ cols) : ∀ c ∈ s, c ∈ clos cols rules keys s := fun c hc => by
  have := far_le (f := s) sc.len
  obtain ⟨_, _, h3⟩ := fix_rnd (keys := keys) (fun p hp => (sc.rl p hp).2) 20 s hs (by omega)
  exact (clos_mem sc hs c).mpr (h3 c hc)
theorem clos_clsd {s : Sg} (hs : ∀ c ∈ s, c ∈ cols) : Clsd cols rules keys (clos cols rules keys s) := by
  have := far_le (f := s) sc.len
  obtain ⟨h1, h2, _⟩ := fix_rnd (keys := keys) (fun p hp => (sc.rl p hp).2) 20 s hs (by omega)
  have h := rnd_clsd (fun p hp => (sc.rl p hp).2) h2 h1
  refine ⟨fun p hp hl => (clos_mem sc hs _).mpr (h.rl p hp fun c hc => (clos_mem sc hs c).mp (hl c hc)), fun k hk hl c hc => (clos_mem sc hs _).mpr (h.ky k hk (fun c hc => (clos_mem sc hs c).mp (hl c hc)) c hc)⟩
theorem clos_min {s g : Sg} (hs : ∀ c ∈ s, c ∈ cols) (hg : Clsd cols rules keys g) (h : ∀ c ∈ s, c ∈ g) : ∀ c ∈ clos cols rules keys s, c ∈ g := fun c hc => fix_in_clsd hg 20 s h c ((clos_mem sc hs c).mp hc)
end
theorem clos_eq {rules2 : List (Sg × Nat)} {keys2 : List Sg} {s t : Sg} (h : ∀ c, c ∈ clos cols rules keys s ↔ c ∈ clos cols rules2 keys2 t) : clos cols rules keys s = clos cols rules2 keys2 t := by
  have h' : ∀ c ∈ cols, (decide (c ∈ fixN cols rules keys 20 s)) = decide (c ∈ fixN cols rules2 keys2 20 t) := fun c hc => by
    have := h c
    unfold clos at this
    simp only [List.mem_filter, decide_eq_true_eq, hc, true_and] at this
    simp [this]
  unfold clos
  exact List.filter_congr h'
/-- more columns, more rules and keys -/
theorem clos_mono {rules2 : List (Sg × Nat)} {keys2 : List Sg} (sc : SchC cols rules) (sc2 : SchC cols rules2) (h1 : ∀ p ∈ rules, p ∈ rules2) (h2 : ∀ k ∈ keys, k ∈ keys2) {s t : Sg} (hs : ∀ c ∈ s, c ∈ cols) (ht : ∀ c ∈ t, c ∈ cols) (h : ∀ c ∈ s, c ∈ t) : ∀ c ∈ clos cols rules keys s, c ∈ clos cols rules2 keys2 t := by
  have cl := clos_clsd (keys := keys2) sc2 ht
  exact clos_min sc hs ⟨fun p hp => cl.rl p (h1 p hp), fun k hk => cl.ky k (h2 k hk)⟩ fun c hc => clos_ext sc2 ht c (h c hc)
theorem clos_idem (sc : SchC cols rules) {s : Sg} (hs : ∀ c ∈ s, c ∈ cols) : clos cols rules keys (clos cols rules keys s) = clos cols rules keys s := by
  have h := clos_sub sc (keys := keys) (s := s)
  exact clos_eq fun c => ⟨clos_min sc h (clos_clsd sc hs) (fun c h => h) c, clos_ext sc h c⟩
end Dn

/-! K02m -/
set_option Elab.async false
set_option linter.all false
set_option maxRecDepth 100000
set_option maxHeartbeats 2000000
/-! K02m: is_schema. -/
namespace K02
open Dn Dn.Q
def ruleB (cols : Sg) : D → Bool
  | .tup [a, b] => setB cols a && (chrB cols b && outB b a)
  | _ => false
def keyB (cols : Sg) (d : D) : Bool := setB cols d && neB d
def disB (ds : List D) : Option Bool := (lensetD (.tup ds)).bind fun r => match r.d with | .int i => some (i == (ds.length : Int)) | _ => none
def letters : Sg := [97, 98, 99, 100, 101, 102, 103, 104, 105, 106, 107, 108, 109, 110, 111, 112, 113, 114, 115, 116, 117, 118, 119, 120, 121, 122]
def strLen : D → Nat
  | .str s => s.length
  | _ => 0
def tupD : D → List D
  | .tup ds => ds
  | _ => []
def isTup : D → Bool
  | .tup _ => true
  | _ => false
def strD : D → Sg
  | .str s => s
  | _ => []
/-- are these the parts of a schema but for the doubles -/
def partB (c r k : D) : Bool := setB letters c && (decide (1 ≤ strLen c) && (decide (strLen c ≤ 5) && (isTup r && ((tupD r).all (ruleB (strD c)) && (isTup k && (tupD k).all (keyB (strD c)))))))
def schB : D → Bool
  | .tup [c, r, k] => partB c r k && ((disB (tupD r)).getD false && (disB (tupD k)).getD false)
  | _ => false
variable {n : Nat} {m : Mu}
@[simp] theorem gl0 : TT.gl[0]? = some (.str [97, 98, 99, 100, 101, 102, 103, 104, 105, 106, 107, 108, 109, 110, 111, 112, 113, 114, 115, 116, 117, 118, 119, 120, 121, 122]) := rfl
@[simp] theorem gl1 : TT.gl[1]? = some (.int 5) := rfl
theorem e0 {kept : Sg} {d : D} (h : okV d = true) : callF TT (n + 1) 1 [⟨.v, .str kept⟩, ⟨.v, d⟩] m = .ok ⟨.v, .bl (setB kept d)⟩ m := isset (T := TT) (i := 1) rfl h
theorem e1 {kept : Sg} {d : D} (h : okV d = true) : callF TT (n + 1) 2 [⟨.v, .str kept⟩, ⟨.v, d⟩] m = .ok ⟨.v, .bl (chrB kept d)⟩ m := iscol (T := TT) (i := 2) rfl h
theorem set_str {k : Sg} {d : D} (h : setB k d = true) : ∃ s, d = .str s := by
  cases d <;> first | exact ⟨_, rfl⟩ | cases h
theorem chr_one {k : Sg} {d : D} (h : chrB k d = true) : ∃ c, d = .str [c] ∧ c ∈ k := by
  cases d with
  | str s => obtain ⟨c, rfl, hc⟩ := chr_str h; exact ⟨c, rfl, hc⟩
  | _ => cases h
theorem isrule {kept : Sg} {d : D} (h : okV d = true) : callF TT (n + 2) 3 [⟨.v, .str kept⟩, ⟨.v, d⟩] m = .ok ⟨.v, .bl (ruleB kept d)⟩ m := by
  have F := call_eq (T := TT) (f := 3) (n := n + 1) (fn := f_is_rule) m rfl
  have notup : d.tyB .tup = some false → ruleB kept d = false → callF TT (n + 2) 3 [⟨.v, .str kept⟩, ⟨.v, d⟩] m = .ok ⟨.v, .bl (ruleB kept d)⟩ m := fun h1 h2 => by
    simp [F, f_is_rule, h1, h2]
  cases d with
  | tup ds =>
    have hh := okVs_iff.mp (show okVs ds = true from h)
    rcases ds with _ | ⟨a, _ | ⟨b, _ | ⟨c, r⟩⟩⟩
    · simp [F, f_is_rule, ruleB]
    · simp [F, f_is_rule, ruleB]
    · have ha := e0 (n := n) (m := m) (kept := kept) (hh a (by simp))
      have hb := e1 (n := n) (m := m) (kept := kept) (hh b (by simp))
      by_cases q : setB kept a = true
      · obtain ⟨s, rfl⟩ := set_str q
        by_cases q2 : chrB kept b = true
        · obtain ⟨c, rfl, hc⟩ := chr_one q2
          simp [F, f_is_rule, ruleB, ha, q, hb, q2, outB]
        · simp [F, f_is_rule, ruleB, ha, q, hb, q2]
      · simp [F, f_is_rule, ruleB, ha, q]
    · have n4 : ¬ ((r.length : Int) + 1 + 1 + 1 = 2) := by omega
      simp [F, f_is_rule, ruleB, n4]
  | ref _ => simp [okV] at h
  | scr _ => simp [okV] at h
  | _ => exact notup rfl rfl



theorem compR_mapD {m : Mu} {f : D → Mu → Out (Option D)} (g : D → D) {xs : List D} (h : ∀ x ∈ xs, f x m = .ok (some (g x)) m) : compR f xs m = .ok (xs.map g) m := by
  have := compR_map (enc := id) (f := f) (m := m) g (xs := xs) h
  rwa [List.map_id] at this
theorem allor (f : D → Bool) (s : List D) : (((∃ x, x ∈ s ∧ f x = false) = False ∧ (∀ x, x ∈ s → f x = true) = True) ∧ s.all f = true) ∨ (((∃ x, x ∈ s ∧ f x = false) = True ∧ (∀ x, x ∈ s → f x = true) = False) ∧ s.all f = false) := by
  by_cases q : ∃ x, x ∈ s ∧ f x = false
  · exact .inr ⟨⟨eq_true q, eq_false (by simpa using q)⟩, by simpa using q⟩
  · exact .inl ⟨⟨eq_false q, eq_true (by simpa using q)⟩, by simpa using q⟩
theorem tups_of {s : Sg} : ∀ {ds : List D}, (∀ d ∈ ds, ruleB s d = true) → ∃ ks, tups? ds = some ks ∧ ks.length = ds.length
  | [], _ => ⟨[], rfl, rfl⟩
  | d :: r, h => by
    obtain ⟨ks, e, l⟩ := tups_of (s := s) (ds := r) fun x hx => h x (by simp [hx])
    have hd := h d (by simp)
    cases d with
    | tup xs =>
      rcases xs with _ | ⟨a, _ | ⟨b, _ | ⟨c, t⟩⟩⟩
      · cases hd
      · cases hd
      · have hd : (setB s a && (chrB s b && outB b a)) = true := hd
        rw [Bool.and_eq_true, Bool.and_eq_true] at hd
        obtain ⟨x, rfl⟩ := set_str hd.1
        obtain ⟨c, rfl, _⟩ := chr_one hd.2.1
        refine ⟨[x, [c]] :: ks, ?_, by simp [l]⟩
        show (some [x, [c]]).bind (fun k => (tups? r).map (k :: ·)) = _
        rw [e]; rfl
      · cases hd
    | _ => cases hd
theorem strs_of {s : Sg} : ∀ {ds : List D}, (∀ d ∈ ds, keyB s d = true) → ∃ ks, strs? ds = some ks ∧ ks.length = ds.length
  | [], _ => ⟨[], rfl, rfl⟩
  | d :: r, h => by
    obtain ⟨ks, e, l⟩ := strs_of (s := s) (ds := r) fun x hx => h x (by simp [hx])
    have hd : (setB s d && neB d) = true := h d (by simp)
    rw [Bool.and_eq_true] at hd
    obtain ⟨x, rfl⟩ := set_str hd.1
    exact ⟨x :: ks, by show (strs? r).map (x :: ·) = _; rw [e]; rfl, by simp [l]⟩
theorem lens_rules {s : Sg} {ds : List D} (h : ∀ d ∈ ds, ruleB s d = true) (hl : ds.length < 60) : ∃ k : Nat, lensetD (.tup ds) = some ⟨.v, .int k⟩ := by
  obtain ⟨ks, e, l⟩ := tups_of h
  cases ds with
  | nil => exact ⟨0, rfl⟩
  | cons d r =>
    have e0 : D.strsI (.tup (d :: r)) = none := by
      have hd := h d (by simp)
      cases d <;> first | rfl | cases hd
    refine ⟨(dedupK ks).length, ?_⟩
    show (match D.strsI (.tup (d :: r)) with | some ss => _ | none => _) = _
    rw [e0]
    show (tups? (d :: r)).bind (fun ks => if ks.length < 60 then _ else _) = _
    rw [e]
    show (if ks.length < 60 then _ else _) = _
    rw [if_pos (by omega)]
theorem lens_keys {s : Sg} {ds : List D} (h : ∀ d ∈ ds, keyB s d = true) (hl : ds.length < 60) : ∃ k : Nat, lensetD (.tup ds) = some ⟨.v, .int k⟩ := by
  obtain ⟨ks, e, l⟩ := strs_of h
  refine ⟨(dedupS ks).length, ?_⟩
  show (match strs? ds with | some ss => _ | none => _) = _
  rw [e]
  show (if ks.length < 4000 then _ else _) = _
  rw [if_pos (by omega)]
theorem dis_of {ds : List D} {k : Nat} (h : lensetD (.tup ds) = some ⟨.v, .int k⟩) : disB ds = some ((k : Int) == (ds.length : Int)) := by
  unfold disB; rw [h]; rfl
variable {n : Nat} {m : Mu}
@[simp] theorem it_tup (ds : List D) : isTup (.tup ds) = true := rfl
theorem tup_or {a : D} (h : okV a = true) : (∃ s, a = .tup s ∧ okVs s = true) ∨ (a.tyB .tup = some false ∧ isTup a = false) := by
  cases a <;> simp [okV] at h <;> first | exact .inl ⟨_, rfl, h⟩ | exact .inr ⟨rfl, rfl⟩
theorem isschema {v : D} (h : okV v = true) (hw : ∀ c r k, v = .tup [c, r, k] → (tupD r).length < 60 ∧ (tupD k).length < 60) : callF TT (n + 3) 4 [⟨.v, v⟩] m = .ok ⟨.v, .bl (schB v)⟩ m := by
  have F := call_eq (T := TT) (f := 4) (n := n + 2) (fn := f_is_schema) m rfl
  have notup : v.tyB .tup = some false → schB v = false → callF TT (n + 3) 4 [⟨.v, v⟩] m = .ok ⟨.v, .bl (schB v)⟩ m := fun h1 h2 => by
    simp [F, f_is_schema, h1, h2]
  cases v with
  | tup ds =>
    have hh := okVs_iff.mp (show okVs ds = true from h)
    rcases ds with _ | ⟨c, _ | ⟨r, _ | ⟨k, _ | ⟨x, t⟩⟩⟩⟩
    · simp [F, f_is_schema, schB]
    · simp [F, f_is_schema, schB]
    · simp [F, f_is_schema, schB]
    · obtain ⟨w1, w2⟩ := hw c r k rfl
      have hc := e0 (n := n + 1) (m := m) (kept := letters) (hh c (by simp))
      simp only [letters] at hc
      by_cases q : setB letters c = true
      · obtain ⟨s, rfl⟩ := set_str q
        have q' := q
        simp only [letters] at q'
        by_cases l1 : 1 ≤ s.length
        · by_cases l5 : s.length ≤ 5
          · have l1' : (1 : Int) ≤ s.length := by omega
            have l5' : (s.length : Int) ≤ 5 := by omega
            rcases tup_or (hh r (by simp)) with ⟨rs, rfl, hrs⟩ | ⟨tr, ir⟩
            · have hrs := okVs_iff.mp hrs
              simp [F, f_is_schema, hc, q', l1', l5']
              rw [compR_mapD (fun d => .bl (ruleB s d)) (fun x hx => by simp [isrule (n := n) (m := m) (kept := s) (hrs x hx)])]
              rcases allor (ruleB s) rs with ⟨⟨a1, a2⟩, a3⟩ | ⟨⟨a1, a2⟩, a3⟩
              · have rr : ∀ d ∈ rs, ruleB s d = true := by simpa using a3
                obtain ⟨k1, ek1⟩ := lens_rules rr w1
                have d1 := dis_of ek1
                rcases tup_or (hh k (by simp)) with ⟨ks, rfl, hks⟩ | ⟨tk, ik⟩
                · have hks := okVs_iff.mp hks
                  simp [a1]
                  rw [compR_mapD (fun d => .bl (keyB s d)) (fun x hx => by
                    have hx' := e0 (n := n + 1) (m := m) (kept := s) (hks x hx)
                    by_cases z : setB s x = true
                    · obtain ⟨y, rfl⟩ := set_str z
                      simp [hx', z, keyB, neB]
                    · simp [hx', z, keyB])]
                  rcases allor (keyB s) ks with ⟨⟨b1, b2⟩, b3⟩ | ⟨⟨b1, b2⟩, b3⟩
                  · have rk : ∀ d ∈ ks, keyB s d = true := by simpa using b3
                    obtain ⟨k2, ek2⟩ := lens_keys rk w2
                    have d2 := dis_of ek2
                    by_cases z : (k1 : Int) = rs.length <;> simp [b1, ek1, ek2, d1, d2, z, schB, partB, q, strLen, l1, l5, tupD, strD, a3, b3]
                  · simp [b1, schB, partB, q, strLen, l1, l5, tupD, strD, a3, b3]
                · simp [a1, tk, schB, partB, q, strLen, l1, l5, tupD, strD, a3, ik]
              · simp [a1, schB, partB, q, strLen, l1, l5, tupD, strD, a3]
            · simp [F, f_is_schema, hc, q', l1', l5', tr, schB, partB, ir]
          · have l5' : ¬ (s.length : Int) ≤ 5 := by omega
            have l1' : (1 : Int) ≤ s.length := by omega
            simp [F, f_is_schema, hc, q', l1', l5', schB, partB, strLen, l5]
        · have l1' : ¬ (1 : Int) ≤ s.length := by omega
          simp [F, f_is_schema, hc, q', l1', schB, partB, strLen, l1]
      · have q' := q
        simp only [letters] at q'
        simp [F, f_is_schema, hc, q', schB, partB, q]
    · have n4 : ¬ ((t.length : Int) + 1 + 1 + 1 + 1 = 3) := by omega
      simp [F, f_is_schema, schB, n4]
  | ref _ => simp [okV] at h
  | scr _ => simp [okV] at h
  | _ => exact notup rfl rfl



theorem one_le {a b : Nat} (h : a < b) : [a] ≤ [b] := List.le_of_lt (List.Lex.rel h)
theorem one_asc {x : Sg} (h : x.Pairwise (· < ·)) : sortS (dedupS (Dn.Q.one x)) = Dn.Q.one x := by
  have nd : (Dn.Q.one x).Nodup := by
    unfold Dn.Q.one
    exact List.Pairwise.map _ (fun a b (hab : a ≠ b) e => hab (by simpa using e)) (h.imp Nat.ne_of_lt)
  have as : (Dn.Q.one x).Pairwise (· ≤ ·) := List.Pairwise.map _ (fun a b hab => one_le hab) h
  rw [dedupS_eq nd, sortS_eq as]
theorem set_true {kept x : Sg} (h1 : x.Pairwise (· < ·)) (h : ∀ c ∈ x, c ∈ kept) : setB kept (.str x) = true := by
  have e := one_asc h1
  show (x.all (fun c => decide (c ∈ kept)) && (Dn.Q.one x == sortS (dedupS (Dn.Q.one x)))) = true
  rw [e]
  simp
  exact h
theorem let_all : ((List.range 123).all fun c => decide (c < 97) || letters.contains c) = true := by decide
theorem in_let {c : Nat} (h1 : 97 ≤ c) (h2 : c ≤ 122) : c ∈ letters := by
  have := List.all_eq_true.mp let_all c (by rw [List.mem_range]; omega)
  rw [Bool.or_eq_true, decide_eq_true_eq] at this
  rcases this with h | h
  · omega
  · simpa using h
theorem tups_rules : ∀ rules : List (Sg × Nat), tups? (rules.map ruleD) = some (rules.map fun p => [p.1, [p.2]])
  | [] => rfl
  | p :: r => by
    show (some [p.1, [p.2]]).bind (fun k => (tups? (r.map ruleD)).map (k :: ·)) = _
    rw [tups_rules r]; rfl
theorem dedupK_eq : ∀ {l : List (List Sg)}, l.Nodup → dedupK l = l
  | [], _ => rfl
  | x :: r, h => by
    rw [List.nodup_cons] at h
    show (if x ∈ r then dedupK r else x :: dedupK r) = _
    rw [if_neg h.1, dedupK_eq h.2]
variable {cols : Sg} {rules : List (Sg × Nat)} {keys : List Sg}
theorem dis_rules (hl : rules.length < 60) (hd : rules.Nodup) : disB (rules.map ruleD) = some true := by
  have nd : (rules.map fun p => ([p.1, [p.2]] : List Sg)).Nodup := List.Pairwise.map _ (fun a b (hab : a ≠ b) e => hab (by
    obtain ⟨a1, a2⟩ := a
    obtain ⟨b1, b2⟩ := b
    simp at e
    rw [e.1, e.2])) hd
  have e : lensetD (.tup (rules.map ruleD)) = some ⟨.v, .int (rules.length : Nat)⟩ := by
    cases rules with
    | nil => rfl
    | cons p r =>
      show (tups? ((p :: r).map ruleD)).bind (fun ks => if ks.length < 60 then _ else _) = _
      rw [tups_rules]
      show (if ((p :: r).map fun p => ([p.1, [p.2]] : List Sg)).length < 60 then _ else _) = _
      rw [List.length_map, if_pos hl, dedupK_eq nd, List.length_map]
  rw [dis_of e, List.length_map]; simp
theorem dis_keys (hl : keys.length < 60) (hd : keys.Nodup) : disB (keys.map .str) = some true := by
  have e : lensetD (.tup (keys.map .str)) = some ⟨.v, .int (keys.length : Nat)⟩ := by
    show (match strs? (keys.map .str) with | some ss => _ | none => _) = _
    rw [strs_map]
    show (if keys.length < 4000 then _ else _) = _
    rw [if_pos (by omega), dedupS_eq hd]
  rw [dis_of e, List.length_map]; simp
theorem sch_true (so : SchOk cols rules keys) : schB (schD cols rules keys) = true := by
  have h1 : 1 ≤ cols.length := List.length_pos_iff.mpr so.ne
  have h5 := so.len
  have a1 : setB letters (.str cols) = true := set_true so.as fun c hc => in_let (so.ch c hc).1 (so.ch c hc).2
  have a2 : (rules.map ruleD).all (ruleB cols) = true := by
    rw [List.all_map, List.all_eq_true]
    intro p hp
    obtain ⟨r1, r2⟩ := so.rl p hp
    have r3 := so.rx p hp
    show (setB cols (.str p.1) && (chrB cols (.str [p.2]) && outB (.str [p.2]) (.str p.1))) = true
    rw [set_true (so.as.sublist r1) fun c hc => r1.subset hc]
    simp [chrB, r2, outB, r3]
  have a3 : (keys.map D.str).all (keyB cols) = true := by
    rw [List.all_map, List.all_eq_true]
    intro p hp
    obtain ⟨r1, r2⟩ := so.ky p hp
    show (setB cols (.str p) && neB (.str p)) = true
    rw [set_true (so.as.sublist r2) fun c hc => r2.subset hc]
    simp [neB, r1]
  have r8 := so.rlen
  have k2 := so.klen
  simp [schD, schB, partB, a1, strLen, h1, h5, tupD, strD, a2, a3, dis_rules (by omega) so.rd, dis_keys (by omega) so.kd]
end K02

/-! K02n -/
set_option Elab.async false
set_option linter.all false
set_option maxRecDepth 100000
set_option maxHeartbeats 2000000
/-! K02n: closures of pairs, alike tables. -/
namespace K02
open Dn Dn.Q
section
variable {n : Nat} {cols : Sg} {rules : List (Sg × Nat)} {keys : List Sg} {m : Mu}
theorem strs_fn {α : Type} (f : α → Nat) : ∀ xs : List α, strs? (xs.map fun x => D.str [f x]) = some ((xs.map f).map fun c => [c])
  | [] => rfl
  | x :: r => by
    show (strs? (r.map fun x => D.str [f x])).map _ = _
    rw [strs_fn f r]; rfl
theorem sum_chr (u : Sg) : ((u.map fun c => [c]).map List.length).sum = u.length := by
  induction u with
  | nil => rfl
  | cons c r ih => simp [List.sum_cons] at ih ⊢; omega
def uni (cols a b : Sg) : Sg := cols.filter fun c => decide (c ∈ a ++ b)
theorem union_ok (a b : Sg) (hl : cols.length ≤ 100) (h2 : a.length + b.length ≤ 1000) : callF TT (n + 1) 19 [⟨.v, .str cols⟩, ⟨.v, .str a⟩, ⟨.v, .str b⟩] m = .ok ⟨.v, .str (uni cols a b)⟩ m := by
  have F := call_eq (T := TT) (f := 19) (n := n) (fn := f__law_union) m rfl
  have b1 : a.length + b.length ≤ big := show _ ≤ 16777216 by omega
  have b2 : (uni cols a b).length ≤ big := Nat.le_trans (List.length_filter_le _ _) (show cols.length ≤ 16777216 by omega)
  simp [F, f__law_union]
  rw [compR_fil (enc := fun c => D.str [c]) (fun c => decide (c ∈ a ++ b)) (fun c => .str [c]) (fun x hx => by by_cases q : x ∈ a <;> by_cases q2 : x ∈ b <;> simp [q, q2, b1])]
  simp only [mb_ok]
  simp [strs_fn (fun c : Nat => c), -List.map_map, -List.mem_append, -Bool.decide_or]
  rw [sum_chr, join_ones]
  unfold uni at b2 ⊢
  simp only [b2]
  simp
def JP (sch : D) (one other both : Sg) (m0 : Mu) (r : List Sg) (ρ : Env) (m : Mu) : Prop := ∃ x4 x5, m = m0 ∧ ρ = [.val sch, .val (.str one), .val (.str other), .val (.str both), x4, x5] ∧ ∀ s ∈ r, s = one ∨ s = other
theorem uni_sub {a b : Sg} : ∀ c ∈ uni cols a b, c ∈ cols := fun c hc => (List.mem_filter.mp hc).1
theorem uni_mem {a b : Sg} {c : Nat} (hc : c ∈ cols) : c ∈ uni cols a b ↔ c ∈ a ∨ c ∈ b := by
  unfold uni; simp [hc]
theorem pair_ok (sc : SchC cols rules) {one other : Sg} (h1 : ∀ c ∈ one, c ∈ cols) (h2 : ∀ c ∈ other, c ∈ cols) (l1 : one.length ≤ 100) (l2 : other.length ≤ 100) :
    callF TT (n + 3) 20 [⟨.v, schD cols rules keys⟩, ⟨.v, .str one⟩, ⟨.v, .str other⟩] m = .ok ⟨.v, .bl true⟩ m := by
  have F := call_eq (T := TT) (f := 20) (n := n + 2) (fn := f__law_pair_right) m rfl
  have h5 := sc.len
  have cl : ∀ (s : Sg) m, (∀ c ∈ s, c ∈ cols) → s.length ≤ 1000 → callF TT (n + 2) 7 [⟨.v, schD cols rules keys⟩, ⟨.v, .str s⟩] m = .ok ⟨.v, .str (clos cols rules keys s)⟩ m := fun s m hs hl => clos_okC (T := TT) (i := 7) (ca := 5) (n := n) sc rfl rfl (by decide) hs hl
  have fl : ∀ s, (clos cols rules keys s).length ≤ 5 := fun s => Nat.le_trans (List.length_filter_le _ _) h5
  have ix0 : ∀ m, ixS m (schD cols rules keys) (.int 0) = some (.str cols) := fun m => rfl
  have ul : ∀ a b, (uni cols a b).length ≤ 5 := fun a b => Nat.le_trans (List.length_filter_le _ _) h5
  have ai : ∀ (p f : Sg) m, callF TT (n + 2) 18 [⟨.v, .str p⟩, ⟨.v, .str f⟩] m = .ok ⟨.v, .bl (p.all fun c => decide (c ∈ f))⟩ m := fun p f m => allin_ok (T := TT) (i := 18) (n := n + 1) rfl f p
  have cs : ∀ s, ∀ c ∈ clos cols rules keys s, c ∈ cols := fun s => clos_sub sc
  have eb : clos cols rules keys (uni cols (clos cols rules keys one) (clos cols rules keys other)) = clos cols rules keys (uni cols one other) := by
    refine clos_eq fun c => ⟨?_, ?_⟩
    · refine clos_min sc uni_sub (clos_clsd sc uni_sub) (fun c hc => ?_) c
      have hcc := uni_sub c hc
      rcases (uni_mem hcc).mp hc with z | z
      · exact clos_mono sc sc (fun p h => h) (fun k h => h) h1 uni_sub (fun c hc => (uni_mem (h1 c hc)).mpr (.inl hc)) c z
      · exact clos_mono sc sc (fun p h => h) (fun k h => h) h2 uni_sub (fun c hc => (uni_mem (h2 c hc)).mpr (.inr hc)) c z
    · refine clos_mono sc sc (fun p h => h) (fun k h => h) uni_sub uni_sub (fun c hc => ?_) c
      have hcc := uni_sub c hc
      exact (uni_mem hcc).mpr ((uni_mem hcc).mp hc |>.imp (clos_ext sc h1 c) (clos_ext sc h2 c))
  have q : Ok (callF TT (n + 3) 20 [⟨.v, schD cols rules keys⟩, ⟨.v, .str one⟩, ⟨.v, .str other⟩] m) fun r m' => r = ⟨.v, .bl true⟩ ∧ m' = m := by
    have e1 := union_ok (n := n + 1) (m := m) (cols := cols) one other (by omega) (by omega)
    have e2 := cl (uni cols one other) m uni_sub (by have := ul one other; omega)
    simp [F, f__law_pair_right, ix0, e1, e2]
    refine for_rule (P := fun o => Ok (finF (seqS o _)) _) (J := JP (schD cols rules keys) one other (clos cols rules keys (uni cols one other)) m) (enc := D.str) [one, other] _ _ ⟨_, _, rfl, rfl, by simp⟩ ?_ ?_
    · rintro s r _ m1 ⟨x4, x5, rfl, rfl, hs⟩
      have hs0 := hs s List.mem_cons_self
      have s1 : ∀ c ∈ s, c ∈ cols := by rcases hs0 with rfl | rfl <;> assumption
      have s2 : s.length ≤ 1000 := by rcases hs0 with rfl | rfl <;> omega
      have e3 := cl s m1 s1 s2
      have e4 := cl (clos cols rules keys s) m1 (cs s) (by have := fl s; omega)
      rw [clos_idem sc s1] at e4
      have a1 : (s.all fun c => decide (c ∈ clos cols rules keys s)) = true := by simpa using clos_ext (keys := keys) sc s1
      have a2 : ((clos cols rules keys s).all fun c => decide (c ∈ clos cols rules keys (uni cols one other))) = true := by
        have := clos_mono (keys := keys) (keys2 := keys) sc sc (fun p h => h) (fun k h => h) s1 (uni_sub (a := one) (b := other)) (fun c hc => (uni_mem (s1 c hc)).mpr (by rcases hs0 with rfl | rfl; exact .inl hc; exact .inr hc))
        simpa using this
      have a3 := ai s (clos cols rules keys s) m1
      have a4 := ai (clos cols rules keys s) (clos cols rules keys (uni cols one other)) m1
      rw [a1] at a3
      rw [a2] at a4
      simp [e3, e4, a3, a4]
      exact ⟨_, _, rfl, rfl, fun t ht => hs t (List.mem_cons_of_mem _ ht)⟩
    · rintro _ m1 ⟨x4, x5, rfl, rfl, _⟩
      have e3 := cl one m1 h1 (by omega)
      have e4 := cl other m1 h2 (by omega)
      have e5 := union_ok (n := n + 1) (m := m1) (cols := cols) (clos cols rules keys one) (clos cols rules keys other) (by omega) (by have := fl one; have := fl other; omega)
      have e6 := cl (uni cols (clos cols rules keys one) (clos cols rules keys other)) m1 uni_sub (by have := ul (clos cols rules keys one) (clos cols rules keys other); omega)
      rw [eb] at e6
      simp [ix0, e3, e4, e5, e6]
  obtain ⟨r, m', e, rfl, rfl⟩ := q.eq
  exact e
end
end K02

/-! K02o -/
set_option Elab.async false
set_option linter.all false
set_option maxRecDepth 100000
set_option maxHeartbeats 2000000
/-! K02o: alike tables. -/
namespace K02
open Dn Dn.Q
def JT (sch : D) (xs ys : List Int) (b : Bool) (m0 : Mu) (r : List (Int × List Int)) (ρ : Env) (m : Mu) : Prop := ∃ x2 x3 x4, m = m0 ∧ ρ = [.val sch, .val (.lst [.tup (xs.map .int), .tup (ys.map .int)]), x2, x3, x4] ∧ (r = [(0, xs), (1, ys)] ∨ r = [(1, ys)] ∨ (r = [] ∧ b = true))
section
variable {n : Nat} {cols : Sg} {rules : List (Sg × Nat)} {keys : List Sg} {m : Mu}
/-- the row number i of an alike table -/
def alk (cols f : Sg) (i : Int) : List Int := cols.map fun c => if c ∈ f then 0 else i
theorem alk_len (f : Sg) (i : Int) : (alk cols f i).length = cols.length := by simp [alk]
theorem alike_ok (so : SchOk cols rules keys) {s : Sg} (hs : ∀ c ∈ s, c ∈ cols) (hl : s.length ≤ 1000) (hn : keyIn keys (clos cols rules keys s) = false) :
    callF TT (n + 4) 12 [⟨.v, schD cols rules keys⟩, ⟨.v, .str s⟩, ⟨.v, .int 2⟩] m = .ok ⟨.f, .lst [.tup ((alk cols (clos cols rules keys s) 0).map .int), .tup ((alk cols (clos cols rules keys s) 1).map .int)]⟩ m := by
  have F := call_eq (T := TT) (f := 12) (n := n + 3) (fn := f_alike_table) m rfl
  have e1 := uniq_ok (T := TT) (j := 6) (cl := 7) (ca := 5) (n := n) (m := m) so rfl rfl rfl (by decide) hs hl
  rw [hn] at e1
  have e2 := clos_ok (T := TT) (i := 7) (ca := 5) (n := n + 1) (m := m) so rfl rfl (by decide) hs hl
  have ix0 : ∀ m, ixS m (schD cols rules keys) (.int 0) = some (.str cols) := fun m => rfl
  have row : ∀ (k : Nat), ((cols.map fun c => D.int (if c ∈ clos cols rules keys s then 0 else (k : Int)))) = (alk cols (clos cols rules keys s) k).map .int := fun k => by
    unfold alk; rw [List.map_map]; rfl
  simp [F, f_alike_table, e1, e2]
  rw [compR_map (enc := fun (k : Nat) => D.int k) (fun k => .tup ((alk cols (clos cols rules keys s) k).map .int)) (fun k hk => by
    simp [ix0]
    rw [compR_map (enc := fun c => D.str [c]) (fun c => D.int (if c ∈ clos cols rules keys s then 0 else (k : Int))) (fun c hc => by by_cases q : c ∈ clos cols rules keys s <;> simp [q])]
    rw [row k]
    simp)]
  simp [List.range_succ]
theorem row_ok (so : SchOk cols rules keys) {xs : List Int} (hx : xs.length = cols.length) : callF TT (n + 2) 9 [⟨.v, schD cols rules keys⟩, ⟨.v, .tup (xs.map .int)⟩] m = .ok ⟨.v, .bl true⟩ m := by
  have F := call_eq (T := TT) (f := 9) (n := n + 1) (fn := f_is_row) m rfl
  have ix0 : ∀ m, ixS m (schD cols rules keys) (.int 0) = some (.str cols) := fun m => rfl
  have ii : ∀ (i : Int) m, callF TT (n + 1) 0 [⟨.v, .int i⟩] m = .ok ⟨.v, .bl true⟩ m := fun i m => by
    have F := call_eq (T := TT) (f := 0) (n := n) (fn := f_is_integer) m rfl
    simp [F, f_is_integer, D.tyB]
  simp [F, f_is_row, ix0, hx]
  rw [compR_map (enc := D.int) (fun _ => .bl true) (fun k hk => by simp [ii])]
  have e1 := bools_map (fun _ : Int => true) xs
  simp [e1]
theorem table2_ok (so : SchOk cols rules keys) {xs ys : List Int} (hx : xs.length = cols.length) (hy : ys.length = cols.length) :
    callF TT (n + 3) 11 [⟨.v, schD cols rules keys⟩, ⟨.v, .lst [.tup (xs.map .int), .tup (ys.map .int)]⟩] m = .ok ⟨.v, .bl (fitB cols rules keys ys xs)⟩ m := by
  have F := call_eq (T := TT) (f := 11) (n := n + 2) (fn := f_is_table) m rfl
  have r1 := fun m => row_ok (n := n) (m := m) so hx
  have r2 := fun m => row_ok (n := n) (m := m) so hy
  have f1 := fun m => fit_ok (T := TT) (f := 10) (cl := 8) (n := n) (m := m) rfl rfl so hy hx
  have z0 : sliL ([.tup (xs.map .int), .tup (ys.map .int)] : List D) none (some 0) = [] := rfl
  have z1 : sliL ([.tup (xs.map .int), .tup (ys.map .int)] : List D) none (some 1) = [.tup (xs.map .int)] := rfl
  have tl : ∀ ds, D.tyB (.lst ds) .lst = some true := fun _ => rfl
  have bb : ∀ b : Bool, bools? [D.bl b] = some [b] := fun _ => rfl
  have b2 : bools? [D.bl true, D.bl true] = some [true, true] := rfl
  have b0 : bools? [] = some [] := rfl
  have c0 : ∀ (f : D → Mu → Out (Option D)) m, compR f [] m = .ok [] m := fun _ _ => rfl
  have z0 : sliL ([.tup (xs.map .int), .tup (ys.map .int)] : List D) none (some 0) = [] := rfl
  have z1 : sliL ([.tup (xs.map .int), .tup (ys.map .int)] : List D) none (some 1) = [.tup (xs.map .int)] := rfl
  have en : enumD (.lst [.tup (xs.map .int), .tup (ys.map .int)]) = some [.tup [.int 0, .tup (xs.map .int)], .tup [.int 1, .tup (ys.map .int)]] := rfl
  have en2 : ([.tup [.int 0, .tup (xs.map .int)], .tup [.int 1, .tup (ys.map .int)]] : List D) = ([(0, xs), (1, ys)] : List (Int × List Int)).map fun p => .tup [.int p.1, .tup (p.2.map .int)] := rfl
  rw [en2] at en
  have q : Ok (callF TT (n + 3) 11 [⟨.v, schD cols rules keys⟩, ⟨.v, .lst [.tup (xs.map .int), .tup (ys.map .int)]⟩] m) fun r m' => r = ⟨.v, .bl (fitB cols rules keys ys xs)⟩ ∧ m' = m := by
    simp [F, f_is_table, tl]
    rw [compR_mapD (fun _ => .bl true) (fun x hx => by
      rcases List.mem_cons.mp hx with rfl | hx
      · simp [r1]
      · rw [List.mem_singleton.mp hx]; simp [r2])]
    simp [b2]
    simp only [en, opo_some, mb_ok, bndS_ok]
    refine for_rule (P := fun o => Ok (finF (seqS o _)) _) (J := JT (schD cols rules keys) xs ys (fitB cols rules keys ys xs) m) (enc := fun p : Int × List Int => D.tup [.int p.1, .tup (p.2.map .int)]) [(0, xs), (1, ys)] _ _ ⟨_, _, _, rfl, rfl, .inl rfl⟩ ?_ ?_
    · rintro p r _ m1 ⟨x2, x3, x4, rfl, rfl, hr⟩
      rcases hr with hr | hr | ⟨hr, _⟩
      · cases hr
        simp [z0, c0, b0]
        exact ⟨_, _, _, rfl, rfl, .inr (.inl rfl)⟩
      · cases hr
        simp [z1]
        rw [compR_mapD (fun _ => .bl (fitB cols rules keys ys xs)) (fun x hx => by rw [List.mem_singleton.mp hx]; simp [f1])]
        cases q : fitB cols rules keys ys xs <;> simp [bb]
        exact ⟨_, _, _, rfl, rfl, .inr (.inr ⟨rfl, rfl⟩)⟩
      · cases hr
    · rintro _ m1 ⟨x2, x3, x4, rfl, rfl, hr⟩
      rcases hr with hr | hr | ⟨_, hr⟩
      · cases hr
      · cases hr
      · simp [hr]
  obtain ⟨r, m', e, rfl, rfl⟩ := q.eq
  exact e
/-- the two rows of an alike table fit as the rules say -/
theorem cell_eq {f l : Sg} (hl : ∀ c ∈ l, c ∈ cols) : (cellI cols (alk cols f 1) l == cellI cols (alk cols f 0) l) = l.all fun c => decide (c ∈ f) := by
  have at_ : ∀ (i : Int) (c : Nat), c ∈ cols → (alk cols f i).getD (cols.idxOf c) 0 = if c ∈ f then 0 else i := fun i c hc => by
    have hi := List.idxOf_lt_length_iff.mpr hc
    unfold alk
    rw [List.getD_eq_getElem?_getD, List.getElem?_map, List.getElem?_eq_getElem hi]
    show (if cols[cols.idxOf c] ∈ f then 0 else i) = _
    rw [List.getElem_idxOf hi]
  have e : ∀ i, cellI cols (alk cols f i) l = l.map fun c => if c ∈ f then 0 else i := fun i => List.map_congr_left fun c hc => at_ i c (hl c hc)
  rw [e, e, Bool.eq_iff_iff, beq_iff_eq]
  clear e hl
  induction l with
  | nil => simp
  | cons c r ih =>
    rw [List.map_cons, List.map_cons, List.all_cons, Bool.and_eq_true, ← ih]
    by_cases q : c ∈ f <;> simp [q]
theorem alike_fit (so : SchOk cols rules keys) {l : Sg} {c : Nat} (hl : l.Sublist cols) (hc : c ∈ cols) (hn : keyIn keys (clos cols rules keys l) = false) :
    fitB cols (rules ++ [(l, c)]) keys (alk cols (clos cols rules keys l) 1) (alk cols (clos cols rules keys l) 0) = decide (c ∈ clos cols rules keys l) := by
  have sc := so.c (Nat.le_refl 8)
  have hs : ∀ c ∈ l, c ∈ cols := fun c hc => hl.subset hc
  have cl := clos_clsd (keys := keys) sc hs
  have rl : ∀ p : Sg × Nat, p.1.Sublist cols → p.2 ∈ cols → rlB cols (alk cols (clos cols rules keys l) 1) (alk cols (clos cols rules keys l) 0) p = (!(p.1.all fun c => decide (c ∈ clos cols rules keys l)) || decide (p.2 ∈ clos cols rules keys l)) := fun p h1 h2 => by
    unfold rlB
    rw [cell_eq fun c hc => h1.subset hc, cell_eq fun c hc => by rw [List.mem_singleton.mp hc]; exact h2]
    simp
  have e1 : rules.all (rlB cols (alk cols (clos cols rules keys l) 1) (alk cols (clos cols rules keys l) 0)) = true := by
    rw [List.all_eq_true]
    intro p hp
    rw [rl p (so.rl p hp).1 (so.rl p hp).2]
    have := cl.rl p hp
    rw [Bool.or_eq_true, Bool.not_eq_true', decide_eq_true_eq]
    by_cases q : ∀ c ∈ p.1, c ∈ clos cols rules keys l
    · exact .inr (this q)
    · exact .inl (by simpa using q)
  have e2 : (keys.all fun k => !(cellI cols (alk cols (clos cols rules keys l) 1) k == cellI cols (alk cols (clos cols rules keys l) 0) k)) = true := by
    rw [List.all_eq_true]
    intro k hk
    rw [cell_eq fun c hc => (so.ky k hk).2.subset hc]
    have : ¬ ∀ c ∈ k, c ∈ clos cols rules keys l := fun h => by
      rw [keyIn_iff.mpr ⟨k, hk, h⟩] at hn
      cases hn
    simpa using this
  have e3 : (l.all fun c => decide (c ∈ clos cols rules keys l)) = true := by simpa using clos_ext (keys := keys) sc hs
  unfold fitB
  rw [List.all_append, e1, e2]
  simp [rl (l, c) hl hc, e3]
end
end K02

/-! K02p -/
set_option Elab.async false
set_option linter.all false
set_option maxRecDepth 100000
set_option maxHeartbeats 4000000
/-! K02p: the law. -/
namespace K02
open Dn Dn.Q
@[simp] theorem E_mrepl {C : Cx} {a b c : CE} {ρ : Env} {m : Mu} : evE C (.mreplace a b c) ρ m = (evE C a ρ m).bnd fun x m => opo x.d.str? fun s => (evE C b ρ m).bnd fun y m => (evE C c ρ m).bnd fun z m => opo y.d.chr? fun k => opo z.d.str? fun t => if s.length + (s.length + 1) * t.length ≤ big then .ok ⟨.v, .str (replS s k t)⟩ m else .st := by
  rw [evE]; simp only [mb_ok, mb_bind', mb_pure, bnd_opt, opt_opo, gd_ite, ite_m, dec_tr, bnd_opo, itemsM, bit]; try rfl
@[simp] theorem ne_bl2 (a b : Bool) : cmpD .ne (.bl a) (.bl b) = some (!(a == b)) := rfl
section
variable {n : Nat} {cols : Sg} {rules : List (Sg × Nat)} {keys : List Sg}
def JL (ns : List Int) (r : List Nat) (ρ : Env) (m : Mu) : Prop := ∃ b x2 x3 x4 x5 x6 x7 x8 x9 x10 x11 x12 x13 x14, ρ = [.val (.scr ns), .val (.ref 0), x2, x3, x4, x5, x6, x7, x8, x9, x10, x11, x12, x13, x14] ∧ Pen b m ∧ b + 200 * r.length ≤ 10000
theorem more_ok (so : SchN 7 cols rules keys) {l : Sg} {c : Nat} (hl : l.Sublist cols) (hc : c ∈ cols) (hx : c ∉ l) (hm : (l, c) ∉ rules) : SchOk cols (rules ++ [(l, c)]) keys := by
  refine { so with rl := fun p hp => ?_, rlen := ?_, rx := fun p hp => ?_, rd := ?_ }
  · rcases List.mem_append.mp hp with hp | hp
    · exact so.rl p hp
    · rw [List.mem_singleton.mp hp]; exact ⟨hl, hc⟩
  · rw [List.length_append]; have := so.rlen; simp; omega
  · rcases List.mem_append.mp hp with hp | hp
    · exact so.rx p hp
    · rw [List.mem_singleton.mp hp]; exact hx
  · refine List.nodup_append.mpr ⟨so.rd, by simp, fun a ha b hb e => ?_⟩
    rw [List.mem_singleton.mp hb] at e
    exact hm (e ▸ ha)
theorem keys_ok (so : SchOk cols rules keys) {k : Sg} (hk : k.Sublist cols) : SchC cols rules := so.c (Nat.le_refl 8)
instance : EqEnc ruleD := ⟨fun _ => rfl, fun _ => by show 1 ≤ 50; decide, fun a b => by
  show ((a.1 == b.1) && (([a.2] == [b.2]) && true)) = (a == b)
  rw [Bool.eq_iff_iff]
  simp [Prod.ext_iff]⟩
theorem mem_rules (l : Sg) (c : Nat) : inD (.tup [.str l, .str [c]]) (.tup (rules.map ruleD)) = some (decide ((l, c) ∈ rules)) := by
  refine (isin_tup (enc := ruleD) (l, c) rules).trans ?_
  congr 1
  rw [Bool.eq_iff_iff]; simp
theorem mem_keys (s : Sg) : inD (.str s) (.tup (keys.map .str)) = some (decide (s ∈ keys)) := by
  refine (isin_tup (enc := D.str) s keys).trans ?_
  congr 1
  rw [Bool.eq_iff_iff]; simp
theorem clos_rule (sc : SchC cols rules) {l : Sg} {c : Nat} (sc2 : SchC cols (rules ++ [(l, c)])) (hl : ∀ x ∈ l, x ∈ cols) (hf : c ∈ clos cols rules keys l) {s : Sg} (hs : ∀ c ∈ s, c ∈ cols) : clos cols (rules ++ [(l, c)]) keys s = clos cols rules keys s := by
  refine clos_eq fun x => ⟨?_, ?_⟩
  · have cl := clos_clsd (keys := keys) sc hs
    refine clos_min sc2 hs ⟨fun p hp h => ?_, cl.ky⟩ (clos_ext sc hs) x
    rcases List.mem_append.mp hp with z | z
    · exact cl.rl p z h
    · rw [List.mem_singleton.mp z] at h ⊢
      exact clos_min sc hl cl h c hf
  · exact clos_mono sc sc2 (fun p h => List.mem_append_left _ h) (fun k h => h) hs hs (fun c h => h) x
theorem clos_key (sc : SchC cols rules) {k : Sg} (hk : ∀ x ∈ k, x ∈ cols) : clos cols rules (keys ++ [k]) k = cols := by
  have cl := clos_clsd (keys := keys ++ [k]) sc hk
  have h := cl.ky k (List.mem_append_right _ (List.mem_singleton.mpr rfl)) (clos_ext sc hk)
  unfold clos
  refine List.filter_eq_self.mpr fun c hc => ?_
  have := (List.mem_filter.mp (h c hc)).2
  exact this
theorem sch_okV (so : SchOk cols rules keys) : okV (schD cols rules keys) = true := by
  have h5 := so.len
  have st : ∀ s : Sg, s.length < 64 → okV (.str s) = true := fun s h => by show decide (s.length < 64) = true; rw [decide_eq_true_eq]; exact h
  refine okVs_iff.mpr fun d hd => ?_
  simp only [List.mem_cons, List.not_mem_nil, or_false] at hd
  rcases hd with rfl | rfl | rfl
  · exact st _ (by omega)
  · refine okVs_iff.mpr fun d hd => ?_
    obtain ⟨p, hp, rfl⟩ := List.mem_map.mp hd
    refine okVs_iff.mpr fun d hd => ?_
    have := (so.rl p hp).1.length_le
    simp only [List.mem_cons, List.not_mem_nil, or_false] at hd
    rcases hd with rfl | rfl
    · exact st _ (by omega)
    · exact st _ (by simp)
  · refine okVs_iff.mpr fun d hd => ?_
    obtain ⟨k, hk, rfl⟩ := List.mem_map.mp hd
    have := (so.ky k hk).2.length_le
    exact st _ (by omega)
theorem law_ok (ns : List Int) : Ok (callF TT (n + 8) 21 [⟨.v, .scr ns⟩] []) fun r _ => r = ⟨.v, .bl true⟩ := by
  have F := call_eq (T := TT) (f := 21) (n := n + 7) (fn := f_law) ([] : Mu) rfl
  obtain ⟨r0, m0, e0, p0, rfl⟩ := (open_ok (T := TT) (f := 13) (n := n + 6) rfl ns).eq
  have hlim : lim = 1000000000 := rfl
  simp [F, f_law, e0]
  refine for_rule (P := fun o => Ok (finF (seqS o _)) _) (J := JL ns) _ _ _ ⟨0, _, _, _, _, _, _, _, _, _, _, _, _, _, rfl, p0, by simp⟩ ?_ ?_
  · rintro t r _ m ⟨b, x2, x3, x4, x5, x6, x7, x8, x9, x10, x11, x12, x13, x14, rfl, p, hb⟩
    rw [List.length_cons] at hb
    obtain ⟨_, m1, e1, p1, cols, rules, keys, rfl, so7⟩ := (schema_ok7 (T := TT) (f := 17) (tk := 15) (sb := 16) (sp := 14) (n := n + 3) rfl rfl rfl rfl (by omega) p 5 (by decide) (by decide)).eq
    have so := so7.up
    have sc := so.c (Nat.le_refl 8)
    have h5 := so.len
    obtain ⟨_, m2, e2, p2, one, rfl, ho⟩ := (subset_ok (T := TT) (f := 16) (tk := 15) (sp := 14) (n := n + 4) rfl rfl rfl cols (by omega) p1 (by omega)).eq
    obtain ⟨_, m3, e3, p3, other, rfl, ho2⟩ := (subset_ok (T := TT) (f := 16) (tk := 15) (sp := 14) (n := n + 4) rfl rfl rfl cols (by omega) p2 (by omega)).eq
    have os : ∀ c ∈ one, c ∈ cols := fun c hc => ho.subset hc
    have os2 : ∀ c ∈ other, c ∈ cols := fun c hc => ho2.subset hc
    have ol := ho.length_le
    have ol2 := ho2.length_le
    have e4 : ∀ m, callF TT (n + 7) 20 [⟨.v, schD cols rules keys⟩, ⟨.v, .str one⟩, ⟨.v, .str other⟩] m = .ok ⟨.v, .bl true⟩ m := fun m => pair_ok (n := n + 4) sc os os2 (by omega) (by omega)
    have cpos : 0 < cols.length := List.length_pos_iff.mpr so.ne
    obtain ⟨i, m4, e5, p4, i0, i1⟩ := tkg (T := TT) (tk := 15) (sp := 14) (n := n + 5) rfl rfl (by omega) p3 (cols.length : Int) (by omega) (by
      have : (2 : Int) ^ 200 = 1606938044258990275541962092341162602522202993782792835301376 := by decide
      omega)
    obtain ⟨c, hc, q0⟩ := ix_str_at (s := cols) (i := i) (m := m4) i0 i1
    have ec : idxD (.str cols) (.int i) = some (.str [c]) := q0
    have hls := (replS_sub one c).trans ho
    have hlx := replS_not one c
    have rb : one.length ≤ big := show _ ≤ 16777216 by omega
    have b1 : bindT (.tp [6, 7, 8]) (schD cols rules keys) = bindT (.tp [6, 7, 8]) (.tup [.str cols, .tup (rules.map ruleD), .tup (keys.map .str)]) := rfl
    have k1 : R.keep ⟨.v, schD cols rules keys⟩ = some (schD cols rules keys) := rfl
    have mr := mem_rules (rules := rules) (replS one c []) c
    have mk := mem_keys (keys := keys) one
    have hl1 := hls.length_le
    have ll : ∀ x ∈ replS one c [], x ∈ cols := fun x hx => hls.subset hx
    generalize hrl : replS one c [] = l at *
    have cl : ∀ (s : Sg) m, (∀ c ∈ s, c ∈ cols) → s.length ≤ 1000 → callF TT (n + 7) 7 [⟨.v, schD cols rules keys⟩, ⟨.v, .str s⟩] m = .ok ⟨.v, .str (clos cols rules keys s)⟩ m := fun s m hs hl => clos_okC (T := TT) (i := 7) (ca := 5) (n := n + 5) sc rfl rfl (by decide) hs hl
    have cO := fun m => cl other m os2 (by omega)
    have cL := fun m => cl l m ll (by omega)
    have ai : ∀ (p f : Sg) m, callF TT (n + 7) 18 [⟨.v, .str p⟩, ⟨.v, .str f⟩] m = .ok ⟨.v, .bl (p.all fun c => decide (c ∈ f))⟩ m := fun p f m => allin_ok (T := TT) (i := 18) (n := n + 6) rfl f p
    have fin : ∀ y11 y12 y13 y14, JL ns r [.val (.scr ns), .val (.ref 0), .val (.int t), .val (schD cols rules keys), .val (.str [c]), .val (.str l), .val (.str cols), .val (.tup (rules.map ruleD)), .val (.tup (keys.map .str)), .val (.str one), .val (.str other), y11, y12, y13, y14] m4 := fun y11 y12 y13 y14 => ⟨_, _, _, _, _, _, _, _, _, _, _, _, _, _, rfl, p4, by omega⟩
    have fin0 : one = [] → ∀ y11 y12 y13 y14, JL ns r [.val (.scr ns), .val (.ref 0), .val (.int t), .val (schD cols rules keys), .val (.str [c]), .val (.str l), .val (.str cols), .val (.tup (rules.map ruleD)), .val (.tup (keys.map .str)), .val (.str []), .val (.str other), y11, y12, y13, y14] m4 := fun h y11 y12 y13 y14 => h ▸ fin y11 y12 y13 y14
    have kb : keys.length + 1 ≤ big := show _ ≤ 16777216 by have := so.klen; omega
    have lit : (.tup [.str cols, .tup (rules.map ruleD), .tup (keys.map .str ++ [.str one])] : D) = schD cols rules (keys ++ [one]) := by simp [schD]
    have cl2 : ∀ (s : Sg) m, (∀ c ∈ s, c ∈ cols) → s.length ≤ 1000 → callF TT (n + 7) 7 [⟨.v, .tup [.str cols, .tup (rules.map ruleD), .tup (keys.map .str ++ [.str one])]⟩, ⟨.v, .str s⟩] m = .ok ⟨.v, .str (clos cols rules (keys ++ [one]) s)⟩ m := fun s m hs hl => by
      rw [lit]
      exact clos_okC (T := TT) (i := 7) (ca := 5) (n := n + 5) sc rfl rfl (by decide) hs hl
    have a1 := ai (clos cols rules keys other) (clos cols rules (keys ++ [one]) other) m4
    have a2 : ((clos cols rules keys other).all fun c => decide (c ∈ clos cols rules (keys ++ [one]) other)) = true := by
      have := clos_mono (keys := keys) (keys2 := keys ++ [one]) sc sc (fun p h => h) (fun k h => List.mem_append_left _ h) os2 os2 (fun c h => h)
      simpa using this
    rw [a2] at a1
    have a3 := cl2 one m4 os (by omega)
    rw [clos_key sc os] at a3
    have a4 := cl2 other m4 os2 (by omega)
    have c4 := cO m4
    by_cases hm : (l, c) ∈ rules
    · by_cases o0 : one = []
      · have f := fin0 o0
        simp [e1, e2, e3, e4, e5, ec, b1, k1, rb, hrl, mr, hm]
        simp [o0]
        exact f _ _ _ _
      · by_cases ok : one ∈ keys <;> simp [e1, e2, e3, e4, e5, ec, b1, k1, rb, hrl, mr, hm, o0, mk, ok, kb, c4, a1, a3, a4] <;> exact fin _ _ _ _
    · have so2 := more_ok so7 hls hc hlx hm
      have sc2 := so2.c (Nat.le_refl 8)
      have rb2 : rules.length + 1 ≤ big := show _ ≤ 16777216 by have := so.rlen; omega
      have lit2 : (.tup [.str cols, .tup (rules.map ruleD ++ [.tup [.str l, .str [c]]]), .tup (keys.map .str)] : D) = schD cols (rules ++ [(l, c)]) keys := by simp [schD, ruleD]
      have d1 : callF TT (n + 7) 4 [⟨.v, .tup [.str cols, .tup (rules.map ruleD ++ [.tup [.str l, .str [c]]]), .tup (keys.map .str)]⟩] m4 = .ok ⟨.v, .bl true⟩ m4 := by
        rw [lit2]
        have := isschema (n := n + 4) (m := m4) (v := schD cols (rules ++ [(l, c)]) keys) (sch_okV so2) (fun c' r' k' e => by cases e; simp only [tupD, List.length_map]; have := so2.rlen; have := so2.klen; omega)
        rw [sch_true so2] at this
        exact this
      have d2 : callF TT (n + 7) 7 [⟨.v, .tup [.str cols, .tup (rules.map ruleD ++ [.tup [.str l, .str [c]]]), .tup (keys.map .str)]⟩, ⟨.v, .str other⟩] m4 = .ok ⟨.v, .str (clos cols (rules ++ [(l, c)]) keys other)⟩ m4 := by
        rw [lit2]
        exact clos_okC (T := TT) (i := 7) (ca := 5) (n := n + 5) sc2 rfl rfl (by decide) os2 (by omega)
      have g1 := ai (clos cols rules keys other) (clos cols (rules ++ [(l, c)]) keys other) m4
      have g2 : ((clos cols rules keys other).all fun x => decide (x ∈ clos cols (rules ++ [(l, c)]) keys other)) = true := by
        have := clos_mono (keys := keys) (keys2 := keys) sc sc2 (fun p h => List.mem_append_left _ h) (fun k h => h) os2 os2 (fun c h => h)
        simpa using this
      rw [g2] at g1
      have g3 := cL m4
      have g4 : keyIn keys (clos cols rules keys l) = false → callF TT (n + 7) 12 [⟨.v, schD cols rules keys⟩, ⟨.v, .str l⟩, ⟨.v, .int 2⟩] m4 = .ok ⟨.f, .lst [.tup ((alk cols (clos cols rules keys l) 0).map .int), .tup ((alk cols (clos cols rules keys l) 1).map .int)]⟩ m4 := fun h => alike_ok (n := n + 3) so ll (by omega) h
      have g5 := table2_ok (n := n + 4) (m := m4) so2 (alk_len (cols := cols) (clos cols rules keys l) 0) (alk_len (clos cols rules keys l) 1)
      have g6 : keyIn keys (clos cols rules keys l) = false → callF TT (n + 7) 11 [⟨.v, .tup [.str cols, .tup (rules.map ruleD ++ [.tup [.str l, .str [c]]]), .tup (keys.map .str)]⟩, ⟨.v, .lst [.tup ((alk cols (clos cols rules keys l) 0).map .int), .tup ((alk cols (clos cols rules keys l) 1).map .int)]⟩] m4 = .ok ⟨.v, .bl (decide (c ∈ clos cols rules keys l))⟩ m4 := fun h => by
        rw [lit2]
        rw [alike_fit so hls hc h] at g5
        exact g5
      have g7 : c ∈ clos cols rules keys l → clos cols (rules ++ [(l, c)]) keys other = clos cols rules keys other := fun h => clos_rule sc sc2 ll h os2
      have ik2 := in_keys keys (clos cols rules keys l)
      cases fr : keyIn keys (clos cols rules keys l) with
      | true =>
        rw [fr] at ik2
        by_cases fo : c ∈ clos cols rules keys l
        · rw [g7 fo] at d2 g1
          by_cases o0 : one = [] <;> by_cases ok : one ∈ keys <;> simp [e1, e2, e3, e4, e5, ec, b1, k1, rb, hrl, mr, hm, rb2, d1, c4, d2, g1, g3, fo] <;>
          (rw [compR_map (enc := D.str) (fun k => .bl (k.all fun c => decide (c ∈ clos cols rules keys l))) (fun k hk => by simp [g3, ai])]
           simp [ik2, o0, mk, ok, kb, c4, a1, a3, a4]
           first | exact fin _ _ _ _ | exact fin0 o0 _ _ _ _)
        · by_cases o0 : one = [] <;> by_cases ok : one ∈ keys <;> simp [e1, e2, e3, e4, e5, ec, b1, k1, rb, hrl, mr, hm, rb2, d1, c4, d2, g1, g3, fo] <;>
          (rw [compR_map (enc := D.str) (fun k => .bl (k.all fun c => decide (c ∈ clos cols rules keys l))) (fun k hk => by simp [g3, ai])]
           simp [ik2, o0, mk, ok, kb, c4, a1, a3, a4]
           first | exact fin _ _ _ _ | exact fin0 o0 _ _ _ _)
      | false =>
        rw [fr] at ik2
        have h4 := g4 fr
        have h6 := g6 fr
        by_cases fo : c ∈ clos cols rules keys l
        · rw [g7 fo] at d2 g1
          have ft : decide (c ∈ clos cols rules keys l) = true := by simpa using fo
          rw [ft] at h6
          by_cases o0 : one = [] <;> by_cases ok : one ∈ keys <;> simp [e1, e2, e3, e4, e5, ec, b1, k1, rb, hrl, mr, hm, rb2, d1, c4, d2, g1, g3, fo] <;>
          (rw [compR_map (enc := D.str) (fun k => .bl (k.all fun c => decide (c ∈ clos cols rules keys l))) (fun k hk => by simp [g3, ai])]
           simp [ik2, h4, h6, fo, o0, mk, ok, kb, c4, a1, a3, a4]
           (try exact fin _ _ _ _) <;> (try exact fin0 o0 _ _ _ _))
        · have ft : decide (c ∈ clos cols rules keys l) = false := by simpa using fo
          rw [ft] at h6
          by_cases o0 : one = [] <;> by_cases ok : one ∈ keys <;> simp [e1, e2, e3, e4, e5, ec, b1, k1, rb, hrl, mr, hm, rb2, d1, c4, d2, g1, g3, fo] <;>
          (rw [compR_map (enc := D.str) (fun k => .bl (k.all fun c => decide (c ∈ clos cols rules keys l))) (fun k hk => by simp [g3, ai])]
           simp [ik2, h4, h6, fo, o0, mk, ok, kb, c4, a1, a3, a4]
           (try exact fin _ _ _ _) <;> (try exact fin0 o0 _ _ _ _))
  · rintro _ m ⟨b, x2, x3, x4, x5, x6, x7, x8, x9, x10, x11, x12, x13, x14, rfl, p, hb⟩
    simp
end
end K02

/-! K02z -/
set_option Elab.async false
set_option linter.all false
set_option maxRecDepth 100000
set_option maxHeartbeats 2000000
namespace K02
open Dn Dn.Q
theorem done : RR.Holds := holds 16 ⟨rfl, by decide +kernel, by decide +kernel⟩ fun ns _ => by
  obtain ⟨r, m, e, rfl⟩ := (law_ok (n := 8) ns).eq
  exact ⟨m, e⟩
end K02

open PySem PySem.W PySem.Calls PyProof.Rows
set_option maxRecDepth 100000 in
theorem PySem.Challenge.cw_openties_k02_whole_closures_holds : PySem.Challenge.rw_openties_k02_whole_closures.Holds := by
  w_on; o_law
  exact K02.done
