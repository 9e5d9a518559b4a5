import PyProof.Rows.All
import HandS.ForMost
import HandS.ForExc
import HandS.TupAny
import HandS.TupLe
import HandS.IsInst
import HandS.Flow
import HandS.Deep
import HandS.Conv
import HandS.Zip
import HandS.Style
import HandS.TryMany
import HandS.CallSlots
import KE.DataEq
import KE.SortData
import KE.SortLaws
import HandS.Lambda
import HandS.HeadHook4
import HandS.HotCalls
import HandS.ExcIs
import HandS.ExcOwn
import HandS.TupMul
import HandS.More
import KE.GoesEnum
import KE.SortKeyed
import KE.DataFind
import HandS.CallRecv
import HandS.NoneIn
import HandS.Defaults
import HandS.HeadHook1
import HandS.HeadHook2
import HandS.HeadEnd
import HandS.HeadWalk
import HandS.Head0
import HandS.Head1
import HandS.Head2
import PySem.Challenge.RW_noterules_k24_sides
import PyProof.Rows.All
set_option Elab.async false
set_option linter.all false
set_option maxRecDepth 100000
/-! Eng0: a small language, its values and stores, its evaluator. Plain Lean, no program in sight. -/
namespace Ev

/-- data: loc n is the n-th object of the store; lit: a list that nobody changes -/
inductive D where
  | non | bl (b : Bool) | int (i : Int) | str (s : List Nat) | tup (xs : List D) | lit (xs : List D) | loc (n : Nat)
deriving Inhabited

/-- objects: a list (its items hold no object), a list while it is walked, a dict, an instance -/
inductive MO where
  | lst (xs : List D) | frz (xs : List D) | dic (kvs : List (D × D)) | fdic (kvs : List (D × D)) | ins (c : Nat) (fs : List (Nat × D))
deriving Inhabited

abbrev Store := List MO
abbrev Env := List (Option D)

mutual
def D.pure : D → Bool
  | .non => true | .bl _ => true | .int _ => true | .str _ => true
  | .tup xs => D.pureAll xs
  | .lit xs => D.pureAll xs
  | .loc _ => false
def D.pureAll : List D → Bool
  | [] => true
  | x :: xs => x.pure && D.pureAll xs
end
mutual
def D.low (n : Nat) : D → Bool
  | .non => true | .bl _ => true | .int _ => true | .str _ => true
  | .tup xs => D.lowAll n xs
  | .lit xs => D.lowAll n xs
  | .loc m => decide (m < n)
def D.lowAll (n : Nat) : List D → Bool
  | [] => true
  | x :: xs => x.low n && D.lowAll n xs
end
mutual
/-- == -/
def eqD : D → D → Bool
  | .non, .non => true
  | .bl a, .bl b => a == b
  | .bl a, .int j => (if a then 1 else 0) == j
  | .int i, .bl b => i == (if b then 1 else 0)
  | .int i, .int j => i == j
  | .str x, .str y => x == y
  | .tup xs, .tup ys => eqDs xs ys
  | .lit xs, .lit ys => eqDs xs ys
  | _, _ => false
def eqDs : List D → List D → Bool
  | [], [] => true
  | x :: xs, y :: ys => eqD x y && eqDs xs ys
  | _, _ => false
end
mutual
def D.depth : D → Nat
  | .non => 0 | .bl _ => 0 | .int _ => 0 | .str _ => 0 | .loc _ => 0
  | .tup xs => D.depthAll xs + 1
  | .lit xs => D.depthAll xs + 1
def D.depthAll : List D → Nat
  | [] => 0
  | x :: xs => max x.depth (D.depthAll xs)
end

/-- sizes -/
def lineN : Nat := 16777216
def szOk (n : Nat) : Bool := decide (n ≤ lineN)

inductive Out (α : Type) where
  | ok (a : α) (S : Store) | exc (c : Nat) (S : Store) | bad
def Out.bind {α β : Type} : Out α → (α → Store → Out β) → Out β
  | .ok a S, f => f a S
  | .exc c S, _ => .exc c S
  | .bad, _ => .bad

inductive SOut where
  | nx (ρ : Env) (S : Store) | rt (d : D) (S : Store) | exc (c : Nat) (ρ : Env) (S : Store) | bad
/-- an expression ahead of a statement's rest; ρ: the slots where it raises -/
def Out.thn {α : Type} (ρ : Env) : Out α → (α → Store → SOut) → SOut
  | .ok a S, f => f a S
  | .exc c S, _ => .exc c ρ S
  | .bad, _ => .bad

def MO.closed (n : Nat) : MO → Bool
  | .lst _ => true | .frz _ => true
  | .dic kvs => kvs.all fun kv => kv.2.low n
  | .fdic kvs => kvs.all fun kv => kv.2.low n
  | .ins _ fs => fs.all fun kv => kv.2.low n
def closedS (n : Nat) (S : Store) : Bool := S.all (MO.closed n)

/-- forget the objects that came behind the n-th: d does not speak of them, or is a new list -/
def gc (n : Nat) (d : D) (S : Store) : Out D :=
  if S.length == n then .ok d S
  else if closedS n (S.take n) then
    (if d.low n then .ok d (S.take n)
     else match d with
      | .loc m => (match S[m]? with
        | some (.lst xs) => .ok (.loc n) (S.take n ++ [MO.lst xs])
        | _ => .ok d S)
      | _ => .ok d S)
  else .ok d S

/-- a thing to be read: a list of the store as it stands -/
def der (S : Store) : D → Option D
  | .loc n => match S[n]? with
    | some (.lst xs) => some (.lit xs)
    | some (.frz xs) => some (.lit xs)
    | _ => none
  | d => if d.pure then some d else none

/-! ### operations -/
inductive Bop where | add | sub | mul | mod | fdiv
inductive Cop where | eq | ne | lt | le | gt | ge | isin | notin | is | isnot
inductive Ty where | tTuple | tStr | tInt | tBool | tList
inductive Bi where | len | tuple | list | sorted | all | min2 | max2 | str | int | sum | max1 | lenset | sortedset | max1d (d : Int)
inductive Me where | split | join | endswith | startswith | count | upper | partition | append | extend | index | pop | remove | get | lcount

def ret (d : D) (S : Store) : Out D := .ok d S
/-- a new list -/
def newL (xs : List D) (S : Store) : Out D := if D.pureAll xs && szOk xs.length then .ok (.loc S.length) (S ++ [.lst xs]) else .bad
def strD (s : List Nat) (S : Store) : Out D := .ok (.str s) S

def sm64 (i : Int) : Bool := decide (-(2 ^ 64) < i) && decide (i < 2 ^ 64)

/-- items of a list (of the store, or one that nobody changes) -/
def listOf (S : Store) : D → Option (List D)
  | .loc n => match S[n]? with
    | some (.lst xs) => some xs
    | some (.frz xs) => some xs
    | _ => none
  | .lit xs => some xs
  | _ => none

def addD (a b : D) (S : Store) : Out D :=
  match a, b with
  | .int i, .int j => .ok (.int (i + j)) S
  | .str x, .str y => if szOk (x.length + y.length) then .ok (.str (x ++ y)) S else .bad
  | .tup xs, .tup ys => if szOk (xs.length + ys.length) then .ok (.tup (xs ++ ys)) S else .bad
  | .loc m, .loc n => (match S[m]?, S[n]? with
    | some (.lst xs), some (.lst ys) => newL (xs ++ ys) S
    | _, _ => .bad)
  | _, _ => .bad
def subD (a b : D) (S : Store) : Out D :=
  match a, b with
  | .int i, .int j => .ok (.int (i - j)) S
  | _, _ => .bad
def mulD (a b : D) (S : Store) : Out D :=
  match a, b with
  | .int i, .int j => if sm64 i || sm64 j then .ok (.int (i * j)) S else .bad
  | .loc m, .int k => (match S[m]? with
    | some (.lst xs) => if decide (0 ≤ k) && decide (k ≤ 100) then newL (List.replicate k.toNat xs).flatten S else .bad
    | _ => .bad)
  | .tup xs, .int k => if !xs.isEmpty && decide (2 ≤ k) && decide (k ≤ 1000) && decide (xs.length ≤ 1000) then .ok (.tup (List.replicate k.toNat xs).flatten) S else .bad
  | _, _ => .bad
def modD (a b : D) (S : Store) : Out D :=
  match a, b with
  | .int i, .int j => if decide (0 < j) then .ok (.int (i % j)) S else .bad
  | _, _ => .bad
def fdivD (a b : D) (S : Store) : Out D :=
  match a, b with
  | .int i, .int j => if decide (0 < j) && decide (j < 1073741824) then .ok (.int (i / j)) S else .bad
  | _, _ => .bad
def binD : Bop → D → D → Store → Out D
  | .add => addD | .sub => subD | .mul => mulD | .mod => modD | .fdiv => fdivD

/-- the order of signs' lists -/
def ltN : List Nat → List Nat → Bool
  | [], [] => false
  | [], _ :: _ => true
  | _ :: _, [] => false
  | x :: xs, y :: ys => if x < y then true else if x = y then ltN xs ys else false

/-- s stands within l -/
def subIn (s : List Nat) : List Nat → Bool
  | [] => s.isEmpty
  | c :: r => (s.isPrefixOf (c :: r)) || subIn s r

def eqS (S : Store) (a b : D) : Option Bool :=
  match der S a, der S b with
  | some x, some y => if decide (min x.depth y.depth ≤ 60) then some (eqD x y) else none
  | _, _ => none
def blO : Option Bool → Store → Out D
  | some b, S => .ok (.bl b) S
  | none, _ => .bad
def inS (S : Store) (a b : D) : Option Bool :=
  match a, b with
  | .str s, .str l => if s.length == 1 then some (l.contains (s.headD 0)) else none
  | _, _ => match der S a, der S b with
    | some x, some (.lit ys) => if decide (x.depth ≤ 60) then some (ys.any fun y => eqD y x) else none
    | some x, some (.tup ys) => if decide (x.depth ≤ 60) then some (ys.any fun y => eqD y x) else none
    | _, _ => none
def isS (a b : D) : Option Bool :=
  match b with
  | .non => some (match a with | .non => true | _ => false)
  | .bl y => match a with
    | .bl x => some (x == y)
    | _ => none
  | _ => none
def ltO (a b : D) : Option Bool :=
  match a, b with
  | .int i, .int j => some (decide (i < j))
  | .str x, .str y => some (ltN x y)
  | _, _ => none
def leO (a b : D) : Option Bool :=
  match a, b with
  | .int i, .int j => some (decide (i ≤ j))
  | .str x, .str y => some (!ltN y x)
  | _, _ => none
def cmpO (S : Store) : Cop → D → D → Option Bool
  | .eq, a, b => eqS S a b
  | .ne, a, b => (eqS S a b).map (!·)
  | .lt, a, b => ltO a b
  | .le, a, b => leO a b
  | .gt, a, b => ltO b a
  | .ge, a, b => leO b a
  | .isin, a, b => inS S a b
  | .notin, a, b => (inS S a b).map (!·)
  | .is, a, b => isS a b
  | .isnot, a, b => (isS a b).map (!·)
def cmpD (op : Cop) (a b : D) (S : Store) : Out D := blO (cmpO S op a b) S

def truth (S : Store) : D → Option Bool
  | .non => some false
  | .bl b => some b
  | .int i => some (i != 0)
  | .str s => if szOk s.length then some (!s.isEmpty) else none
  | .tup xs => some (!xs.isEmpty)
  | .lit xs => some (!xs.isEmpty)
  | .loc n => match S[n]? with
    | some (.lst xs) => some (!xs.isEmpty)
    | some (.frz xs) => some (!xs.isEmpty)
    | _ => none
def blB : Option Bool → Store → Out Bool
  | some b, S => .ok b S
  | none, _ => .bad

/-- an item by an index of any sign -/
def atZ {α : Type} (xs : List α) (i : Int) : Option α :=
  if 0 ≤ i then (if i < xs.length then xs[i.toNat]? else none) else if -(xs.length : Int) ≤ i then xs[(i + xs.length).toNat]? else none
def retO : Option D → Store → Out D
  | some d, S => .ok d S
  | none, _ => .bad
def idxD (a i : D) (S : Store) : Out D :=
  match i with
  | .int k => (match a with
    | .tup xs => retO (atZ xs k) S
    | .str s => if szOk s.length then retO ((atZ s k).map fun c => .str [c]) S else .bad
    | .lit xs => retO (atZ xs k) S
    | .loc n => (match S[n]? with
      | some (.lst xs) => retO (atZ xs k) S
      | some (.frz xs) => retO (atZ xs k) S
      | _ => .bad)
    | _ => .bad)
  | .str k => (match a with
    | .loc n => (match S[n]? with
      | some (.dic kvs) => retO ((kvs.find? fun kv => eqD kv.1 (.str k)).map (·.2)) S
      | some (.fdic kvs) => retO ((kvs.find? fun kv => eqD kv.1 (.str k)).map (·.2)) S
      | _ => .bad)
    | _ => .bad)
  | _ => .bad

def cutIx (n d : Nat) : Option Int → Nat
  | none => d
  | some v => if v < 0 then (v + (n : Int)).toNat else min v.toNat n
def cutL {α : Type} (xs : List α) (lo hi : Option Int) : List α :=
  (xs.drop (cutIx xs.length 0 lo)).take (cutIx xs.length xs.length hi - cutIx xs.length 0 lo)
def partO : D → Option (Option Int)
  | .non => some none
  | .int i => some (some i)
  | _ => none
def slcD (a : D) (l h : Option Int) (S : Store) : Out D := match a with
  | .tup xs => .ok (.tup (cutL xs l h)) S
  | .str s => if szOk s.length then .ok (.str (cutL s l h)) S else .bad
  | d => match listOf S d with
    | some xs => newL (cutL xs l h) S
    | none => .bad

/-- xs[::-1] -/
def revD (d : D) (S : Store) : Out D := match listOf S d with
  | some xs => newL xs.reverse S
  | none => .bad

def isTy (S : Store) : D → Ty → Option Bool
  | .non, _ => some false
  | .bl _, .tBool => some true
  | .bl _, .tInt => some true
  | .bl _, _ => some false
  | .int _, .tInt => some true
  | .int _, _ => some false
  | .str _, .tStr => some true
  | .str _, _ => some false
  | .tup _, .tTuple => some true
  | .tup _, _ => some false
  | .lit _, .tList => some true
  | .lit _, _ => some false
  | .loc n, t => match S[n]? with
    | some (.lst _) => some (match t with | .tList => true | _ => false)
    | some (.frz _) => some (match t with | .tList => true | _ => false)
    | _ => none
def isTys (S : Store) (d : D) : List Ty → Option Bool
  | [] => some false
  | t :: ts => match isTy S d t with
    | some true => some true
    | some false => isTys S d ts
    | none => none

/-! order of data, a stable sort -/
mutual
def ltD : D → D → Bool
  | .bl a, .bl b => !a && b
  | .int i, .int j => decide (i < j)
  | .str x, .str y => ltN x y
  | .tup xs, .tup ys => ltDs xs ys
  | .lit xs, .lit ys => ltDs xs ys
  | _, _ => false
def ltDs : List D → List D → Bool
  | [], [] => false
  | [], _ :: _ => true
  | _ :: _, [] => false
  | x :: xs, y :: ys => if eqD x y then ltDs xs ys else ltD x y
end
def insD (le : D → D → Bool) (x : D) : List D → List D
  | [] => [x]
  | y :: ys => if le x y then x :: y :: ys else y :: insD le x ys
def isort (le : D → D → Bool) : List D → List D
  | [] => []
  | x :: xs => insD le x (isort le xs)
def leD (a b : D) : Bool := !ltD b a
mutual
/-- data whose places are of one kind -/
def alikeD : D → D → Bool
  | .non, .non => true
  | .bl _, .bl _ => true
  | .int _, .int _ => true
  | .str _, .str _ => true
  | .tup xs, .tup ys => alikeDs xs ys
  | _, _ => false
def alikeDs : List D → List D → Bool
  | [], [] => true
  | [], _ :: _ => true
  | _ :: _, [] => true
  | x :: xs, y :: ys => alikeD x y && alikeDs xs ys
end
def nonempT : D → Bool
  | .tup [] => false
  | .non => false
  | _ => true
def sortO (xs : List D) : Option (List D) :=
  if (xs.all fun x => xs.all fun y => alikeD x y) && xs.all nonempT && (xs.all fun x => decide (x.depth ≤ 60)) then some (isort leD xs) else none

/-- sorted by keys: pairs of a key and an item -/
def keyOf : D → D
  | .tup (k :: _) => k
  | d => d
def itemOf : D → D
  | .tup [_, x] => x
  | d => d
def zipD : List D → List D → List D
  | x :: xs, y :: ys => .tup [x, y] :: zipD xs ys
  | _, _ => []
def sortKO (ks xs : List D) : Option (List D) := match sortO ks with
  | some _ => some ((isort (fun a b => leD (keyOf a) (keyOf b)) (zipD ks xs)).map itemOf)
  | none => none

def isStr : D → Bool
  | .str _ => true
  | _ => false
def blsOf : List D → Option (List Bool)
  | [] => some []
  | .bl b :: r => (blsOf r).map (b :: ·)
  | _ :: _ => none
def intsOf : List D → Option (List Int)
  | [] => some []
  | .int b :: r => (intsOf r).map (b :: ·)
  | _ :: _ => none
def strsOf : List D → Option (List (List Nat))
  | [] => some []
  | .str b :: r => (strsOf r).map (b :: ·)
  | _ :: _ => none
def seqOf (S : Store) : D → Option (List D)
  | .tup xs => some xs
  | d => listOf S d
def numT (n : Nat) : List Nat := (Nat.toDigits 10 n).map Char.toNat
def dedup : List D → List D
  | [] => []
  | x :: xs => x :: (dedup xs).filter fun y => !eqD x y

def one (f : D → Store → Out D) (ds : List D) (S : Store) : Out D := match ds with
  | [d] => f d S
  | _ => .bad
def two (f : D → D → Store → Out D) (ds : List D) (S : Store) : Out D := match ds with
  | [d, e] => f d e S
  | _ => .bad
def lenD (d : D) (S : Store) : Out D := match d with
  | .str s => if szOk s.length then .ok (.int s.length) S else .bad
  | d => match seqOf S d with
    | some xs => .ok (.int xs.length) S
    | none => .bad
def tupleD (d : D) (S : Store) : Out D := match d with
  | .tup xs => .ok (.tup xs) S
  | d => match listOf S d with
    | some xs => .ok (.tup xs) S
    | none => .bad
def listD (d : D) (S : Store) : Out D := match seqOf S d with
  | some xs => newL xs S
  | none => .bad
def sortedL (xs : List D) (S : Store) : Out D := match sortO xs with
  | some ys => newL ys S
  | none => .bad
def sortedK (ks xs : List D) (S : Store) : Out D := match sortKO ks xs with
  | some ys => newL ys S
  | none => .bad
def sortedD (d : D) (S : Store) : Out D := match d with
  | .loc n => (match S[n]? with
    | some (.lst xs) => sortedL xs S
    | some (.frz xs) => sortedL xs S
    | some (.dic kvs) => (if kvs.all (fun kv => isStr kv.1) && decide (kvs.length < 64) then newL (isort leD (kvs.map (·.1))) S else .bad)
    | _ => .bad)
  | _ => .bad
def allD (d : D) (S : Store) : Out D := match listOf S d with
  | some xs => (match blsOf xs with | some bs => .ok (.bl (bs.all id)) S | none => .bad)
  | none => .bad
def min2D (a b : D) (S : Store) : Out D := match a, b with
  | .int i, .int j => .ok (.int (if j < i then j else i)) S
  | _, _ => .bad
def max2D (a b : D) (S : Store) : Out D := match a, b with
  | .int i, .int j => .ok (.int (if j > i then j else i)) S
  | _, _ => .bad
def sumD (d : D) (S : Store) : Out D := match listOf S d with
  | some xs => (match intsOf xs with | some bs => .ok (.int bs.sum) S | none => .bad)
  | none => .bad
def biD : Bi → List D → Store → Out D
  | .len => one lenD
  | .tuple => one tupleD
  | .list => one listD
  | .sorted => one sortedD
  | .all => one allD
  | .min2 => two min2D
  | .max2 => two max2D
  | .sum => one sumD
  | _ => fun _ _ => .bad

/-! texts -/
/-- l cut at each sign c -/
def splitC (c : Nat) : List Nat → List (List Nat)
  | [] => [[]]
  | x :: r => if x = c then [] :: splitC c r else match splitC c r with
    | [] => [[x]]
    | p :: ps => (x :: p) :: ps
def joinN (sep : List Nat) : List (List Nat) → List Nat
  | [] => []
  | [p] => p
  | p :: q :: r => p ++ (sep ++ joinN sep (q :: r))
def sufN (s l : List Nat) : Bool := s.isSuffixOf l

def setM (S : Store) (n : Nat) (o : MO) : Store := S.set n o
def putK (k v : D) (kvs : List (D × D)) : List (D × D) :=
  if (kvs.any fun kv => eqD kv.1 k) = true then kvs.map (fun kv => if eqD kv.1 k then (kv.1, v) else kv) else kvs ++ [(k, v)]
def splitD (a b : D) (S : Store) : Out D := match a, b with
  | .str s, .str [c] => if szOk (s.length + 2) && decide (c < 256) then newL ((splitC c s).map .str) S else .bad
  | _, _ => .bad
def joinD (a d : D) (S : Store) : Out D := match a with
  | .str sep => (match seqOf S d with
    | some xs => (match strsOf xs with
      | some ss => if decide ((ss.map List.length).sum + ss.length * sep.length ≤ lineN) then .ok (.str (joinN sep ss)) S else .bad
      | none => .bad)
    | none => .bad)
  | _ => .bad
def endsD (a b : D) (S : Store) : Out D := match a, b with
  | .str s, .str t => .ok (.bl (t.isSuffixOf s)) S
  | _, _ => .bad
def startsD (a b : D) (S : Store) : Out D := match a, b with
  | .str s, .str t => .ok (.bl (t.isPrefixOf s)) S
  | _, _ => .bad
def appendD (a d : D) (S : Store) : Out D := match a with
  | .loc n => (match S[n]? with
    | some (.lst xs) => if d.pure && decide (xs.length < lineN) then .ok .non (S.set n (.lst (xs ++ [d]))) else .bad
    | _ => .bad)
  | _ => .bad
def extendD (a b : D) (S : Store) : Out D := match a, b with
  | .loc n, .loc k => (match S[n]?, S[k]? with
    | some (.lst xs), some (.lst ys) => if szOk (xs.length + ys.length) then .ok .non (S.set n (.lst (xs ++ ys))) else .bad
    | _, _ => .bad)
  | _, _ => .bad
def getD3 (a k d : D) (S : Store) : Out D := match a, k with
  | .loc n, .str t => (match S[n]? with
    | some (.dic kvs) => .ok (((kvs.find? fun kv => eqD kv.1 (.str t)).map (·.2)).getD d) S
    | _ => .bad)
  | _, _ => .bad
/-- how often, where first (data) -/
def lcntD (a x : D) (S : Store) : Out D := match der S a, der S x with
  | some (.lit ys), some y => if decide (y.depth ≤ 60) then .ok (.int (ys.countP fun z => eqD z y : Nat)) S else .bad
  | _, _ => .bad
def tcntD (a x : D) (S : Store) : Out D := match der S a, der S x with
  | some (.tup ys), some y => if decide (y.depth ≤ 60) then .ok (.int (ys.countP fun z => eqD z y : Nat)) S else .bad
  | _, _ => .bad

def lplD (a x : D) (S : Store) : Out D := match der S a, der S x with
  | some (.lit ys), some y => (match ys.findIdx? fun z => eqD z y with
    | some j => if decide (y.depth ≤ 60) && decide (ys.length ≤ 1000000) then .ok (.int (j : Nat)) S else .bad
    | none => .bad)
  | _, _ => .bad


def remD (a x : D) (S : Store) : Out D := match a with
  | .loc n => (match S[n]?, der S x with
    | some (.lst ys), some y => (match ys.findIdx? fun z => eqD z y with
      | some j => if decide (y.depth ≤ 60) then .ok .non (S.set n (.lst (ys.eraseIdx j))) else .bad
      | none => .bad)
    | _, _ => .bad)
  | _ => .bad
def isTup : D → Bool
  | .tup _ => true
  | _ => false
def isDic (S : Store) : D → Bool
  | .loc n => match S[n]? with
    | some (.dic _) => true
    | _ => false
  | _ => false
/-- the receiver is of the method's type -/
def tyOk (m : Me) (S : Store) (a : D) : Bool := match m with
  | .split => isStr a | .join => isStr a | .endswith => isStr a | .startswith => isStr a | .count => isStr a | .upper => isStr a | .partition => isStr a
  | .append => (listOf S a).isSome | .extend => (listOf S a).isSome | .index => (listOf S a).isSome | .pop => (listOf S a).isSome | .remove => (listOf S a).isSome | .lcount => (listOf S a).isSome
  | .get => isDic S a
def popD (a : D) (S : Store) : Out D := match a with
  | .loc n => (match S[n]? with
    | some (.lst xs) => (match xs.getLast? with
      | some d => .ok d (S.set n (.lst xs.dropLast))
      | none => .bad)
    | _ => .bad)
  | _ => .bad
def zero (f : Store → Out D) (ds : List D) (S : Store) : Out D := match ds with
  | [] => f S
  | _ => .bad
def methD : Me → D → List D → Store → Out D
  | .split, a => one (splitD a)
  | .join, a => one (joinD a)
  | .endswith, a => one (endsD a)
  | .startswith, a => one (startsD a)
  | .append, a => one (appendD a)
  | .extend, a => one (extendD a)
  | .get, a => two (getD3 a)
  | .lcount, a => one (lcntD a)
  | .index, a => one (lplD a)
  | .remove, a => one (remD a)
  | .pop, a => zero (popD a)
  | _, _ => fun _ _ => .bad

/-! instances -/
def insOf (S : Store) : D → Option (Nat × List (Nat × D))
  | .loc n => match S[n]? with
    | some (.ins c fs) => some (c, fs)
    | _ => none
  | _ => none
def putFd (f : Nat) (v : D) : List (Nat × D) → List (Nat × D)
  | [] => [(f, v)]
  | (g, x) :: r => if g = f then (g, v) :: r else (g, x) :: putFd f v r
def fldD (cs : List Nat) (f : Nat) (x : D) (S : Store) : Out D := match insOf S x with
  | some (c, fs) => if cs.contains c then retO (fs.lookup f) S else .bad
  | none => .bad
/-- x.f = v -/
def setFD (cs : List Nat) (f : Nat) (x v : D) (S : Store) : Out D := match x with
  | .loc n => (match S[n]? with
    | some (.ins c fs) => if cs.contains c && decide (fs.length < 900) && decide (f < 8) then .ok .non (S.set n (.ins c (putFd f v fs))) else .bad
    | _ => .bad)
  | _ => .bad
/-- x.f, x.g, .. = ds -/
def setFDs (cs : List Nat) : List Nat → List D → D → Store → Out D
  | [], [], _, S => .ok .non S
  | f :: fs, d :: ds, x, S => (setFD cs f x d S).bind fun _ S => setFDs cs fs ds x S
  | _, _, _, _ => .bad
/-- the number of a method -/
def mid (c m : Nat) : Nat := 500 + 50 * c + m
/-- o[i] = v -/
def setIxD (a i v : D) (S : Store) : Out D :=
  match a with
  | .loc n => (match S[n]?, i with
    | some (.dic kvs), .str k => if v.pure && decide (kvs.length < lineN) then .ok .non (S.set n (.dic (putK (.str k) v kvs))) else .bad
    | _, _ => .bad)
  | _ => .bad

/-! ### the language -/
inductive Tg where | one (i : Nat) | many (is : List Nat) | pair (i : Nat) (is : List Nat)
mutual
inductive Ex where
  | var (i : Nat)
  | dat (d : D)
  | tup (es : Exs) | lst (es : Exs)
  | dnew
  | bin (op : Bop) (a b : Ex)
  | cmp (op : Cop) (a b : Ex)
  | chain (o1 o2 : Cop) (a b c : Ex)
  | and (a b : Ex) | or (a b : Ex) | not (a : Ex)
  | ife (t a b : Ex)
  | idx (a i : Ex)
  | slc (a lo hi : Ex)
  | call (f : Nat) (es : Exs)
  | bi (b : Bi) (es : Exs)
  | isi (a : Ex) (ts : List Ty)
  | meth (m : Me) (a : Ex) (es : Exs)
  | comp (elt : Ex) (tg : Tg) (it : It) (test : Ex)
  | rev (a : Ex)
  | sortl (a : Ex) (i : Nat) (b : Ex)
  | sortf (a : Ex) (f : Nat)
  | isx (c : Nat)
  | callx (f : Nat)
  | fld (cs : List Nat) (f : Nat) (a : Ex)
  | mcall (cs : List Nat) (m : Nat) (a : Ex) (es : Exs)
  | make (c : Nat) (es : Exs)
inductive Exs where
  | nil | cons (e : Ex) (es : Exs)
inductive It where
  | of (a : Ex) | range1 (a : Ex) | range2 (a b : Ex) | enum (a : Ex) | zip (a b : Ex) | range3 (a b c : Ex)
end
mutual
inductive Sm where
  | asg (i : Nat) (e : Ex)
  | asgT (is : List Nat) (e : Ex)
  | par (is : List Nat) (es : Exs)
  | setIx (a i v : Ex)
  | expr (e : Ex)
  | ret (e : Ex)
  | ife (t : Ex) (a b : Sms)
  | loop (tg : Tg) (it : It) (body : Sms) (sc : Bool)
  | pass
  | stuck
  | raise (c : Nat)
  | tryAs (body : Sms) (c i : Nat) (h : Sms)
  | tryMany (body : Sms) (hs : Hds)
  | setF (cs : List Nat) (f : Nat) (a v : Ex)
  | setFs (cs : List Nat) (fs : List Nat) (i : Nat) (v : Ex)
  | asgU (is : List Nat) (e : Ex)
inductive Sms where
  | nil | cons (s : Sm) (r : Sms)
inductive Hds where
  | nil | cons (c : Nat) (h : Sms) (r : Hds)
end
/-- classes of exceptions: 0 ValueError, 1 NoteError, the rest below it -/
def subC (c d : Nat) : Bool := d == 0 || d == 1 || c == d
/-- within an except suite (class c): isinstance, calls with the exception alone -/
def hotF (c : Nat) (F : Nat → List D → Store → Out D) (f : Nat) (ds : List D) (S : Store) : Out D :=
  if f < 1000 then .bad else if f < 2000 then .ok (.bl (subC c (f - 1000))) S else F (2000 + 100 * c + (f - 2000)) ds S

def Exs.len : Exs → Nat
  | .nil => 0
  | .cons _ es => es.len + 1
/-- targets -/
def setAll (ρ : Env) : List Nat → List D → Option Env
  | [], [] => some ρ
  | i :: is, d :: ds => if i < ρ.length then setAll (ρ.set i (some d)) is ds else none
  | _, _ => none
def putPair (ρ : Env) (i : Nat) (is : List Nat) (d : D) : Option Env := match d with
  | .tup [d, .tup ds] => if i < ρ.length then setAll (ρ.set i (some d)) is ds else none
  | _ => none
def putTg (ρ : Env) : Tg → D → Option Env
  | .one i, d => if i < ρ.length then some (ρ.set i (some d)) else none
  | .many is, .tup ds => setAll ρ is ds
  | .many _, _ => none
  | .pair i is, d => putPair ρ i is d

/-- what is walked: the items, the object that is locked meanwhile -/
structure Items where
  xs : List D
  lock : Option Nat
def unlockO : MO → MO
  | .frz xs => .lst xs
  | .fdic kvs => .dic kvs
  | o => o
def unlock : Option Nat → Store → Store
  | none, S => S
  | some m, S => match S[m]? with
    | some o => S.set m (unlockO o)
    | none => S
/-- n: as many objects stood ahead -/
def walkOf (n : Nat) (d : D) (S : Store) : Out Items :=
  match d with
  | .tup xs => .ok ⟨xs, none⟩ S
  | .lit xs => .ok ⟨xs, none⟩ S
  | .str s => .ok ⟨s.map fun c => .str [c], none⟩ S
  | .loc m => (match S[m]? with
    | some (.lst xs) => if decide (n ≤ m) && closedS n (S.take n) then .ok ⟨xs, none⟩ (S.take n) else .ok ⟨xs, some m⟩ (S.set m (.frz xs))
    | some (.frz xs) => .ok ⟨xs, none⟩ S
    | _ => .bad)
  | _ => .bad
def sm62 (i : Int) : Bool := decide (-(2 ^ 62) ≤ i) && decide (i < 2 ^ 62)
def upFrom (i : Int) : Nat → List D
  | 0 => []
  | n + 1 => .int i :: upFrom (i + 1) n
def range1D (d : D) (S : Store) : Out Items := match d with
  | .int j => if sm62 j then .ok ⟨upFrom 0 j.toNat, none⟩ S else .bad
  | _ => .bad
def range2D (d e : D) (S : Store) : Out Items := match d, e with
  | .int i, .int j => if sm62 i && sm62 j then .ok ⟨upFrom i (j - i).toNat, none⟩ S else .bad
  | _, _ => .bad
/-- range(a, b, c) -/
def rgN (a b c : Int) : Int := if c > 0 then (if a < b then (b - a - 1) / c + 1 else 0) else (if a > b then (a - b - 1) / (-c) + 1 else 0)
def stepFrom (i c : Int) : Nat → List D
  | 0 => []
  | n + 1 => .int i :: stepFrom (i + c) c n
def sm30 (i : Int) : Bool := decide (-1073741824 < i) && decide (i < 1073741824)
def range3D (d e f : D) (S : Store) : Out Items := match d, e, f with
  | .int i, .int j, .int c => if sm30 i && sm30 j && (sm30 c && decide (c ≠ 0)) then .ok ⟨stepFrom i c (rgN i j c).toNat, none⟩ S else .bad
  | _, _, _ => .bad
def numbered (i : Nat) : List D → List D
  | [] => []
  | x :: xs => .tup [.int i, x] :: numbered (i + 1) xs
/-- over a tuple -/
def enumOf (n : Nat) (d : D) (S : Store) : Out Items := match d with
  | .tup xs => .ok ⟨numbered 0 xs, none⟩ S
  | _ => .bad
/-- two tuples, or two lists that stay -/
def zipOf (a b : D) (S : Store) : Out Items :=
  match a, b with
  | .tup xs, .tup ys => .ok ⟨zipD xs ys, none⟩ S
  | _, _ => .bad

def gcO (n : Nat) : Out D → Out D
  | .ok d S => gc n d S
  | o => o

/-- a comprehension's turns -/
def compLoop (turn : D → Store → Out (Option D)) : List D → Store → Out (List D)
  | [], S => .ok [] S
  | x :: xs, S => (turn x S).bind fun o S1 => (compLoop turn xs S1).bind fun ds S2 => .ok (match o with | some d => d :: ds | none => ds) S2
def forLoop (turn : D → Env → Store → SOut) : List D → Env → Store → SOut
  | [], ρ, S => .nx ρ S
  | x :: xs, ρ, S => match turn x ρ S with
    | .nx ρ1 S1 => forLoop turn xs ρ1 S1
    | o => o
/-- a new list out of a callee, or data: laid into the caller's store -/
def D.shift (n : Nat) : D → D
  | .loc m => .loc (n + m)
  | d => d
def impD (S : Store) (d : D) (S' : Store) : Out D :=
  if d.pure then .ok d S
  else match d with
    | .loc j => (match S'[j]? with
      | some (.lst xs) => .ok (.loc S.length) (S ++ [.lst xs])
      | _ => .bad)
    | _ => .bad
def callF (F : Nat → List D → Store → Out D) (f : Nat) (ds : List D) (S : Store) : Out D :=
  if D.pureAll ds then (match F f ds [] with
    | .ok d S' => impD S d S'
    | .exc c _ => .exc c S
    | .bad => .bad)
  else gcO S.length (F f ds S)

/-- C(..) -/
def makeF (F : Nat → List D → Store → Out D) (c : Nat) (ds : List D) (S : Store) : Out D := match F (mid c 0) (.loc S.length :: ds) (S ++ [.ins c []]) with
  | .ok .non S' => .ok (.loc S.length) S'
  | _ => .bad
/-- nothing may be raised -/
def noexc {α : Type} : Out α → Out α
  | .exc _ _ => .bad
  | o => o
def lockEnd {α : Type} (l : Option Nat) : Out α → Out α
  | .ok a S => .ok a (unlock l S)
  | .exc c S => .exc c (unlock l S)
  | .bad => .bad
def lockEndS (l : Option Nat) : SOut → SOut
  | .nx ρ S => .nx ρ (unlock l S)
  | .rt d S => .rt d (unlock l S)
  | .exc c ρ S => .exc c ρ (unlock l S)
  | .bad => .bad

mutual
def ev (F : Nat → List D → Store → Out D) : Ex → Env → Store → Out D
  | .var i, ρ, S => match ρ[i]? with
    | some (some d) => .ok d S
    | _ => .bad
  | .dat d, _, S => .ok d S
  | .tup es, ρ, S => (evs F es ρ S).bind fun ds S => if szOk ds.length then .ok (.tup ds) S else .bad
  | .lst es, ρ, S => (evs F es ρ S).bind newL
  | .dnew, _, S => .ok (.loc S.length) (S ++ [.dic []])
  | .bin op a b, ρ, S => (ev F a ρ S).bind fun x S => (ev F b ρ S).bind fun y S => binD op x y S
  | .cmp op a b, ρ, S => (ev F a ρ S).bind fun x S => (ev F b ρ S).bind fun y S => cmpD op x y S
  | .chain o1 o2 a b c, ρ, S => (ev F a ρ S).bind fun x S => (ev F b ρ S).bind fun y S => match cmpO S o1 x y with
    | some true => (ev F c ρ S).bind fun z S => cmpD o2 y z S
    | some false => .ok (.bl false) S
    | none => .bad
  | .and a b, ρ, S => (ev F a ρ S).bind fun x S => match truth S x with
    | some true => ev F b ρ S
    | some false => .ok x S
    | none => .bad
  | .or a b, ρ, S => (ev F a ρ S).bind fun x S => match truth S x with
    | some true => .ok x S
    | some false => ev F b ρ S
    | none => .bad
  | .not a, ρ, S => (ev F a ρ S).bind fun x S => match truth S x with
    | some t => .ok (.bl (!t)) S
    | none => .bad
  | .ife t a b, ρ, S => (ev F t ρ S).bind fun x S => match truth S x with
    | some true => ev F a ρ S
    | some false => ev F b ρ S
    | none => .bad
  | .idx a i, ρ, S => (ev F a ρ S).bind fun x S => (ev F i ρ S).bind fun y S => idxD x y S
  | .slc a lo hi, ρ, S => (ev F a ρ S).bind fun x S => (ev F lo ρ S).bind fun l S => match partO l with
    | some l => (ev F hi ρ S).bind fun h S => (match partO h with
      | some h => slcD x l h S
      | none => .bad)
    | none => .bad
  | .call f es, ρ, S => (evs F es ρ S).bind fun ds S => callF F f ds S
  | .bi b es, ρ, S => (evs F es ρ S).bind fun ds S => biD b ds S
  | .isi a ts, ρ, S => (ev F a ρ S).bind fun x S => blO (isTys S x ts) S
  | .meth m a es, ρ, S => (ev F a ρ S).bind fun x S => if tyOk m S x then (evs F es ρ S).bind fun ds S => methD m x ds S else .bad
  | .comp elt tg it test, ρ, S => (evIt F it ρ S).bind fun w S => (lockEnd w.lock (noexc (compLoop (fun x S => match putTg ρ tg x with
      | some ρ' => (ev F test ρ' S).bind fun t S1 => (match truth S1 t with
        | some true => (gcO S.length (ev F elt ρ' S1)).bind fun d S2 => if d.pure then .ok (some d) S2 else .bad
        | some false => (gc S.length .non S1).bind fun _ S2 => .ok none S2
        | none => .bad)
      | none => .bad) w.xs S))).bind newL
  | .rev a, ρ, S => (ev F a ρ S).bind revD
  | .sortl a i b, ρ, S => (ev F a ρ S).bind fun x S1 => match listOf S1 x with
    | some xs => (noexc (compLoop (fun x S => if i < ρ.length then (gcO S.length (ev F b (ρ.set i (some x)) S)).bind fun d S2 => (if d.pure then .ok (some d) S2 else .bad) else .bad) xs S1)).bind fun ks S2 => sortedK ks xs S2
    | none => .bad
  | .sortf a f, ρ, S => (ev F a ρ S).bind fun x S1 => match listOf S1 x with
    | some xs => (noexc (compLoop (fun x S => (callF F f [x] S).bind fun d S2 => (if d.pure then .ok (some d) S2 else .bad)) xs S1)).bind fun ks S2 => sortedK ks xs S2
    | none => .bad
  | .isx c, _, S => F (1000 + c) [] S
  | .callx f, _, S => callF F (2000 + f) [] S
  | .fld cs f a, ρ, S => (ev F a ρ S).bind (fldD cs f)
  | .mcall cs m a es, ρ, S => (ev F a ρ S).bind fun x S => match insOf S x with
    | some (c, _) => if cs.contains c then (evs F es ρ S).bind fun ds S => callF F (mid c m) (x :: ds) S else .bad
    | none => .bad
  | .make c es, ρ, S => (evs F es ρ S).bind fun ds S => makeF F c ds S
def evs (F : Nat → List D → Store → Out D) : Exs → Env → Store → Out (List D)
  | .nil, _, S => .ok [] S
  | .cons e es, ρ, S => (ev F e ρ S).bind fun d S => (evs F es ρ S).bind fun ds S => .ok (d :: ds) S
def evIt (F : Nat → List D → Store → Out D) : It → Env → Store → Out Items
  | .of a, ρ, S => (ev F a ρ S).bind fun d S1 => walkOf S.length d S1
  | .range1 a, ρ, S => (ev F a ρ S).bind range1D
  | .range2 a b, ρ, S => (ev F a ρ S).bind fun x S => (ev F b ρ S).bind fun y S => range2D x y S
  | .enum a, ρ, S => (ev F a ρ S).bind fun d S1 => enumOf S.length d S1
  | .zip a b, ρ, S => (ev F a ρ S).bind fun x S => (ev F b ρ S).bind fun y S => zipOf x y S
  | .range3 a b c, ρ, S => (ev F a ρ S).bind fun x S => (ev F b ρ S).bind fun y S => (ev F c ρ S).bind fun z S => range3D x y z S
end

/-- slots that hold objects from the n-th on are forgotten -/
def killE (n : Nat) (ρ : Env) : Env := ρ.map fun o => match o with
  | some d => if d.low n then some d else none
  | none => none
def scopeEnd (n : Nat) : SOut → SOut
  | .nx ρ S => if closedS n (S.take n) then .nx (killE n ρ) (S.take n) else .nx ρ S
  | o => o

/-- the end of an except suite: nothing is raised there; the name is gone -/
def hotEnd (i : Option Nat) : SOut → SOut
  | .nx ρ S => (match i with
    | some i => .nx (ρ.set i none) S
    | none => .nx ρ S)
  | .rt d S => .rt d S
  | _ => .bad
def varOf (ρ : Env) (i : Nat) : D := match ρ[i]? with
  | some (some d) => d
  | _ => .non
mutual
def ex : (Nat → List D → Store → Out D) → Sm → Env → Store → SOut
  | F, .asg i e, ρ, S => (gcO S.length (ev F e ρ S)).thn ρ fun d S => if i < ρ.length then .nx (ρ.set i (some d)) S else .bad
  | F, .asgT is e, ρ, S => (gcO S.length (ev F e ρ S)).thn ρ fun d S => match d with
    | .tup ds => (match setAll ρ is ds with | some ρ' => .nx ρ' S | none => .bad)
    | _ => .bad
  | F, .par is es, ρ, S => (evs F es ρ S).thn ρ fun ds S => match setAll ρ is ds with | some ρ' => .nx ρ' S | none => .bad
  | F, .setIx a i v, ρ, S => (ev F v ρ S).thn ρ fun v S1 => (ev F a ρ S1).thn ρ fun a S2 => (ev F i ρ S2).thn ρ fun i S3 => (gcO S.length (setIxD a i v S3)).thn ρ fun _ S4 => .nx ρ S4
  | F, .expr e, ρ, S => (gcO S.length ((ev F e ρ S).bind fun _ S => .ok .non S)).thn ρ fun _ S => .nx ρ S
  | F, .ret e, ρ, S => (ev F e ρ S).thn ρ fun d S => .rt d S
  | F, .ife t a b, ρ, S => (ev F t ρ S).thn ρ fun x S1 => match truth S1 x with
    | some true => (gc S.length .non S1).thn ρ fun _ S2 => exs F a ρ S2
    | some false => (gc S.length .non S1).thn ρ fun _ S2 => exs F b ρ S2
    | none => .bad
  | F, .loop tg it body sc, ρ, S => (evIt F it ρ S).thn ρ fun w S => lockEndS w.lock (forLoop (fun x ρ S => match putTg ρ tg x with
      | some ρ' => if sc then scopeEnd S.length (exs F body ρ' S) else exs F body ρ' S
      | none => .bad) w.xs ρ S)
  | F, .setF cs f a v, ρ, S => (ev F v ρ S).thn ρ fun v S1 => (ev F a ρ S1).thn ρ fun a S2 => (gcO S.length (setFD cs f a v S2)).thn ρ fun _ S3 => .nx ρ S3
  | F, .setFs cs fs i v, ρ, S => (ev F v ρ S).thn ρ fun v S1 => match v with
    | .tup ds => (match varOf ρ i with
      | .loc n => (gcO S.length (setFDs cs fs ds (.loc n) S1)).thn ρ fun _ S3 => .nx ρ S3
      | _ => .bad)
    | _ => .bad
  | F, .asgU is e, ρ, S => (ev F e ρ S).thn ρ fun d S1 => match listOf S1 d with
    | some xs => (match setAll ρ is xs with | some ρ' => .nx ρ' S1 | none => .bad)
    | none => .bad
  | F, .pass, ρ, S => .nx ρ S
  | _, .stuck, _, _ => .bad
  | _, .raise c, ρ, S => .exc c ρ S
  | F, .tryAs body c i h, ρ, S => (match exs F body ρ S with
    | .exc e ρ1 S1 => if subC e c then (if i < ρ1.length then hotEnd (some i) (exs (hotF e F) h (ρ1.set i none) S1) else .bad) else .exc e ρ1 S1
    | o => o)
  | F, .tryMany body hs, ρ, S => (match exs F body ρ S with
    | .exc e ρ1 S1 => hands F hs e ρ1 S1
    | o => o)
def hands : (Nat → List D → Store → Out D) → Hds → Nat → Env → Store → SOut
  | _, .nil, e, ρ, S => .exc e ρ S
  | F, .cons c h r, e, ρ, S => if subC e c then hotEnd none (exs (hotF e F) h ρ S) else hands F r e ρ S
def exs : (Nat → List D → Store → Out D) → Sms → Env → Store → SOut
  | F, .nil, ρ, S => .nx ρ S
  | F, .cons s r, ρ, S => match ex F s ρ S with
    | .nx ρ S => exs F r ρ S
    | o => o
end

structure FD where
  np : Nat
  ns : Nat
  body : Sms
def start0 (n : Nat) (ds : List D) : Env := ds.map some ++ List.replicate (n - ds.length) none
def endD : SOut → Out D
  | .nx _ S => .ok .non S
  | .rt d S => .ok d S
  | .exc c _ S => .exc c S
  | .bad => .bad
def run (P : Nat → Option FD) : Nat → Nat → List D → Store → Out D
  | 0, _, _, _ => .bad
  | k + 1, f, ds, S => match P f with
    | some fd => if ds.length = fd.np then endD (exs (run P k) fd.body (start0 fd.ns ds) S) else .bad
    | none => match P ((f - 2000) % 100) with
      | some fd => if fd.np = 1 && decide (2000 ≤ f) then noexc (endD (exs (hotF ((f - 2000) / 100) (run P k)) fd.body (start0 fd.ns []) S)) else .bad
      | none => .bad
end Ev
set_option Elab.async false
set_option linter.all false
set_option maxRecDepth 100000
/-! Eng1: values and stores of the small language over HandS's heaps. -/
namespace Ev
open PySem L2

/-- room for calls within built-in functions -/
def RU (A : Around) : Prop := A.units + 64 < cLine
theorem RU.units {A : Around} (h : RU A) : A.units + 64 < cLine := h
theorem hu_ofU {A : Around} (h : RU A) : A.units + 1 < cLine := Nat.lt_of_le_of_lt (Nat.add_le_add_left (by decide : 1 ≤ 64) _) h
/-- a list that nobody changes: locked, or of the written part -/
def SqF (K : PySem.W.Frag) (H : Hp) (a : Addr) (xs : List V) : Prop :=
  (∃ o, H a = some (.frz o (.lst xs))) ∨
    ∃ (o : Obj) (its : Array Value) (n : Nat), K.lookup a = some o ∧ o.cls = .type "list" ∧ o.dict = none ∧ o.data = .seq its n ∧ its.size ≤ sizeLine ∧ Vals xs its.toList
theorem SqF.sq {K : PySem.W.Frag} {H : Hp} {a : Addr} {xs : List V} (h : SqF K H a xs) : SqL K H a xs := by
  rcases h with h | h
  · exact .inl (.inr h)
  · exact .inr h

mutual
def RV (K : PySem.W.Frag) (β : List Addr) (H : Hp) : D → V → Prop
  | .non, v => v = .non
  | .bl b, v => v = .bl b
  | .int i, v => v = .int i
  | .str s, v => v = .str ⟨s.toArray⟩
  | .tup ds, v => ∃ a vs, v = .ref a ∧ SqT K H a vs ∧ RVs K β H ds vs
  | .lit ds, v => ∃ a vs, v = .ref a ∧ SqF K H a vs ∧ RVs K β H ds vs
  | .loc n, v => ∃ a, v = .ref a ∧ β[n]? = some a
def RVs (K : PySem.W.Frag) (β : List Addr) (H : Hp) : List D → List V → Prop
  | [], vs => vs = []
  | d :: ds, vs => ∃ v r, vs = v :: r ∧ RV K β H d v ∧ RVs K β H ds r
end

section
variable {K : PySem.W.Frag} {β β' : List Addr} {H H' : Hp}
mutual
theorem RV.of_keep (ht : ∀ b xs, H b = some (.tup xs) → H' b = some (.tup xs)) (hf : ∀ b o u, H b = some (.frz o u) → H' b = some (.frz o u)) (hb : ∀ (n : Nat) a, β[n]? = some a → β'[n]? = some a) :
    ∀ (d : D) (v : V), RV K β H d v → RV K β' H' d v
  | .non, v, h => by rw [RV] at h ⊢; exact h
  | .bl b, v, h => by rw [RV] at h ⊢; exact h
  | .int i, v, h => by rw [RV] at h ⊢; exact h
  | .str s, v, h => by rw [RV] at h ⊢; exact h
  | .tup ds, v, h => by
    rw [RV] at h ⊢
    obtain ⟨a, vs, e, q, r⟩ := h
    refine ⟨a, vs, e, ?_, RVs.of_keep ht hf hb ds vs r⟩
    rcases q with (q | ⟨o, q⟩) | q
    · exact .inl (.inl (ht _ _ q))
    · exact .inl (.inr ⟨o, hf _ _ _ q⟩)
    · exact .inr q
  | .lit ds, v, h => by
    rw [RV] at h ⊢
    obtain ⟨a, vs, e, q, r⟩ := h
    refine ⟨a, vs, e, ?_, RVs.of_keep ht hf hb ds vs r⟩
    rcases q with ⟨o, q⟩ | q
    · exact .inl ⟨o, hf _ _ _ q⟩
    · exact .inr q
  | .loc n, v, h => by
    rw [RV] at h ⊢
    obtain ⟨a, e, q⟩ := h
    exact ⟨a, e, hb _ _ q⟩
theorem RVs.of_keep (ht : ∀ b xs, H b = some (.tup xs) → H' b = some (.tup xs)) (hf : ∀ b o u, H b = some (.frz o u) → H' b = some (.frz o u)) (hb : ∀ (n : Nat) a, β[n]? = some a → β'[n]? = some a) :
    ∀ (ds : List D) (vs : List V), RVs K β H ds vs → RVs K β' H' ds vs
  | [], vs, h => by rw [RVs] at h ⊢; exact h
  | d :: ds, vs, h => by
    rw [RVs] at h ⊢
    obtain ⟨v, r, e, h1, h2⟩ := h
    exact ⟨v, r, e, RV.of_keep ht hf hb d v h1, RVs.of_keep ht hf hb ds r h2⟩
end
mutual
theorem RV.pureB : ∀ (d : D) (v : V), d.pure = true → RV K β H d v → RV K β' H d v
  | .non, v, _, h => by rw [RV] at h ⊢; exact h
  | .bl b, v, _, h => by rw [RV] at h ⊢; exact h
  | .int i, v, _, h => by rw [RV] at h ⊢; exact h
  | .str s, v, _, h => by rw [RV] at h ⊢; exact h
  | .tup ds, v, p, h => by
    rw [RV] at h ⊢
    rw [D.pure] at p
    obtain ⟨a, vs, e, q, r⟩ := h
    exact ⟨a, vs, e, q, RVs.pureB ds vs p r⟩
  | .lit ds, v, p, h => by
    rw [RV] at h ⊢
    rw [D.pure] at p
    obtain ⟨a, vs, e, q, r⟩ := h
    exact ⟨a, vs, e, q, RVs.pureB ds vs p r⟩
  | .loc n, v, p, h => by rw [D.pure] at p; cases p
theorem RVs.pureB : ∀ (ds : List D) (vs : List V), D.pureAll ds = true → RVs K β H ds vs → RVs K β' H ds vs
  | [], vs, _, h => by rw [RVs] at h ⊢; exact h
  | d :: ds, vs, p, h => by
    rw [RVs] at h ⊢
    rw [D.pureAll, Bool.and_eq_true] at p
    obtain ⟨v, r, e, h1, h2⟩ := h
    exact ⟨v, r, e, RV.pureB d v p.1 h1, RVs.pureB ds r p.2 h2⟩
end
mutual
/-- only the objects below n are spoken of -/
theorem RV.lowB {n : Nat} (hb : ∀ m a, m < n → β[m]? = some a → β'[m]? = some a) : ∀ (d : D) (v : V), d.low n = true → RV K β H d v → RV K β' H d v
  | .non, v, _, h => by rw [RV] at h ⊢; exact h
  | .bl b, v, _, h => by rw [RV] at h ⊢; exact h
  | .int i, v, _, h => by rw [RV] at h ⊢; exact h
  | .str s, v, _, h => by rw [RV] at h ⊢; exact h
  | .tup ds, v, p, h => by
    rw [RV] at h ⊢
    rw [D.low] at p
    obtain ⟨a, vs, e, q, r⟩ := h
    exact ⟨a, vs, e, q, RVs.lowB hb ds vs p r⟩
  | .lit ds, v, p, h => by
    rw [RV] at h ⊢
    rw [D.low] at p
    obtain ⟨a, vs, e, q, r⟩ := h
    exact ⟨a, vs, e, q, RVs.lowB hb ds vs p r⟩
  | .loc m, v, p, h => by
    rw [RV] at h ⊢
    rw [D.low] at p
    obtain ⟨a, e, q⟩ := h
    exact ⟨a, e, hb m a (of_decide_eq_true p) q⟩
theorem RVs.lowB {n : Nat} (hb : ∀ m a, m < n → β[m]? = some a → β'[m]? = some a) : ∀ (ds : List D) (vs : List V), D.lowAll n ds = true → RVs K β H ds vs → RVs K β' H ds vs
  | [], vs, _, h => by rw [RVs] at h ⊢; exact h
  | d :: ds, vs, p, h => by
    rw [RVs] at h ⊢
    rw [D.lowAll, Bool.and_eq_true] at p
    obtain ⟨v, r, e, h1, h2⟩ := h
    exact ⟨v, r, e, RV.lowB hb d v p.1 h1, RVs.lowB hb ds r p.2 h2⟩
end
theorem RVs.length : ∀ {ds : List D} {vs : List V}, RVs K β H ds vs → vs.length = ds.length
  | [], vs, h => by rw [RVs] at h; subst h; rfl
  | d :: ds, vs, h => by
    rw [RVs] at h
    obtain ⟨v, r, rfl, _, h2⟩ := h
    simp [RVs.length h2]
theorem RVs.get : ∀ {ds : List D} {vs : List V}, RVs K β H ds vs → ∀ {i : Nat} {d : D}, ds[i]? = some d → ∃ v, vs[i]? = some v ∧ RV K β H d v
  | [], vs, h, i, d, e => by simp at e
  | x :: ds, vs, h, i, d, e => by
    rw [RVs] at h
    obtain ⟨v, r, rfl, h1, h2⟩ := h
    cases i with
    | zero => simp at e; subst e; exact ⟨v, rfl, h1⟩
    | succ i => simpa using RVs.get h2 (by simpa using e)
theorem RVs.append : ∀ {ds es : List D} {vs us : List V}, RVs K β H ds vs → RVs K β H es us → RVs K β H (ds ++ es) (vs ++ us)
  | [], es, vs, us, h, h' => by rw [RVs] at h; subst h; exact h'
  | d :: ds, es, vs, us, h, h' => by
    rw [RVs] at h
    obtain ⟨v, r, rfl, h1, h2⟩ := h
    rw [List.cons_append, List.cons_append, RVs]
    exact ⟨v, _, rfl, h1, RVs.append h2 h'⟩
theorem RVs.one {d : D} {v : V} (h : RV K β H d v) : RVs K β H [d] [v] := by
  rw [RVs]; exact ⟨v, [], rfl, h, by rw [RVs]⟩
theorem RVs.nil : RVs K β H [] [] := by rw [RVs]
theorem RVs.cons {d : D} {ds : List D} {v : V} {vs : List V} (h : RV K β H d v) (h2 : RVs K β H ds vs) : RVs K β H (d :: ds) (v :: vs) := by
  rw [RVs]; exact ⟨v, vs, rfl, h, h2⟩
theorem RVs.drop : ∀ (n : Nat) {ds : List D} {vs : List V}, RVs K β H ds vs → RVs K β H (ds.drop n) (vs.drop n)
  | 0, _, _, h => h
  | n + 1, [], vs, h => by rw [RVs] at h; subst h; exact RVs.nil
  | n + 1, d :: ds, vs, h => by
    rw [RVs] at h
    obtain ⟨v, r, rfl, h1, h2⟩ := h
    exact RVs.drop n h2
theorem RVs.take : ∀ (n : Nat) {ds : List D} {vs : List V}, RVs K β H ds vs → RVs K β H (ds.take n) (vs.take n)
  | 0, _, _, h => RVs.nil
  | n + 1, [], vs, h => by rw [RVs] at h; subst h; exact RVs.nil
  | n + 1, d :: ds, vs, h => by
    rw [RVs] at h
    obtain ⟨v, r, rfl, h1, h2⟩ := h
    exact RVs.cons h1 (RVs.take n h2)
end

/-! ### stores -/
def RKs (K : PySem.W.Frag) (β : List Addr) (H : Hp) : List (D × D) → List (Key × V) → Prop
  | [], gs => gs = []
  | (k, d) :: r, gs => ∃ s v t, k = .str s ∧ gs = (.inr ⟨s.toArray⟩, v) :: t ∧ RV K β H d v ∧ RKs K β H r t
/-- classes, fields by their numbers -/
def clsI : Nat → Str
  | 1 => "Sides"
  | _ => "Jar"
def iA (K : PySem.W.Frag) (c : Nat) : Addr := He.ga K (clsI c)
def fldL : List Str := ["manner", "some", "now", "past", "asked", "both", "row", "undone"]
def fldN (f : Nat) : Str := fldL.getD f "asked"
def RFs (K : PySem.W.Frag) (β : List Addr) (H : Hp) : List (Nat × D) → List (Str × V) → Prop
  | [], gs => gs = []
  | (f, d) :: r, gs => ∃ v t, gs = (fldN f, v) :: t ∧ f < 8 ∧ RV K β H d v ∧ RFs K β H r t
def RO (K : PySem.W.Frag) (β : List Addr) (H : Hp) (o : MO) (a : Addr) : Prop :=
  match o with
  | .lst xs => D.pureAll xs = true ∧ ∃ vs, H a = some (.lst vs) ∧ RVs K β H xs vs
  | .frz xs => D.pureAll xs = true ∧ ∃ vs, H a = some (.lst vs) ∧ RVs K β H xs vs
  | .dic kvs => ∃ gs, H a = some (.dK gs) ∧ RKs K β H kvs gs
  | .fdic kvs => ∃ gs, H a = some (.dK gs) ∧ RKs K β H kvs gs
  | .ins c fs => ∃ dx gs, H a = some (.ins (iA K c) dx gs) ∧ RFs K β H fs gs
/-- the defs that make lambdas; their code objects' tables -/
def lamDefs : List Str := ["sent", "_law_sent", "law", "parts_of", "_law_choices"]
def lamIn (K : PySem.W.Frag) (x : Str) : Bool := PySem.W.codeHdIn K (He.cT K (x, none)).1 (He.cT K (x, none)).2
def tabsOf (K : PySem.W.Frag) : List (Addr × Str) := (lamDefs.filter (lamIn K)).map fun x => ((He.cT K (x, none)).2, x ++ ".<locals>." ++ "<lambda>")
def noTbl : HO → Bool
  | .tbl _ => false
  | _ => true
structure RS (K : PySem.W.Frag) (β : List Addr) (S : Store) (H : Hp) : Prop where
  len : β.length = S.length
  nd : β.Nodup
  obj : ∀ (i : Nat) o a, S[i]? = some o → β[i]? = some a → RO K β H o a
  tab : LamX.Tabs (tabsOf K) H
structure Ext (β : List Addr) (S : Store) (H : Hp) (β' : List Addr) (S' : Store) (H' : Hp) : Prop where
  pre : ∃ new, β' = β ++ new ∧ ∀ b ∈ new, H b = none
  keep : ∀ b o, H b = some o → b ∉ β → noTbl o = true → H' b = some o
  live : ∀ b, H b ≠ none → H' b ≠ none
  frz : ∀ (n : Nat) xs, S[n]? = some (.frz xs) → S'[n]? = some (.frz xs)
  fdic : ∀ (n : Nat) xs, S[n]? = some (.fdic xs) → S'[n]? = some (.fdic xs)

/-- what an object of the store is in the heap: no tuple, nothing locked -/
def mutO : HO → Bool
  | .lst _ => true
  | .dK _ => true
  | .ins _ _ _ => true
  | _ => false
section
variable {K : PySem.W.Frag} {β β' β'' : List Addr} {S S' S'' : Store} {H H' H'' : Hp}
theorem RO.mut {o : MO} {a : Addr} (h : RO K β H o a) : ∃ u, H a = some u ∧ mutO u = true := by
  cases o with
  | lst xs => obtain ⟨_, vs, e, _⟩ := h; exact ⟨_, e, rfl⟩
  | frz xs => obtain ⟨_, vs, e, _⟩ := h; exact ⟨_, e, rfl⟩
  | dic xs => obtain ⟨vs, e, _⟩ := h; exact ⟨_, e, rfl⟩
  | fdic xs => obtain ⟨vs, e, _⟩ := h; exact ⟨_, e, rfl⟩
  | ins c fs => obtain ⟨dx, gs, e, _⟩ := h; exact ⟨_, e, rfl⟩
theorem RS.at (r : RS K β S H) {n : Nat} {o : MO} (h : S[n]? = some o) : ∃ a, β[n]? = some a ∧ RO K β H o a := by
  have hl : n < β.length := by rw [r.len]; exact (List.getElem?_eq_some_iff.mp h).1
  exact ⟨β[n], List.getElem?_eq_getElem hl, r.obj n o _ h (List.getElem?_eq_getElem hl)⟩
theorem RS.mutB (r : RS K β S H) {b : Addr} (h : b ∈ β) : ∃ u, H b = some u ∧ mutO u = true := by
  obtain ⟨n, hn, e⟩ := List.mem_iff_getElem.mp h
  have hs : n < S.length := by rw [← r.len]; exact hn
  exact (r.obj n S[n] b (List.getElem?_eq_getElem hs) (by rw [← e]; exact List.getElem?_eq_getElem hn)).mut
theorem RS.notTup (r : RS K β S H) {b : Addr} {xs : List V} (h : H b = some (.tup xs)) : b ∉ β := fun hb => by
  obtain ⟨u, e, m⟩ := r.mutB hb
  rw [h] at e; cases e; cases m
theorem RS.notFrz (r : RS K β S H) {b : Addr} {o : Obj} {u : HO} (h : H b = some (.frz o u)) : b ∉ β := fun hb => by
  obtain ⟨u, e, m⟩ := r.mutB hb
  rw [h] at e; cases e; cases m
theorem RV.mono (r : RS K β S H) (e : Ext β S H β' S' H') {d : D} {v : V} (h : RV K β H d v) : RV K β' H' d v := by
  refine RV.of_keep (fun b xs q => e.keep b _ q (r.notTup q) rfl) (fun b o u q => e.keep b _ q (r.notFrz q) rfl) (fun n a q => ?_) d v h
  obtain ⟨new, eb, _⟩ := e.pre
  rw [eb, List.getElem?_append_left (List.getElem?_eq_some_iff.mp q).1]
  exact q
theorem RVs.mono (r : RS K β S H) (e : Ext β S H β' S' H') {d : List D} {v : List V} (h : RVs K β H d v) : RVs K β' H' d v := by
  refine RVs.of_keep (fun b xs q => e.keep b _ q (r.notTup q) rfl) (fun b o u q => e.keep b _ q (r.notFrz q) rfl) (fun n a q => ?_) d v h
  obtain ⟨new, eb, _⟩ := e.pre
  rw [eb, List.getElem?_append_left (List.getElem?_eq_some_iff.mp q).1]
  exact q
theorem RKs.of_keep (f : ∀ d v, RV K β H d v → RV K β' H' d v) : ∀ (kvs : List (D × D)) (gs : List (Key × V)), RKs K β H kvs gs → RKs K β' H' kvs gs
  | [], gs, h => by rw [RKs] at h ⊢; exact h
  | (k, d) :: r, gs, h => by
    rw [RKs] at h ⊢
    obtain ⟨s, v, t, e1, e2, h1, h2⟩ := h
    exact ⟨s, v, t, e1, e2, f d v h1, RKs.of_keep f r t h2⟩
theorem RFs.of_keep (f : ∀ d v, RV K β H d v → RV K β' H' d v) : ∀ (fs : List (Nat × D)) (gs : List (Str × V)), RFs K β H fs gs → RFs K β' H' fs gs
  | [], gs, h => by rw [RFs] at h ⊢; exact h
  | (k, d) :: r, gs, h => by
    rw [RFs] at h ⊢
    obtain ⟨v, t, e1, e2, h1, h2⟩ := h
    exact ⟨v, t, e1, e2, f d v h1, RFs.of_keep f r t h2⟩
/-- an object that stands as it was -/
theorem RO.of_keep (f : ∀ d v, RV K β H d v → RV K β' H' d v) (g : ∀ d v, RVs K β H d v → RVs K β' H' d v) {o : MO} {a : Addr} (e : ∀ u, H a = some u → H' a = some u) (h : RO K β H o a) : RO K β' H' o a := by
  cases o with
  | lst xs => obtain ⟨p, vs, q, r⟩ := h; exact ⟨p, vs, e _ q, g _ _ r⟩
  | frz xs => obtain ⟨p, vs, q, r⟩ := h; exact ⟨p, vs, e _ q, g _ _ r⟩
  | dic xs => obtain ⟨vs, q, r⟩ := h; exact ⟨vs, e _ q, RKs.of_keep f _ _ r⟩
  | fdic xs => obtain ⟨vs, q, r⟩ := h; exact ⟨vs, e _ q, RKs.of_keep f _ _ r⟩
  | ins c fs => obtain ⟨dx, gs, q, r⟩ := h; exact ⟨dx, gs, e _ q, RFs.of_keep f _ _ r⟩
theorem Ext.refl : Ext β S H β S H := ⟨⟨[], by simp, fun _ h => nomatch h⟩, fun _ _ h _ _ => h, fun _ h => h, fun _ _ h => h, fun _ _ h => h⟩
theorem Ext.trans (e : Ext β S H β' S' H') (f : Ext β' S' H' β'' S'' H'') : Ext β S H β'' S'' H'' := by
  obtain ⟨n1, e1, h1⟩ := e.pre
  obtain ⟨n2, e2, h2⟩ := f.pre
  refine ⟨⟨n1 ++ n2, by rw [e2, e1, List.append_assoc], fun b hb => ?_⟩, fun b o q nb nt => ?_, fun b q => f.live b (e.live b q), fun n xs q => f.frz n xs (e.frz n xs q), fun n xs q => f.fdic n xs (e.fdic n xs q)⟩
  · rcases List.mem_append.mp hb with hb | hb
    · exact h1 b hb
    · cases q : H b with
      | none => rfl
      | some o => exact absurd (h2 b hb) (e.live b (by rw [q]; exact fun z => nomatch z))
  · refine f.keep b o (e.keep b o q nb nt) ?_ nt
    rw [e1]
    intro hb
    rcases List.mem_append.mp hb with hb | hb
    · exact nb hb
    · rw [h1 b hb] at q; cases q
theorem live_upd {p : Addr} {o : HO} (hp : H p = none) (b : Addr) (q : H b ≠ none) : upd H p o b ≠ none := by
  cases z : H b with
  | none => exact absurd z q
  | some u => rw [upd_ne (ne_of_none z hp), z]; exact (fun z => nomatch z)
theorem tabs_new {T : List (Addr × Str)} {p : Addr} {o : HO} (hp : H p = none) (t : LamX.Tabs T H) : LamX.Tabs T (upd H p o) := t.ext fun b u q => by rw [upd_ne (ne_of_none q hp)]; exact q
theorem tabs_mut {T : List (Addr × Str)} {a : Addr} {w u : HO} (ha : H a = some w) (hm : mutO w = true) (t : LamX.Tabs T H) : LamX.Tabs T (upd H a u) := fun p hp => by
  obtain ⟨ps, h1, h2, h3⟩ := t p hp
  refine ⟨ps, by rw [upd_ne (fun z => by rw [z, ha] at h1; cases h1; cases hm)]; exact h1, h2, fun pos cv hc => ?_⟩
  obtain ⟨c, e1, e2⟩ := h3 pos cv hc
  refine ⟨c, e1, ?_⟩
  rw [upd_ne (fun z => by rw [z, ha] at e2; cases e2; cases hm)]
  exact e2
/-- a new thing that is no object of the store -/
theorem RS.aside (r : RS K β S H) {p : Addr} {o : HO} (hp : H p = none) : RS K β S (upd H p o) ∧ Ext β S H β S (upd H p o) := by
  have ex : Ext β S H β S (upd H p o) := ⟨⟨[], by simp, fun _ h => nomatch h⟩, fun b u q _ _ => by rw [upd_ne (ne_of_none q hp)]; exact q, live_upd hp, fun _ _ h => h, fun _ _ h => h⟩
  refine ⟨⟨r.len, r.nd, fun i u a h1 h2 => ?_, tabs_new hp r.tab⟩, ex⟩
  refine (r.obj i u a h1 h2).of_keep (fun _ _ h => h.mono r ex) (fun _ _ h => h.mono r ex) fun z q => ?_
  rw [upd_ne (ne_of_none q hp)]; exact q
/-- a new object of the store -/
theorem RS.push (r : RS K β S H) {p : Addr} {o : MO} {u : HO} (hp : H p = none) (h : RO K (β ++ [p]) (upd H p u) o p) : RS K (β ++ [p]) (S ++ [o]) (upd H p u) ∧ Ext β S H (β ++ [p]) (S ++ [o]) (upd H p u) := by
  have lt : ∀ {n : Nat} {o' : MO}, S[n]? = some o' → (S ++ [o])[n]? = some o' := fun {n o'} q => by
    rw [List.getElem?_append_left (List.getElem?_eq_some_iff.mp q).1]; exact q
  have ex : Ext β S H (β ++ [p]) (S ++ [o]) (upd H p u) := ⟨⟨[p], rfl, fun b h => by rw [List.mem_singleton.mp h]; exact hp⟩, fun b u q _ _ => by rw [upd_ne (ne_of_none q hp)]; exact q, live_upd hp, fun _ _ q => lt q, fun _ _ q => lt q⟩
  have np : p ∉ β := fun hb => by
    obtain ⟨u, e, _⟩ := r.mutB hb
    rw [hp] at e; cases e
  refine ⟨⟨by simp [r.len], ?_, fun i o' a h1 h2 => ?_, tabs_new hp r.tab⟩, ex⟩
  · rw [List.nodup_append]
    exact ⟨r.nd, by simp, fun a ha b hb => by rw [List.mem_singleton.mp hb]; exact fun z => np (z ▸ ha)⟩
  · by_cases hi : i < S.length
    · rw [List.getElem?_append_left hi] at h1
      rw [List.getElem?_append_left (by rw [r.len]; exact hi)] at h2
      refine (r.obj i o' a h1 h2).of_keep (fun _ _ h => h.mono r ex) (fun _ _ h => h.mono r ex) fun z q => ?_
      rw [upd_ne (ne_of_none q hp)]; exact q
    · have hi' : i = S.length := by
        have := (List.getElem?_eq_some_iff.mp h1).1
        simp at this
        omega
      subst hi'
      have e1 : o' = o := by simpa using h1.symm
      have e2 : a = p := by
        rw [← r.len] at h2
        simpa using h2.symm
      rw [e1, e2]; exact h
/-- an object of the store is changed -/
theorem RS.put (r : RS K β S H) {n : Nat} {a : Addr} {o : MO} {u : HO} (ha : β[n]? = some a) (hf : ∀ xs, S[n]? ≠ some (.frz xs)) (hd : ∀ xs, S[n]? ≠ some (.fdic xs))
    (h : RO K β (upd H a u) o a) : RS K β (S.set n o) (upd H a u) ∧ Ext β S H β (S.set n o) (upd H a u) := by
  have hab : a ∈ β := List.mem_of_getElem? ha
  have ex : Ext β S H β (S.set n o) (upd H a u) := ⟨⟨[], by simp, fun _ h => nomatch h⟩, fun b w q nb _ => (by
    have nb' : b ≠ a := fun z => nb (by rw [z]; exact hab)
    rw [upd_ne nb']; exact q), fun b q => (by
    by_cases hb : b = a
    · rw [hb, upd_same]; exact (fun z => nomatch z)
    · rw [upd_ne hb]; exact q), fun m xs q => (by
    by_cases hm : n = m
    · subst hm; exact absurd q (hf xs)
    · rw [List.getElem?_set_ne hm]; exact q), fun m xs q => (by
    by_cases hm : n = m
    · subst hm; exact absurd q (hd xs)
    · rw [List.getElem?_set_ne hm]; exact q)⟩
  obtain ⟨w, hw, hm⟩ := r.mutB hab
  refine ⟨⟨by simpa using r.len, r.nd, fun i o' b h1 h2 => ?_, tabs_mut hw hm r.tab⟩, ex⟩
  by_cases hi : n = i
  · subst hi
    rw [ha] at h2; cases h2
    have hl : n < S.length := by rw [← r.len]; exact (List.getElem?_eq_some_iff.mp ha).1
    rw [List.getElem?_set_self hl] at h1
    cases h1
    exact h
  · rw [List.getElem?_set_ne hi] at h1
    have nb : b ≠ a := fun z => by
      subst z
      obtain ⟨l1, g1⟩ := List.getElem?_eq_some_iff.mp ha
      obtain ⟨l2, g2⟩ := List.getElem?_eq_some_iff.mp h2
      exact hi ((List.getElem_inj r.nd).mp (g1.trans g2.symm))
    refine (r.obj i o' b h1 h2).of_keep (fun _ _ h => h.mono r ex) (fun _ _ h => h.mono r ex) fun z q => ?_
    rw [upd_ne nb]; exact q
/-- the label of an object alone changes (locked, unlocked) -/
theorem RS.label (r : RS K β S H) {n : Nat} {o : MO} (h : ∀ a, β[n]? = some a → RO K β H o a) : RS K β (S.set n o) H := by
  refine ⟨by simpa using r.len, r.nd, fun i o' b h1 h2 => ?_, r.tab⟩
  by_cases hi : n = i
  · subst hi
    have hl : n < S.length := by rw [← r.len]; exact (List.getElem?_eq_some_iff.mp h2).1
    rw [List.getElem?_set_self hl] at h1
    cases h1
    exact h b h2
  · rw [List.getElem?_set_ne hi] at h1
    exact r.obj i o' b h1 h2

/-! ### what stands behind an outcome -/
def Post {α : Type} (K : PySem.W.Frag) (β : List Addr) (S : Store) (H : Hp) (o : Out α) (Q : α → Store → List Addr → Hp → Prop) (E : Nat → Store → List Addr → Hp → Prop) : Prop :=
  match o with
  | .ok a S' => ∀ β' H', Ext β S H β' S' H' → RS K β' S' H' → Q a S' β' H'
  | .exc c S' => ∀ β' H', Ext β S H β' S' H' → RS K β' S' H' → E c S' β' H'
  | .bad => False
theorem Post.bind {α γ : Type} {o : Out α} {k : α → Store → Out γ} {Q : γ → Store → List Addr → Hp → Prop} {E : Nat → Store → List Addr → Hp → Prop} (h : Post K β S H (o.bind k) Q E) :
    Post K β S H o (fun a S1 β1 H1 => Post K β1 S1 H1 (k a S1) Q E) E := by
  cases o with
  | ok a S1 =>
    intro β1 H1 e1 r1
    show Post K β1 S1 H1 (k a S1) Q E
    have h' : Post K β S H (k a S1) Q E := h
    revert h'
    cases k a S1 with
    | ok b S2 => intro h' β2 H2 e2 r2; exact h' β2 H2 (e1.trans e2) r2
    | exc c S2 => intro h' β2 H2 e2 r2; exact h' β2 H2 (e1.trans e2) r2
    | bad => intro h'; exact h'
  | exc c S1 => exact h
  | bad => exact h
theorem Post.mono {α : Type} {o : Out α} {Q Q' : α → Store → List Addr → Hp → Prop} {E E' : Nat → Store → List Addr → Hp → Prop} (h : Post K β S H o Q E)
    (hq : ∀ a S1 β1 H1, Ext β S H β1 S1 H1 → RS K β1 S1 H1 → Q a S1 β1 H1 → Q' a S1 β1 H1) (he : ∀ a S1 β1 H1, Ext β S H β1 S1 H1 → RS K β1 S1 H1 → E a S1 β1 H1 → E' a S1 β1 H1) : Post K β S H o Q' E' := by
  cases o with
  | ok a S1 => intro β1 H1 e1 r1; exact hq a S1 β1 H1 e1 r1 (h β1 H1 e1 r1)
  | exc a S1 => intro β1 H1 e1 r1; exact he a S1 β1 H1 e1 r1 (h β1 H1 e1 r1)
  | bad => exact h
/-- the outcome stands from an earlier store on -/
theorem Post.from {α : Type} {o : Out α} {Q : α → Store → List Addr → Hp → Prop} {E : Nat → Store → List Addr → Hp → Prop} (e : Ext β S H β' S' H') (h : Post K β S H o Q E) : Post K β' S' H' o Q E := by
  cases o with
  | ok a S1 => intro β1 H1 e1 r1; exact h β1 H1 (e.trans e1) r1
  | exc a S1 => intro β1 H1 e1 r1; exact h β1 H1 (e.trans e1) r1
  | bad => exact h
theorem Post.ok' {α : Type} {a : α} {Q : α → Store → List Addr → Hp → Prop} {E : Nat → Store → List Addr → Hp → Prop} (r : RS K β S H) (h : Post K β S H (.ok a S) Q E) : Q a S β H := h β H .refl r

/-! ### slots -/
structure Sim (K : PySem.W.Frag) (pin : St → Prop) (β : List Addr) (H : Hp) (σ : St) (ρ : Env) : Prop where
  pin : pin σ
  len : σ.length = ρ.length
  rel : ∀ (i : Nat) d, ρ[i]? = some (some d) → ∃ v, σ[i]? = some (some v) ∧ RV K β H d v
theorem Sim.mono {pin : St → Prop} {σ : St} {ρ : Env} (s : Sim K pin β H σ ρ) (r : RS K β S H) (e : Ext β S H β' S' H') : Sim K pin β' H' σ ρ :=
  ⟨s.pin, s.len, fun i d h => let ⟨v, h1, h2⟩ := s.rel i d h; ⟨v, h1, h2.mono r e⟩⟩
theorem Sim.set {pin : St → Prop} {σ : St} {ρ : Env} (s : Sim K pin β H σ ρ) {i : Nat} {d : D} {v : V} (h : RV K β H d v) (hp : pin (σ.set i (some v))) : Sim K pin β H (σ.set i (some v)) (ρ.set i (some d)) := by
  refine ⟨hp, by simp [s.len], fun j d' q => ?_⟩
  by_cases hj : i = j
  · subst hj
    have hl : i < ρ.length := by
      have := (List.getElem?_eq_some_iff.mp q).1
      simpa using this
    rw [List.getElem?_set_self hl] at q
    cases q
    exact ⟨v, List.getElem?_set_self (by rw [s.len]; exact hl), h⟩
  · rw [List.getElem?_set_ne hj] at q ⊢
    exact s.rel j d' q

/-! ### the readings -/
/-- w: what is wanted where something is raised; pin: what is known of the slots throughout -/
structure XW where
  w : Nat → St → Hp → Prop
  pin : St → Prop
instance : CoeFun XW (fun _ => Nat → St → Hp → Prop) := ⟨XW.w⟩
abbrev FS := Nat → List D → Store → Out D
/-- an outcome's value, wanted by Q; what is raised, by E at the slots σ -/
def PV (K : PySem.W.Frag) (E : XW) (σ : St) (β : List Addr) (S : Store) (H : Hp) (o : Out D) (Q : VK) : Prop :=
  Post K β S H o (fun d S' β' H' => ∀ v, RV K β' H' d v → Q v H') (fun c _ _ H' => E c σ H')
def tEv (K : PySem.W.Frag) (F : FS) (E : XW) (e : Ex) : TE := fun σ H Q => ∃ ρ S β, Sim K E.pin β H σ ρ ∧ RS K β S H ∧ PV K E σ β S H (ev F e ρ S) Q
def tEvs (K : PySem.W.Frag) (F : FS) (E : XW) (es : Exs) : TA := fun σ H Q => ∃ ρ S β, Sim K E.pin β H σ ρ ∧ RS K β S H ∧
  Post K β S H (evs F es ρ S) (fun ds S' β' H' => ∀ vs, RVs K β' H' ds vs → Q vs H') (fun c _ _ H' => E c σ H')
def tEvT (K : PySem.W.Frag) (F : FS) (E : XW) (e : Ex) : TT := fun σ H Q => ∃ ρ S β, Sim K E.pin β H σ ρ ∧ RS K β S H ∧
  Post K β S H ((ev F e ρ S).bind fun x S => blB (truth S x) S) (fun b _ _ H' => Q b H') (fun c _ _ H' => E c σ H')
end
end Ev
set_option Elab.async false
set_option linter.all false
set_option maxRecDepth 100000
/-! Eng2: the operations of the small language are Python's. -/
namespace Ev
open PySem L2

abbrev sA (l : List Nat) : Str := ⟨l.toArray⟩
theorem sA_len (l : List Nat) : (sA l).length = l.length := by rw [TL.len_tl]
theorem sA_app (a b : List Nat) : sA a ++ sA b = sA (a ++ b) := TL.ext_tl (by rw [TL.tl_append])
theorem szOk_le {n : Nat} (h : szOk n = true) : n ≤ sizeLine := of_decide_eq_true h

section
variable {K : PySem.W.Frag} {E : XW} {σ : L2.St} {β : List Addr} {S : Store} {H : Hp} {Q : VK}
theorem PV.now {d : D} {v : V} (r : RS K β S H) (h : PV K E σ β S H (.ok d S) Q) (hv : RV K β H d v) : Q v H := h β H .refl r v hv
theorem PV.newTup {ds : List D} {vs : List V} {p : Addr} (r : RS K β S H) (h : PV K E σ β S H (.ok (.tup ds) S) Q) (hv : RVs K β H ds vs) (hp : H p = none) : Q (.ref p) (upd H p (.tup vs)) := by
  obtain ⟨r2, e⟩ := r.aside (o := .tup vs) hp
  refine h β _ e r2 _ ?_
  rw [RV]
  exact ⟨p, vs, rfl, .of upd_same, hv.mono r e⟩
theorem PV.newList {ds : List D} {vs : List V} {p : Addr} (r : RS K β S H) (h : PV K E σ β S H (newL ds S) Q) (hv : RVs K β H ds vs) (hp : H p = none) : Q (.ref p) (upd H p (.lst vs)) := by
  unfold newL at h
  split at h
  · rename_i hc
    rw [Bool.and_eq_true] at hc
    obtain ⟨_, e⟩ := r.aside (o := .lst vs) hp
    obtain ⟨r2, e2⟩ := r.push (o := .lst ds) (u := .lst vs) hp ⟨hc.1, vs, upd_same, (hv.mono r e).pureB ds vs hc.1⟩
    refine h _ _ e2 r2 _ ?_
    rw [RV]
    refine ⟨p, rfl, ?_⟩
    rw [← r.len]
    simp
  · exact h.elim
theorem newL_len {ds : List D} (h : PV K E σ β S H (newL ds S) Q) : D.pureAll ds = true ∧ ds.length ≤ sizeLine := by
  unfold newL at h
  split at h
  · rename_i hc
    rw [Bool.and_eq_true] at hc
    exact ⟨hc.1, szOk_le hc.2⟩
  · exact h.elim
theorem RV.ref_of {d : D} {v : V} {ds : List D} (h : RV K β H (.tup ds) v) : ∃ a vs, v = .ref a ∧ SqT K H a vs ∧ RVs K β H ds vs := by rw [RV] at h; exact h
/-- a list of the store -/
theorem RS.lst (r : RS K β S H) {n : Nat} {xs : List D} (h : S[n]? = some (.lst xs)) : ∃ a vs, β[n]? = some a ∧ D.pureAll xs = true ∧ H a = some (.lst vs) ∧ RVs K β H xs vs := by
  obtain ⟨a, ha, p, vs, e, q⟩ := r.at h
  exact ⟨a, vs, ha, p, e, q⟩
theorem RS.frz (r : RS K β S H) {n : Nat} {xs : List D} (h : S[n]? = some (.frz xs)) : ∃ a vs, β[n]? = some a ∧ D.pureAll xs = true ∧ H a = some (.lst vs) ∧ RVs K β H xs vs := by
  obtain ⟨a, ha, p, vs, e, q⟩ := r.at h
  exact ⟨a, vs, ha, p, e, q⟩
theorem listOf_loc {S : Store} {n : Nat} {xs : List D} (h : listOf S (.loc n) = some xs) : S[n]? = some (.lst xs) ∨ S[n]? = some (.frz xs) := by
  simp only [listOf] at h
  split at h
  · rename_i ys e
    rw [e, Option.some.inj h]; exact .inl rfl
  · rename_i ys e
    rw [e, Option.some.inj h]; exact .inr rfl
  · cases h
/-- a list of the store, walked or not -/
theorem RS.lstf (r : RS K β S H) {n : Nat} {xs : List D} (h : S[n]? = some (.lst xs) ∨ S[n]? = some (.frz xs)) : ∃ a vs, β[n]? = some a ∧ D.pureAll xs = true ∧ H a = some (.lst vs) ∧ RVs K β H xs vs := by
  rcases h with h | h
  · exact r.lst h
  · exact r.frz h
/-- what is read as a list -/
theorem RS.list (r : RS K β S H) {d : D} {v : V} {xs : List D} (hv : RV K β H d v) (h : listOf S d = some xs) : ∃ a vs, v = .ref a ∧ SqL K H a vs ∧ RVs K β H xs vs := by
  cases d with
  | loc n =>
    rw [RV] at hv
    obtain ⟨a, rfl, ha⟩ := hv
    obtain ⟨a', vs, ha', _, e', q⟩ := r.lstf (listOf_loc h)
    rw [ha] at ha'; cases ha'
    exact ⟨a, vs, rfl, .of e', q⟩
  | lit ys =>
    obtain rfl : ys = xs := Option.some.inj h
    rw [RV] at hv
    obtain ⟨a, vs, e, q, z⟩ := hv
    exact ⟨a, vs, e, q.sq, z⟩
  | non => exact nomatch h
  | bl _ => exact nomatch h
  | int _ => exact nomatch h
  | str _ => exact nomatch h
  | tup _ => exact nomatch h
theorem RS.listPure (r : RS K β S H) {n : Nat} {xs : List D} (h : listOf S (.loc n) = some xs) : D.pureAll xs = true := by
  obtain ⟨_, _, _, p, _⟩ := r.lstf (listOf_loc h)
  exact p
end

/-- an operation of two values, of one, of a list of them -/
def rD2 (K : PySem.W.Frag) (E : XW) (f : D → D → Store → Out D) : R2 := fun x y H Q => ∃ σ β S d1 d2, RS K β S H ∧ RV K β H d1 x ∧ RV K β H d2 y ∧ PV K E σ β S H (f d1 d2 S) Q
def rDs (K : PySem.W.Frag) (E : XW) (f : List D → Store → Out D) : List V → Hp → VK → Prop := fun xs H Q => ∃ σ β S ds, RS K β S H ∧ RVs K β H ds xs ∧ PV K E σ β S H (f ds S) Q

section
variable {X : Cx} {E : XW}
theorem op_addE : OpR X (binaryOp .Add) (rD2 X.K E addD) := by
  intro pins s σ H x y v u Q I rx ry h
  obtain ⟨σ', β, S, d1, d2, r, h1, h2, q⟩ := h
  unfold addD at q
  split at q
  · rw [RV] at h1 h2
    subst h1 h2
    exact op_add pins s σ H _ _ v u Q I rx ry ⟨_, _, rfl, rfl, q.now r (by rw [RV])⟩
  · rw [RV] at h1 h2
    subst h1 h2
    split at q
    · rename_i a b hz
      refine op_add_str pins s σ H _ _ v u Q I rx ry ⟨_, _, rfl, rfl, ?_, ?_⟩
      · rw [sA_len, sA_len]; exact szOk_le hz
      · rw [sA_app]
        exact q.now r (by rw [RV])
    · exact q.elim
  · split at q
    · rename_i xs ys hz
      rw [RV] at h1 h2
      obtain ⟨a, vs, rfl, q1, z1⟩ := h1
      obtain ⟨b, ws, rfl, q2, z2⟩ := h2
      have l1 := z1.length
      have l2 := z2.length
      refine op_catA pins s σ H _ _ v u Q I rx ry ⟨a, b, vs, ws, rfl, rfl, q1, q2, by rw [l1, l2]; exact szOk_le hz, fun e => ?_, fun e1 e2 => ?_, fun e1 e2 p hp => ?_⟩
      · have : xs = [] := List.length_eq_zero_iff.mp (by rw [← l1, e]; rfl)
        subst this
        exact q.now r (by rw [RV]; exact ⟨b, ws, rfl, q2, z2⟩)
      · have : ys = [] := List.length_eq_zero_iff.mp (by rw [← l2, e2]; rfl)
        subst this
        rw [List.append_nil] at q
        exact q.now r (by rw [RV]; exact ⟨a, vs, rfl, q1, z1⟩)
      · exact q.newTup r (z1.append z2) hp
    · exact q.elim
  · split at q
    · rename_i m n xs ys e1 e2
      rw [RV] at h1 h2
      obtain ⟨a, rfl, ha⟩ := h1
      obtain ⟨b, rfl, hb⟩ := h2
      obtain ⟨a', vs, ha', _, e1', z1⟩ := r.lst e1
      obtain ⟨b', ws, hb', _, e2', z2⟩ := r.lst e2
      rw [ha] at ha'; cases ha'
      rw [hb] at hb'; cases hb'
      have l1 := z1.length
      have l2 := z2.length
      refine op_cat pins s σ H _ _ v u Q I rx ry ⟨a, b, vs, ws, rfl, rfl, e1', e2', ?_, fun p hp => q.newList r (z1.append z2) hp⟩
      have := (newL_len q).2
      rw [l1, l2, ← List.length_append]
      exact this
    · exact q.elim
  · exact q.elim
theorem op_subE : OpR X (binaryOp .Sub) (rD2 X.K E subD) := by
  intro pins s σ H x y v u Q I rx ry h
  obtain ⟨σ', β, S, d1, d2, r, h1, h2, q⟩ := h
  unfold subD at q
  split at q
  · rw [RV] at h1 h2
    subst h1 h2
    exact op_sub pins s σ H _ _ v u Q I rx ry ⟨_, _, rfl, rfl, q.now r (by rw [RV])⟩
  · exact q.elim
theorem sm64_of {i : Int} (h : sm64 i = true) : -(2 ^ 64) < i ∧ i < 2 ^ 64 := by
  unfold sm64 at h
  rw [Bool.and_eq_true] at h
  exact ⟨of_decide_eq_true h.1, of_decide_eq_true h.2⟩
theorem RVs.rep {K : PySem.W.Frag} {β : List Addr} {H : Hp} {ds : List D} {vs : List V} (h : RVs K β H ds vs) : ∀ n : Nat, RVs K β H (List.replicate n ds).flatten (List.replicate n vs).flatten
  | 0 => by simpa using RVs.nil
  | n + 1 => by
    rw [List.replicate_succ, List.replicate_succ, List.flatten_cons, List.flatten_cons]
    exact h.append (RVs.rep h n)
theorem rep_len {α β : Type} {xs : List α} {ys : List β} (h : xs.length = ys.length) : ∀ n : Nat, (List.replicate n xs).flatten.length = (List.replicate n ys).flatten.length
  | 0 => rfl
  | n + 1 => by
    rw [List.replicate_succ, List.replicate_succ, List.flatten_cons, List.flatten_cons, List.length_append, List.length_append, h, rep_len h n]
end
end Ev
set_option Elab.async false
set_option linter.all false
set_option maxRecDepth 100000
/-! Eng3: products, comparisons, truth. -/
namespace Ev
open PySem L2

section
variable {X : Cx} {E : XW}
theorem op_mulE : OpR X (binaryOp .Mult) (rD2 X.K E mulD) := by
  intro pins s σ H x y v u Q I rx ry h
  obtain ⟨σ', β, S, d1, d2, r, h1, h2, q⟩ := h
  unfold mulD at q
  split at q
  · split at q
    · rename_i i j hc
      rw [RV] at h1 h2
      subst h1 h2
      refine op_mul pins s σ H _ _ v u Q I rx ry ⟨_, _, rfl, rfl, ?_, q.now r (by rw [RV])⟩
      rw [Bool.or_eq_true] at hc
      rcases hc with hc | hc
      · exact .inl (sm64_of hc)
      · exact .inr (sm64_of hc)
    · exact q.elim
  · split at q
    · rename_i m k _ xs e
      split at q
      · rename_i hc
        simp only [RV] at h1 h2
        obtain ⟨a, rfl, ha⟩ := h1
        subst h2
        obtain ⟨a', vs, ha', _, e', z⟩ := r.lst e
        rw [ha] at ha'; cases ha'
        rw [Bool.and_eq_true] at hc
        have c1 := of_decide_eq_true hc.1
        have c2 := of_decide_eq_true hc.2
        refine op_rep pins s σ H _ _ v u Q I rx ry ⟨a, k, vs, rfl, rfl, e', by omega, by omega, ?_, fun p hp => q.newList r (z.rep _) hp⟩
        have h1 := (newL_len q).2
        rw [rep_len z.length.symm] at h1
        simpa [Nat.mul_comm] using h1
      · exact q.elim
    · exact q.elim
  · split at q
    · rename_i xs k hc
      simp only [RV] at h1 h2
      obtain ⟨a, vs, rfl, sq, z⟩ := h1
      subst h2
      simp only [Bool.and_eq_true, Bool.not_eq_true', decide_eq_true_eq] at hc
      refine op_repT pins s σ H _ _ v u Q I rx ry ⟨a, k, vs, rfl, rfl, sq, fun e => ?_, hc.1.1.2, hc.1.2, by rw [z.length]; exact hc.2, fun p hp => q.newTup r (z.rep _) hp⟩
      rw [e] at z
      have := z.length
      cases xs with
      | nil => exact nomatch hc.1.1.1
      | cons _ _ => simp at this
    · exact q.elim
  · exact q.elim
theorem op_modE : OpR X (binaryOp .Mod) (rD2 X.K E modD) := by
  intro pins s σ H x y v u Q I rx ry h
  obtain ⟨σ', β, S, d1, d2, r, h1, h2, q⟩ := h
  unfold modD at q
  split at q
  · split at q
    · rename_i hc
      rw [RV] at h1 h2
      subst h1 h2
      exact op_mod pins s σ H _ _ v u Q I rx ry ⟨_, _, rfl, rfl, of_decide_eq_true hc, q.now r (by rw [RV])⟩
    · exact q.elim
  · exact q.elim
theorem op_fdivE : OpR X (binaryOp .FloorDiv) (rD2 X.K E fdivD) := by
  intro pins s σ H x y v u Q I rx ry h
  obtain ⟨σ', β, S, d1, d2, r, h1, h2, q⟩ := h
  unfold fdivD at q
  split at q
  · split at q
    · rename_i hc
      rw [Bool.and_eq_true] at hc
      rw [RV] at h1 h2
      subst h1 h2
      exact op_fdiv pins s σ H _ _ v u Q I rx ry ⟨_, _, rfl, rfl, ⟨of_decide_eq_true hc.1, of_decide_eq_true hc.2⟩, q.now r (by rw [RV])⟩
    · exact q.elim
  · exact q.elim
end

/-! ### data as the library reads it -/
mutual
def toPy : D → PyData
  | .non => .none
  | .bl b => .bool b
  | .int i => .int i
  | .str s => .str (sA s)
  | .tup xs => .tuple (toPys xs)
  | .lit xs => .list (toPys xs)
  | .loc _ => .none
def toPys : List D → List PyData
  | [] => []
  | x :: xs => toPy x :: toPys xs
end
theorem toPys_map : ∀ xs : List D, toPys xs = xs.map toPy
  | [] => rfl
  | x :: xs => by rw [toPys, List.map_cons, toPys_map xs]
mutual
theorem plain_toPy : ∀ d : D, (toPy d).plain = true
  | .non => rfl | .bl _ => rfl | .int _ => rfl | .str _ => rfl | .loc _ => rfl
  | .tup xs => by rw [toPy, PyData.plain]; exact plain_toPys xs
  | .lit xs => by rw [toPy, PyData.plain]; exact plain_toPys xs
theorem plain_toPys : ∀ ds : List D, PyData.plainAll (toPys ds) = true
  | [] => rfl
  | x :: xs => by rw [toPys, PyData.plainAll, plain_toPy x, plain_toPys xs]; rfl
end
mutual
theorem depth_toPy : ∀ d : D, (toPy d).depth = d.depth
  | .non => rfl | .bl _ => rfl | .int _ => rfl | .str _ => rfl | .loc _ => rfl
  | .tup xs => by rw [toPy, PyData.depth, D.depth, depth_toPys xs]
  | .lit xs => by rw [toPy, PyData.depth, D.depth, depth_toPys xs]
theorem depth_toPys : ∀ ds : List D, PyData.depthAll (toPys ds) = D.depthAll ds
  | [] => rfl
  | x :: xs => by rw [toPys, PyData.depthAll, D.depthAll, depth_toPy x, depth_toPys xs]
end
theorem sA_beq (a b : List Nat) : (sA a == sA b) = (a == b) := by
  by_cases e : a = b
  · subst e; simp
  · have : sA a ≠ sA b := fun z => e (by
      have := congrArg TL.tl z
      simpa [TL.tl] using this)
    rw [beq_eq_false_iff_ne.mpr this, beq_eq_false_iff_ne.mpr e]
mutual
theorem eqD_py : ∀ a b : D, a.pure = true → b.pure = true → eqD a b = PyData.eqv (toPy a) (toPy b)
  | .non, b, _, hb => by cases b <;> first | rfl | (rw [D.pure] at hb; cases hb)
  | .bl x, b, _, hb => by cases b <;> first | rfl | (rw [D.pure] at hb; cases hb)
  | .int x, b, _, hb => by cases b <;> first | rfl | (rw [D.pure] at hb; cases hb)
  | .str x, b, _, hb => by
    cases b with
    | str y => rw [eqD, toPy, toPy, PyData.eqv, sA_beq]
    | loc _ => rw [D.pure] at hb; cases hb
    | _ => rfl
  | .tup xs, b, ha, hb => by
    cases b with
    | tup ys =>
      rw [D.pure] at ha hb
      rw [eqD, toPy, toPy, PyData.eqv]; exact eqDs_py xs ys ha hb
    | loc _ => rw [D.pure] at hb; cases hb
    | _ => rfl
  | .lit xs, b, ha, hb => by
    cases b with
    | lit ys =>
      rw [D.pure] at ha hb
      rw [eqD, toPy, toPy, PyData.eqv]; exact eqDs_py xs ys ha hb
    | loc _ => rw [D.pure] at hb; cases hb
    | _ => rfl
  | .loc _, b, ha, _ => by rw [D.pure] at ha; cases ha
theorem eqDs_py : ∀ a b : List D, D.pureAll a = true → D.pureAll b = true → eqDs a b = PyData.eqvAll (toPys a) (toPys b)
  | [], [], _, _ => rfl
  | [], _ :: _, _, _ => rfl
  | _ :: _, [], _, _ => rfl
  | x :: xs, y :: ys, ha, hb => by
    rw [D.pureAll, Bool.and_eq_true] at ha hb
    rw [eqDs, toPys, toPys, PyData.eqvAll, eqD_py x y ha.1 hb.1, eqDs_py xs ys ha.2 hb.2]
end
section
variable {K : PySem.W.Frag} {β : List Addr} {S : Store} {H : Hp}
mutual
theorem RV.dp : ∀ (d : D) (v : V), d.pure = true → RV K β H d v → Dp K H v (toPy d)
  | .non, v, _, h => by rw [RV] at h; subst h; exact .non
  | .bl b, v, _, h => by rw [RV] at h; subst h; exact .bl b
  | .int i, v, _, h => by rw [RV] at h; subst h; exact .int i
  | .str s, v, _, h => by rw [RV] at h; subst h; exact .str _
  | .tup ds, v, p, h => by
    rw [RV] at h
    rw [D.pure] at p
    obtain ⟨a, vs, rfl, q, r⟩ := h
    rw [toPy]
    exact .tup q (RVs.dp ds vs p r)
  | .lit ds, v, p, h => by
    rw [RV] at h
    rw [D.pure] at p
    obtain ⟨a, vs, rfl, q, r⟩ := h
    rw [toPy]
    exact .lst q.sq (RVs.dp ds vs p r)
  | .loc _, v, p, _ => by rw [D.pure] at p; cases p
theorem RVs.dp : ∀ (ds : List D) (vs : List V), D.pureAll ds = true → RVs K β H ds vs → DpAll K H vs (toPys ds)
  | [], vs, _, h => by rw [RVs] at h; subst h; exact .nil
  | d :: ds, vs, p, h => by
    rw [RVs] at h
    rw [D.pureAll, Bool.and_eq_true] at p
    obtain ⟨v, r, rfl, h1, h2⟩ := h
    rw [toPys]
    exact .cons (RV.dp d v p.1 h1) (RVs.dp ds r p.2 h2)
end
theorem der_pure (r : RS K β S H) {d x : D} (h : der S d = some x) : x.pure = true := by
  cases d with
  | loc n =>
    simp only [der] at h
    split at h
    · rename_i xs e
      cases h
      obtain ⟨_, _, _, p, _⟩ := r.lst e
      rw [D.pure]; exact p
    · rename_i xs e
      cases h
      obtain ⟨_, _, _, p, _⟩ := r.frz e
      rw [D.pure]; exact p
    · cases h
  | _ =>
    simp only [der] at h
    split at h
    · rename_i p
      cases h
      exact p
    · cases h
theorem der_dp (r : RS K β S H) {d x : D} {v : V} (hv : RV K β H d v) (h : der S d = some x) : Dp K H v (toPy x) := by
  cases d with
  | loc n =>
    rw [RV] at hv
    obtain ⟨a, rfl, ha⟩ := hv
    have key : ∀ xs, S[n]? = some (.lst xs) ∨ S[n]? = some (.frz xs) → Dp K H (.ref a) (toPy (.lit xs)) := fun xs e => by
      obtain ⟨a', vs, ha', p, e', z⟩ := r.lstf e
      rw [ha] at ha'; cases ha'
      rw [toPy]
      exact .lst (.of e') (RVs.dp xs vs p z)
    simp only [der] at h
    split at h
    · rename_i xs e
      cases h
      exact key xs (.inl e)
    · rename_i xs e
      cases h
      exact key xs (.inr e)
    · cases h
  | _ =>
    simp only [der] at h
    split at h
    · rename_i p
      cases h
      exact RV.dp _ v p hv
    · cases h
end

/-! ### comparisons -/
def rC (K : PySem.W.Frag) (f : Store → D → D → Option Bool) : R2 := fun x y H Q => ∃ β S d1 d2 b, RS K β S H ∧ RV K β H d1 x ∧ RV K β H d2 y ∧ f S d1 d2 = some b ∧ Q (.bl b) H
section
variable {X : Cx}
theorem eqS_run {pins : List (Addr × Obj)} {s : Shared} {σ : L2.St} {H : Hp} {x y : V} {v u : Value} {β : List Addr} {S : Store} {d1 d2 : D} {b : Bool} (I : Inv X pins σ H s) (rx : RelV x v) (ry : RelV y u)
    (r : RS X.K β S H) (h1 : RV X.K β H d1 x) (h2 : RV X.K β H d2 y) (h : eqS S d1 d2 = some b) :
    ∃ da db as bs, Reads s.heap v da as ∧ Reads s.heap u db bs ∧ da.plain = true ∧ db.plain = true ∧ min da.depth db.depth ≤ 60 ∧ PyData.eqv da db = b := by
  unfold eqS at h
  split at h
  · rename_i a c e1 e2
    split at h
    · rename_i hc
      obtain ⟨as, q1⟩ := Dp.reads I _ x v (der_dp r h1 e1) rx
      obtain ⟨bs, q2⟩ := Dp.reads I _ y u (der_dp r h2 e2) ry
      refine ⟨_, _, as, bs, q1, q2, plain_toPy a, plain_toPy c, ?_, ?_⟩
      · rw [depth_toPy, depth_toPy]; exact of_decide_eq_true hc
      · rw [← eqD_py a c (der_pure r e1) (der_pure r e2)]
        exact Option.some.inj h
    · cases h
  · cases h
theorem op_eqE (hr : RU X.A) : OpR X (compareOp .Eq) (rC X.K eqS) := by
  intro pins s σ H x y v u Q I rx ry h
  obtain ⟨β, S, d1, d2, b, r, h1, h2, e, q⟩ := h
  obtain ⟨da, db, as, bs, q1, q2, p1, p2, hd, rfl⟩ := eqS_run I rx ry r h1 h2 e
  exact SeqAt.eq_plain q1 q2 p1 p2 (by have := hr.units; omega) ⟨.bl _, H, I, rfl, q⟩
theorem op_neE (hr : RU X.A) : OpR X (compareOp .NotEq) (rC X.K fun S a b => (eqS S a b).map (!·)) := by
  intro pins s σ H x y v u Q I rx ry h
  obtain ⟨β, S, d1, d2, b, r, h1, h2, e, q⟩ := h
  obtain ⟨c, e', rfl⟩ := Option.map_eq_some_iff.mp e
  obtain ⟨da, db, as, bs, q1, q2, p1, p2, hd, rfl⟩ := eqS_run I rx ry r h1 h2 e'
  exact SeqAt.ne_plain q1 q2 p1 p2 (by have := hr.units; omega) ⟨.bl _, H, I, rfl, q⟩
theorem ltN_eq : ∀ a b : List Nat, ltN a b = decide (a < b)
  | [], [] => by rw [ltN]; rfl
  | [], _ :: _ => by rw [ltN]; exact (decide_eq_true (List.nil_lt_cons _ _)).symm
  | _ :: _, [] => by rw [ltN]; exact (decide_eq_false (List.not_lt_nil _)).symm
  | x :: xs, y :: ys => by
    rw [ltN, ltN_eq xs ys]
    by_cases h1 : x < y
    · rw [if_pos h1]
      exact (decide_eq_true (List.cons_lt_cons_iff.mpr (.inl h1))).symm
    · rw [if_neg h1]
      by_cases h2 : x = y
      · rw [if_pos h2]
        subst h2
        simp [List.cons_lt_cons_iff]
      · rw [if_neg h2]
        refine (decide_eq_false fun z => ?_).symm
        rcases List.cons_lt_cons_iff.mp z with z | ⟨z, _⟩
        · exact h1 z
        · exact h2 z
theorem op_ltE : OpR X (compareOp .Lt) (rC X.K fun _ => ltO) := by
  intro pins s σ H x y v u Q I rx ry h
  obtain ⟨β, S, d1, d2, b, r, h1, h2, e, q⟩ := h
  simp only [ltO] at e
  split at e
  · rw [RV] at h1 h2
    subst h1 h2
    cases e
    exact op_lt pins s σ H _ _ v u Q I rx ry ⟨_, _, rfl, rfl, q⟩
  · rw [RV] at h1 h2
    subst h1 h2
    cases e
    refine op_lt_str pins s σ H _ _ v u Q I rx ry ⟨_, _, rfl, rfl, ?_⟩
    rw [ltN_eq] at q
    exact q
  · cases e
theorem op_gtE : OpR X (compareOp .Gt) (rC X.K fun _ a b => ltO b a) := by
  intro pins s σ H x y v u Q I rx ry h
  obtain ⟨β, S, d1, d2, b, r, h1, h2, e, q⟩ := h
  simp only [ltO] at e
  split at e
  · rw [RV] at h1 h2
    subst h1 h2
    cases e
    exact op_gt pins s σ H _ _ v u Q I rx ry ⟨_, _, rfl, rfl, q⟩
  · rw [RV] at h1 h2
    subst h1 h2
    cases e
    refine op_gt_str pins s σ H _ _ v u Q I rx ry ⟨_, _, rfl, rfl, ?_⟩
    rw [ltN_eq] at q
    exact q
  · cases e
theorem op_leE : OpR X (compareOp .LtE) (rC X.K fun _ => leO) := by
  intro pins s σ H x y v u Q I rx ry h
  obtain ⟨β, S, d1, d2, b, r, h1, h2, e, q⟩ := h
  simp only [leO] at e
  split at e
  · rw [RV] at h1 h2
    subst h1 h2
    cases e
    exact op_le pins s σ H _ _ v u Q I rx ry ⟨_, _, rfl, rfl, q⟩
  · rw [RV] at h1 h2
    subst h1 h2
    cases e
    refine op_le_str pins s σ H _ _ v u Q I rx ry ⟨_, _, rfl, rfl, ?_⟩
    rw [ltN_eq] at q
    exact q
  · cases e
theorem op_geE : OpR X (compareOp .GtE) (rC X.K fun _ a b => leO b a) := by
  intro pins s σ H x y v u Q I rx ry h
  obtain ⟨β, S, d1, d2, b, r, h1, h2, e, q⟩ := h
  simp only [leO] at e
  split at e
  · rw [RV] at h1 h2
    subst h1 h2
    cases e
    exact op_ge pins s σ H _ _ v u Q I rx ry ⟨_, _, rfl, rfl, q⟩
  · rw [RV] at h1 h2
    subst h1 h2
    cases e
    refine op_ge_str pins s σ H _ _ v u Q I rx ry ⟨_, _, rfl, rfl, ?_⟩
    rw [ltN_eq] at q
    exact q
  · cases e
theorem any_py {x : D} (hx : x.pure = true) : ∀ ys : List D, D.pureAll ys = true → ((toPys ys).any fun y => PyData.eqv y (toPy x)) = ys.any fun y => eqD y x
  | [], _ => rfl
  | y :: ys, h => by
    rw [D.pureAll, Bool.and_eq_true] at h
    rw [toPys, List.any_cons, List.any_cons, any_py hx ys h.2, eqD_py y x h.1 hx]
theorem inS_run (hr : RU X.A) {pins : List (Addr × Obj)} {s : Shared} {σ : L2.St} {H : Hp} {x y : V} {v u : Value} {β : List Addr} {S : Store} {d1 d2 : D} {b : Bool} (I : Inv X pins σ H s) (rx : RelV x v) (ry : RelV y u)
    (r : RS X.K β S H) (h1 : RV X.K β H d1 x) (h2 : RV X.K β H d2 y) (h : inS S d1 d2 = some b) :
    (∃ (c : Nat) (z : Str), x = .str ⟨#[c]⟩ ∧ y = .str z ∧ decide (c ∈ z.cps.toList) = b) ∨
    ∃ d ys as bs, Reads s.heap v d as ∧ (Reads s.heap u (.list ys) bs ∨ Reads s.heap u (.tuple ys) bs) ∧ d.plain = true ∧ PyData.plainAll ys = true ∧ d.depth ≤ 60 ∧ (ys.any fun y => PyData.eqv y d) = b := by
  have gen : ∀ {a : D} {ys : List D}, der S d1 = some a → (der S d2 = some (.lit ys) ∨ der S d2 = some (.tup ys)) → a.depth ≤ 60 → (ys.any fun y => eqD y a) = b →
      ∃ d ys as bs, Reads s.heap v d as ∧ (Reads s.heap u (.list ys) bs ∨ Reads s.heap u (.tuple ys) bs) ∧ d.plain = true ∧ PyData.plainAll ys = true ∧ d.depth ≤ 60 ∧ (ys.any fun y => PyData.eqv y d) = b := by
    intro a ys e1 e2 hd hb
    obtain ⟨as, q1⟩ := Dp.reads I _ x v (der_dp r h1 e1) rx
    have pa := der_pure r e1
    refine ⟨toPy a, toPys ys, as, ?_⟩
    rcases e2 with e2 | e2
    · obtain ⟨bs, q2⟩ := Dp.reads I _ y u (der_dp r h2 e2) ry
      have py := der_pure r e2
      rw [D.pure] at py
      rw [toPy] at q2
      exact ⟨bs, q1, .inl q2, plain_toPy a, plain_toPys ys, by rw [depth_toPy]; exact hd, by rw [any_py pa ys py]; exact hb⟩
    · obtain ⟨bs, q2⟩ := Dp.reads I _ y u (der_dp r h2 e2) ry
      have py := der_pure r e2
      rw [D.pure] at py
      rw [toPy] at q2
      exact ⟨bs, q1, .inr q2, plain_toPy a, plain_toPys ys, by rw [depth_toPy]; exact hd, by rw [any_py pa ys py]; exact hb⟩
  unfold inS at h
  split at h
  · rename_i a l
    split at h
    · rename_i hc
      left
      rw [RV] at h1 h2
      subst h1 h2
      obtain ⟨c, rfl⟩ : ∃ c, a = [c] := List.length_eq_one_iff.mp (eq_of_beq hc)
      refine ⟨c, sA l, rfl, rfl, ?_⟩
      have := Option.some.inj h
      rw [← this]
      simp
    · cases h
  · right
    split at h
    · rename_i a ys e1 e2
      split at h
      · rename_i hc
        exact gen e1 (.inl e2) (of_decide_eq_true hc) (Option.some.inj h)
      · cases h
    · rename_i a ys e1 e2
      split at h
      · rename_i hc
        exact gen e1 (.inr e2) (of_decide_eq_true hc) (Option.some.inj h)
      · cases h
    · cases h
theorem op_inE (hr : RU X.A) : OpR X (compareOp .In) (rC X.K inS) := by
  intro pins s σ H x y v u Q I rx ry h
  obtain ⟨β, S, d1, d2, b, r, h1, h2, e, q⟩ := h
  have hu := hr.units
  rcases inS_run hr I rx ry r h1 h2 e with ⟨c, z, rfl, rfl, rfl⟩ | ⟨d, ys, as, bs, q1, q2 | q2, p1, p2, hd, rfl⟩
  · exact op_in_sign pins s σ H _ _ v u Q I rx ry ⟨c, z, rfl, rfl, q⟩
  · exact SeqAt.in_list_data q2 q1 p2 p1 (by omega) ⟨.bl _, H, I, rfl, q⟩
  · exact SeqAt.in_tuple_data q2 q1 p2 p1 (by omega) ⟨.bl _, H, I, rfl, q⟩
theorem op_notInE (hr : RU X.A) : OpR X (compareOp .NotIn) (rC X.K fun S a b => (inS S a b).map (!·)) := by
  intro pins s σ H x y v u Q I rx ry h
  obtain ⟨β, S, d1, d2, b, r, h1, h2, e, q⟩ := h
  obtain ⟨c, e', rfl⟩ := Option.map_eq_some_iff.mp e
  have hu := hr.units
  rcases inS_run hr I rx ry r h1 h2 e' with ⟨c, z, rfl, rfl, rfl⟩ | ⟨d, ys, as, bs, q1, q2 | q2, p1, p2, hd, rfl⟩
  · exact op_notIn_sign pins s σ H _ _ v u Q I rx ry ⟨c, z, rfl, rfl, q⟩
  · exact SeqAt.notIn_list_data q2 q1 p2 p1 (by omega) ⟨.bl _, H, I, rfl, q⟩
  · exact SeqAt.notIn_tuple_data q2 q1 p2 p1 (by omega) ⟨.bl _, H, I, rfl, q⟩
theorem isS_run {K : PySem.W.Frag} {β : List Addr} {H : Hp} {d1 d2 : D} {x y : V} {b : Bool} (h1 : RV K β H d1 x) (h2 : RV K β H d2 y) (h : isS d1 d2 = some b) :
    (y = .non ∧ decide (x = .non) = b) ∨ ∃ p q, x = .bl p ∧ y = .bl q ∧ decide (p = q) = b := by
  unfold isS at h
  split at h
  · left
    rw [RV] at h2
    refine ⟨h2, ?_⟩
    have := Option.some.inj h
    rw [← this]
    cases d1 with
    | non => rw [RV] at h1; subst h1; rfl
    | bl _ => rw [RV] at h1; subst h1; rfl
    | int _ => rw [RV] at h1; subst h1; rfl
    | str _ => rw [RV] at h1; subst h1; rfl
    | tup _ => rw [RV] at h1; obtain ⟨_, _, rfl, _⟩ := h1; rfl
    | lit _ => rw [RV] at h1; obtain ⟨_, _, rfl, _⟩ := h1; rfl
    | loc _ => rw [RV] at h1; obtain ⟨_, rfl, _⟩ := h1; rfl
  · split at h
    · right
      rw [RV] at h1 h2
      refine ⟨_, _, h1, h2, ?_⟩
      rw [← Option.some.inj h, Bool.beq_eq_decide_eq]
    · cases h
  · cases h
theorem op_isE : OpR X (compareOp .Is) (rC X.K fun _ => isS) := by
  intro pins s σ H x y v u Q I rx ry h
  obtain ⟨β, S, d1, d2, b, r, h1, h2, e, q⟩ := h
  rcases isS_run h1 h2 e with ⟨rfl, rfl⟩ | ⟨p, q', rfl, rfl, rfl⟩
  · exact op_isN pins s σ H _ _ v u Q I rx ry ⟨rfl, q⟩
  · exact op_isBl pins s σ H _ _ v u Q I rx ry ⟨_, _, rfl, rfl, q⟩
theorem op_isnotE : OpR X (compareOp .IsNot) (rC X.K fun _ a b => (isS a b).map (!·)) := by
  intro pins s σ H x y v u Q I rx ry h
  obtain ⟨β, S, d1, d2, b, r, h1, h2, e, q⟩ := h
  obtain ⟨c, e', rfl⟩ := Option.map_eq_some_iff.mp e
  rcases isS_run h1 h2 e' with ⟨rfl, rfl⟩ | ⟨p, q', rfl, rfl, rfl⟩
  · exact op_notN pins s σ H _ _ v u Q I rx ry ⟨rfl, q⟩
  · exact op_notBl pins s σ H _ _ v u Q I rx ry ⟨_, _, rfl, rfl, q⟩
def copOf : Cop → CmpOp
  | .eq => .Eq | .ne => .NotEq | .lt => .Lt | .le => .LtE | .gt => .Gt | .ge => .GtE | .isin => .In | .notin => .NotIn | .is => .Is | .isnot => .IsNot
theorem op_cmpE (hr : RU X.A) (op : Cop) : OpR X (compareOp (copOf op)) (rC X.K fun S => cmpO S op) := by
  cases op with
  | eq => exact op_eqE hr
  | ne => exact op_neE hr
  | lt => exact op_ltE
  | le => exact op_leE
  | gt => exact op_gtE
  | ge => exact op_geE
  | isin => exact op_inE hr
  | notin => exact op_notInE hr
  | is => exact op_isE
  | isnot => exact op_isnotE
def bopOf : Bop → Operator
  | .add => .Add | .sub => .Sub | .mul => .Mult | .mod => .Mod | .fdiv => .FloorDiv
theorem op_binE {E : XW} (op : Bop) : OpR X (binaryOp (bopOf op)) (rD2 X.K E (binD op)) := by
  cases op with
  | add => exact op_addE
  | sub => exact op_subE
  | mul => exact op_mulE
  | mod => exact op_modE
  | fdiv => exact op_fdivE

/-! ### truth -/
theorem truth_run {K : PySem.W.Frag} {β : List Addr} {S : Store} {H : Hp} {d : D} {x : V} {b : Bool} (r : RS K β S H) (h : RV K β H d x) (e : truth S d = some b) : TruV K x H b := by
  cases d with
  | non => rw [RV] at h; subst h; cases e; exact rfl
  | bl _ => rw [RV] at h; subst h; cases e; exact rfl
  | int _ => rw [RV] at h; subst h; cases e; exact rfl
  | str s =>
    rw [RV] at h; subst h
    simp only [truth] at e
    split at e
    · rename_i hz
      cases e
      refine ⟨by rw [sA_len]; exact szOk_le hz, ?_⟩
      rw [sA_len]
      cases s <;> rfl
    · cases e
  | tup xs =>
    rw [RV] at h
    obtain ⟨a, vs, rfl, q, z⟩ := h
    cases e
    refine .inr (.inl ⟨vs, q, ?_⟩)
    have l := z.length
    cases vs <;> cases xs <;> first | rfl | (simp at l)
  | lit xs =>
    rw [RV] at h
    obtain ⟨a, vs, rfl, q, z⟩ := h
    cases e
    refine .inl ⟨vs, q.sq, ?_⟩
    have l := z.length
    cases vs <;> cases xs <;> first | rfl | (simp at l)
  | loc n =>
    rw [RV] at h
    obtain ⟨a, rfl, ha⟩ := h
    have key : ∀ xs, S[n]? = some (.lst xs) ∨ S[n]? = some (.frz xs) → b = !xs.isEmpty → TruV K (.ref a) H b := fun xs e hb => by
      obtain ⟨a', vs, ha', p, e', z⟩ := r.lstf e
      rw [ha] at ha'; cases ha'
      refine .inl ⟨vs, .of e', ?_⟩
      have l := z.length
      rw [hb]
      cases vs <;> cases xs <;> first | rfl | (simp at l)
    simp only [truth] at e
    split at e
    · rename_i xs e'
      cases e
      exact key xs (.inl e') rfl
    · rename_i xs e'
      cases e
      exact key xs (.inr e') rfl
    · cases e
end
end Ev
set_option Elab.async false
set_option linter.all false
set_option maxRecDepth 100000
/-! Eng4: subscripts, slices, sorting. -/
namespace Ev
open PySem L2
open PyProof.Rows (itemOrd)

theorem atZ_eq {α : Type} (xs : List α) (i : Int) : atZ xs i = atI xs i := by
  unfold atZ atI ixN
  split
  · split
    · rfl
    · rfl
  · split
    · rfl
    · rfl
theorem RVs.atI {K : PySem.W.Frag} {β : List Addr} {H : Hp} {ds : List D} {vs : List V} (h : RVs K β H ds vs) {i : Int} {d : D} (e : atZ ds i = some d) : ∃ v, L2.atI vs i = some v ∧ RV K β H d v := by
  rw [atZ_eq] at e
  unfold L2.atI at e ⊢
  rw [h.length]
  cases q : ixN ds.length i with
  | none => rw [q] at e; cases e
  | some j =>
    rw [q] at e
    exact h.get e
/-- a text-keyed dict -/
theorem RKs.find {K : PySem.W.Frag} {β : List Addr} {H : Hp} {s : List Nat} : ∀ {kvs : List (D × D)} {gs : List (Key × V)}, RKs K β H kvs gs → ∀ {d : D}, (kvs.find? fun kv => eqD kv.1 (.str s)).map (·.2) = some d →
    ∃ v, valV gs (.inr (sA s)) = some v ∧ RV K β H d v
  | [], gs, h, d, e => by simp at e
  | (k, x) :: r, gs, h, d, e => by
    rw [RKs] at h
    obtain ⟨t, v, g, rfl, rfl, h1, h2⟩ := h
    by_cases q : t = s
    · subst q
      have : eqD (.str t) (.str t) = true := by rw [eqD]; simp
      rw [List.find?_cons_of_pos (by exact this)] at e
      cases e
      exact ⟨v, valV_pos rfl, h1⟩
    · have : eqD (.str t) (.str s) = false := by rw [eqD]; exact beq_eq_false_iff_ne.mpr q
      rw [List.find?_cons_of_neg (by rw [this]; exact Bool.false_ne_true)] at e
      have ne : ¬ (Sum.inr (sA t) : Key) = Sum.inr (sA s) := fun z => q (by
        have := congrArg TL.tl (Sum.inr.inj z)
        simpa [TL.tl] using this)
      rw [valV_neg ne]
      exact RKs.find h2 e
theorem RKs.findN {K : PySem.W.Frag} {β : List Addr} {H : Hp} {s : List Nat} : ∀ {kvs : List (D × D)} {gs : List (Key × V)}, RKs K β H kvs gs → (kvs.find? fun kv => eqD kv.1 (.str s)).map (·.2) = none → valV gs (.inr (sA s)) = none
  | [], gs, h, e => by rw [RKs] at h; subst h; exact valV_nil
  | (k, x) :: r, gs, h, e => by
    rw [RKs] at h
    obtain ⟨t, v, g, rfl, rfl, h1, h2⟩ := h
    by_cases q : t = s
    · subst q
      have : eqD (.str t) (.str t) = true := by rw [eqD]; simp
      rw [List.find?_cons_of_pos (by exact this)] at e
      cases e
    · have : eqD (.str t) (.str s) = false := by rw [eqD]; exact beq_eq_false_iff_ne.mpr q
      rw [List.find?_cons_of_neg (by rw [this]; exact Bool.false_ne_true)] at e
      have ne : ¬ (Sum.inr (sA t) : Key) = Sum.inr (sA s) := fun z => q (by
        have := congrArg TL.tl (Sum.inr.inj z)
        simpa [TL.tl] using this)
      rw [valV_neg ne]
      exact RKs.findN h2 e

section
variable {X : Cx} {E : XW}
theorem ix_dict (hr : RU X.A) : IxR X (fun x y H Q => ∃ a v, x = .ref a ∧ DGet H a y (some v) ∧ Q v H) := by
  intro value slice pins s σ H x y v u Q I rx ry h hs
  obtain ⟨a, z, rfl, g, q⟩ := h
  obtain rfl : v = Value.ref a := rx
  have hT := dict_typeIs I g
  have h₂ : wpAny (model X.prog X.w) X.A (getItem (.ref a) u) (EP X pins σ Q) X.xe s := d_getItem (hu_ofU hr) I g ry fun w' s3 I3 rw' => ⟨z, H, I3, rw', q⟩
  unfold PyProof.Rows.subscriptTail
  refine wpAny_bind ?_
  rw [getitemInPython_of_ne hT.not_modules]
  refine wpAny_bind (wpAny_specialOf hT PySem.F.slot_dict_getitem.lookup ?_)
  have fin : wpAny (model X.prog X.w) X.A (subscripted slice false (.ref a) u) (fun r s₃ => wpAny (model X.prog X.w) X.A (letTemporaryGo value (.ref a) r >>= fun _ => pure r) (EP X pins σ Q) X.xe s₃) X.xe s := by
    rw [hs]
    exact wpAny_operating (wpAny_mono h₂ (fun r s₃ h₃ => wpAny_bind (wpAny_letTemporaryGo (wpAny_pure h₃))) fun _ _ x => x)
  first
    | exact wpAny_pure (wpAny_bind fin)
    | exact wpAny_bind (wpAny_pure (wpAny_bind fin))
    | exact wpAny_bind fin
theorem ix_E (hr : RU X.A) : IxR X (rD2 X.K E idxD) := by
  intro value slice pins s σ H x y v u Q I rx ry h hs
  obtain ⟨σ', β, S, d1, d2, r, h1, h2, q⟩ := h
  have seq : ∀ {ds : List D} {vs : List V} {a : Addr} {i : Int}, x = .ref a → y = .int i → (SqL X.K H a vs ∨ SqT X.K H a vs) → RVs X.K β H ds vs → PV X.K E σ' β S H (retO (atZ ds i) S) Q →
      wpAny (model X.prog X.w) X.A (PyProof.Rows.subscriptTail value slice v u) (EP X pins σ Q) X.xe s := by
    intro ds vs a i e1 e2 sq z q
    cases e : atZ ds i with
    | none => rw [e] at q; exact q.elim
    | some d =>
      rw [e] at q
      obtain ⟨w, g, rw'⟩ := z.atI e
      rcases sq with sq | sq
      · exact ix_list value slice pins s σ H x y v u Q I rx ry ⟨a, vs, i, w, e1, e2, sq, g, q.now r rw'⟩ hs
      · exact ix_tup value slice pins s σ H x y v u Q I rx ry ⟨a, vs, i, w, e1, e2, sq, g, q.now r rw'⟩ hs
  unfold idxD at q
  split at q
  · rename_i i
    rw [RV] at h2
    split at q
    · rw [RV] at h1
      obtain ⟨a, vs, e, sq, z⟩ := h1
      exact seq e h2 (.inr sq) z q
    · rename_i t
      rw [RV] at h1
      split at q
      · rename_i hz
        cases e : atZ t i with
        | none => rw [e] at q; exact q.elim
        | some c =>
          rw [e] at q
          refine ix_str value slice pins s σ H x y v u Q I rx ry ⟨sA t, i, c, h1, h2, by rw [sA_len]; exact szOk_le hz, ?_, q.now r (by rw [RV])⟩ hs
          rw [atZ_eq] at e
          exact e
      · exact q.elim
    · rw [RV] at h1
      obtain ⟨a, vs, e, sq, z⟩ := h1
      exact seq e h2 (.inl sq.sq) z q
    · rename_i n
      rw [RV] at h1
      obtain ⟨a, e, ha⟩ := h1
      split at q
      · rename_i xs g
        obtain ⟨a', vs, ha', _, e', z⟩ := r.lst g
        rw [ha] at ha'; cases ha'
        exact seq e h2 (.inl (.of e')) z q
      · rename_i xs g
        obtain ⟨a', vs, ha', _, e', z⟩ := r.frz g
        rw [ha] at ha'; cases ha'
        exact seq e h2 (.inl (.of e')) z q
      · exact q.elim
    · exact q.elim
  · rename_i i
    rw [RV] at h2
    split at q
    · rename_i n
      rw [RV] at h1
      obtain ⟨a, e, ha⟩ := h1
      have dct : ∀ kvs, RO X.K β H (.dic kvs) a → PV X.K E σ' β S H (retO ((kvs.find? fun kv => eqD kv.1 (.str i)).map (·.2)) S) Q →
          wpAny (model X.prog X.w) X.A (PyProof.Rows.subscriptTail value slice v u) (EP X pins σ Q) X.xe s := by
        intro kvs ro q
        obtain ⟨gs, e', z⟩ := ro
        cases g : (kvs.find? fun kv => eqD kv.1 (.str i)).map (·.2) with
        | none => rw [g] at q; exact q.elim
        | some d =>
          rw [g] at q
          obtain ⟨w, g', rw'⟩ := z.find g
          refine ix_dict hr value slice pins s σ H x y v u Q I rx ry ⟨a, w, e, ?_, q.now r rw'⟩ hs
          rw [← g', h2]
          exact DGet.k (k := .inr (sA i)) e'
      split at q
      · rename_i kvs g
        obtain ⟨a', ha', ro⟩ := r.at g
        rw [ha] at ha'; cases ha'
        exact dct kvs ro q
      · rename_i kvs g
        obtain ⟨a', ha', ro⟩ := r.at g
        rw [ha] at ha'; cases ha'
        exact dct kvs ro q
      · exact q.elim
    · exact q.elim
  · exact q.elim

/-! ### slices -/
theorem cutIx_eq (n d : Nat) (o : Option Int) : cutIx n d o = HT.sIx n d o := by
  unfold cutIx HT.sIx
  rfl
theorem cutL_V (vs : List V) (lo hi : Option Int) : cutL vs lo hi = cutV vs lo hi := rfl
theorem RVs.cut {K : PySem.W.Frag} {β : List Addr} {H : Hp} {ds : List D} {vs : List V} (h : RVs K β H ds vs) (lo hi : Option Int) : RVs K β H (cutL ds lo hi) (cutV vs lo hi) := by
  unfold cutL cutV
  rw [h.length]
  exact RVs.take _ (RVs.drop _ h)
def rSlE (K : PySem.W.Frag) (E : XW) : V → Option Int → Option Int → Hp → VK → Prop := fun x l h H Q => ∃ σ β S d, RS K β S H ∧ RV K β H d x ∧ PV K E σ β S H (slcD d l h S) Q
theorem sl_E : SlR X (rSlE X.K E) := by
  intro pins s σ H x v vl vu lo hi sl Q I rx hs pl pu h
  obtain ⟨σ', β, S, d, r, hv, q⟩ := h
  unfold slcD at q
  split at q
  · rename_i ds
    rw [RV] at hv
    obtain ⟨a, vs, e, sq, z⟩ := hv
    refine sl_tupA pins s σ H x v vl vu lo hi sl Q I rx hs pl pu ⟨a, vs, e, sq, fun hw => ?_, fun hw p hp => q.newTup r (z.cut lo hi) hp⟩
    refine q.now r ?_
    rw [RV]
    have : cutL ds lo hi = ds := by
      unfold cutL
      rw [cutIx_eq, cutIx_eq, ← z.length, hw.1, hw.2, z.length]
      simp
    rw [this]
    exact ⟨a, vs, rfl, sq, z⟩
  · rename_i t
    rw [RV] at hv
    split at q
    · rename_i hz
      refine sl_str pins s σ H x v vl vu lo hi sl Q I rx hs pl pu ⟨sA t, hv, by rw [sA_len]; exact szOk_le hz, q.now r ?_⟩
      rw [RV]
      unfold cutS cutL
      rw [sA_len]
      rfl
    · exact q.elim
  · split at q
    · rename_i xs e
      obtain ⟨a, vs, rfl, sq, z⟩ := r.list hv e
      exact sl_list pins s σ H _ v vl vu lo hi sl Q I rx hs pl pu ⟨a, vs, rfl, sq, fun p hp => q.newList r (z.cut lo hi) hp⟩
    · exact q.elim
end

/-! ### sorting -/
section
variable {α : Type} {le : α → α → Bool}
theorem insP (le : D → D → Bool) (t : PySem.W.TotalLe le) (x : D) : ∀ ys : List D, ys.Pairwise (fun a b => le a b = true) → (insD le x ys).Pairwise (fun a b => le a b = true) ∧ ∀ z, z ∈ insD le x ys → z = x ∨ z ∈ ys
  | [], _ => ⟨by rw [insD]; exact List.pairwise_singleton _ _, fun z hz => by rw [insD] at hz; exact .inl (List.mem_singleton.mp hz)⟩
  | y :: ys, h => by
    rw [insD]
    obtain ⟨h1, h2⟩ := List.pairwise_cons.mp h
    split
    · rename_i q
      refine ⟨List.pairwise_cons.mpr ⟨fun z hz => ?_, h⟩, fun z hz => List.mem_cons.mp hz⟩
      rcases List.mem_cons.mp hz with rfl | hz
      · exact q
      · exact t.trans _ _ _ q (h1 z hz)
    · rename_i q
      obtain ⟨p1, p2⟩ := insP le t x ys h2
      have yx : le y x = true := (t.total x y).resolve_left (fun z => q z)
      refine ⟨List.pairwise_cons.mpr ⟨fun z hz => ?_, p1⟩, fun z hz => ?_⟩
      · rcases p2 z hz with rfl | hz
        · exact yx
        · exact h1 z hz
      · rcases List.mem_cons.mp hz with rfl | hz
        · exact .inr (List.mem_cons_self)
        · rcases p2 z hz with hz | hz
          · exact .inl hz
          · exact .inr (List.mem_cons_of_mem _ hz)
theorem insF (le : D → D → Bool) (t : PySem.W.TotalLe le) (x c : D) : ∀ ys : List D, ys.Pairwise (fun a b => le a b = true) → (insD le x ys).filter (PySem.W.sameRank le c) = (x :: ys).filter (PySem.W.sameRank le c)
  | [], _ => rfl
  | y :: ys, h => by
    rw [insD]
    obtain ⟨h1, h2⟩ := List.pairwise_cons.mp h
    split
    · rfl
    · rename_i q
      have ih := insF le t x c ys h2
      rw [List.filter_cons, ih]
      by_cases hx : PySem.W.sameRank le c x = true
      · have hy : PySem.W.sameRank le c y = false := by
          cases hy : PySem.W.sameRank le c y with
          | false => rfl
          | true =>
            unfold PySem.W.sameRank at hx hy
            rw [Bool.and_eq_true] at hx hy
            exact absurd (t.trans _ _ _ hx.2 hy.1) q
        rw [hy, List.filter_cons, List.filter_cons, List.filter_cons, hx, hy]
        rfl
      · have hx' : PySem.W.sameRank le c x = false := by simpa using hx
        simp only [List.filter_cons, hx']
        rfl
theorem isort_eq (le : D → D → Bool) (t : PySem.W.TotalLe le) (l : List D) : isort le l = l.mergeSort le := by
  have key : ∀ l : List D, (isort le l).Pairwise (fun a b => le a b = true) ∧ ∀ c, (isort le l).filter (PySem.W.sameRank le c) = l.filter (PySem.W.sameRank le c) := by
    intro l
    induction l with
    | nil => exact ⟨.nil, fun _ => rfl⟩
    | cons x xs ih =>
      rw [isort]
      refine ⟨(insP le t x _ ih.1).1, fun c => ?_⟩
      rw [insF le t x c _ ih.1, List.filter_cons, List.filter_cons, ih.2 c]
  exact PySem.W.sort_unique t (key l).1 (key l).2
end
mutual
theorem alike_py : ∀ a b : D, alikeD a b = true → PySem.W.alike (toPy a) (toPy b) = true
  | .non, b, h => by cases b <;> first | rfl | (exact nomatch h)
  | .bl _, b, h => by cases b <;> first | rfl | (exact nomatch h)
  | .int _, b, h => by cases b <;> first | rfl | (exact nomatch h)
  | .str _, b, h => by cases b <;> first | rfl | (exact nomatch h)
  | .tup xs, b, h => by
    cases b with
    | tup ys => rw [alikeD] at h; rw [toPy, toPy, PySem.W.alike]; exact alikes_py xs ys h
    | _ => exact nomatch h
  | .lit xs, b, h => by cases b <;> exact nomatch h
  | .loc xs, b, h => by cases b <;> exact nomatch h
theorem alikes_py : ∀ a b : List D, alikeDs a b = true → PySem.W.alikeAll (toPys a) (toPys b) = true
  | [], _, _ => by rw [toPys, PySem.W.alikeAll]
  | _ :: _, [], _ => by rw [toPys, toPys, PySem.W.alikeAll]
  | x :: xs, y :: ys, h => by
    rw [alikeDs, Bool.and_eq_true] at h
    rw [toPys, toPys, PySem.W.alikeAll, alike_py x y h.1, alikes_py xs ys h.2]
    rfl
end
mutual
theorem lt_py : ∀ a b : D, a.pure = true → b.pure = true → alikeD a b = true → ltD a b = PySem.W.dataLt (toPy a) (toPy b)
  | .non, b, _, _, h => by cases b <;> first | rfl | (exact nomatch h)
  | .bl x, b, _, _, h => by
    cases b with
    | bl y => rw [toPy, toPy, PySem.W.dataLt_bool]; cases x <;> cases y <;> rfl
    | _ => exact nomatch h
  | .int _, b, _, _, h => by
    cases b with
    | int y => rw [toPy, toPy, PySem.W.dataLt_int, ltD]
    | _ => exact nomatch h
  | .str _, b, _, _, h => by
    cases b with
    | str y => rw [toPy, toPy, PySem.W.dataLt_str, ltD, ltN_eq]
    | _ => exact nomatch h
  | .tup xs, b, pa, pb, h => by
    cases b with
    | tup ys =>
      rw [alikeD] at h
      rw [D.pure] at pa pb
      rw [toPy, toPy, PySem.W.dataLt_tuple, ltD]; exact lts_py xs ys pa pb h
    | _ => exact nomatch h
  | .lit xs, b, _, _, h => by cases b <;> exact nomatch h
  | .loc xs, b, _, _, h => by cases b <;> exact nomatch h
theorem lts_py : ∀ a b : List D, D.pureAll a = true → D.pureAll b = true → alikeDs a b = true → ltDs a b = PyProof.Rows.lexLt itemOrd (PySem.W.keyToksAll (toPys a)) (PySem.W.keyToksAll (toPys b))
  | [], [], _, _, _ => rfl
  | [], y :: ys, _, _, _ => by
    rw [ltDs, toPys, toPys, PySem.W.keyToksAll, PySem.W.toks_all_cons]
    rw [PySem.W.lex_atom (by intro z; cases z), PySem.W.lex_one]
    rfl
  | x :: xs, [], _, _, _ => by
    rw [ltDs, toPys, toPys, PySem.W.keyToksAll, PySem.W.keyToksAll]
    rw [PySem.W.lex_atom (by intro z; cases z), PySem.W.lex_one]
    rfl
  | x :: xs, y :: ys, pa, pb, h => by
    rw [alikeDs, Bool.and_eq_true] at h
    rw [D.pureAll, Bool.and_eq_true] at pa pb
    rw [ltDs, toPys, toPys, PySem.W.dataLt_cons (alike_py x y h.1), eqD_py x y pa.1 pb.1, lts_py xs ys pa.2 pb.2 h.2, lt_py x y pa.1 pb.1 h.1]
end
end Ev
set_option Elab.async false
set_option linter.all false
set_option maxRecDepth 100000
/-! Eng5: built-in functions. -/
namespace Ev
open PySem L2

theorem all_mem {xs : List D} {p : D → Bool} (h : xs.all p = true) {x : D} (hx : x ∈ xs) : p x = true := List.all_eq_true.mp h x hx
theorem pureAll_mem : ∀ {xs : List D}, D.pureAll xs = true → ∀ {x : D}, x ∈ xs → x.pure = true
  | y :: ys, h, x, hx => by
    rw [D.pureAll, Bool.and_eq_true] at h
    rcases List.mem_cons.mp hx with rfl | hx
    · exact h.1
    · exact pureAll_mem h.2 hx
theorem pureAll_of : ∀ {xs : List D}, (∀ x ∈ xs, x.pure = true) → D.pureAll xs = true
  | [], _ => rfl
  | y :: ys, h => by
    rw [D.pureAll, h y List.mem_cons_self, pureAll_of fun x hx => h x (List.mem_cons_of_mem _ hx)]
    rfl
def pyLe : D → D → Bool := PySem.W.dataLe false toPy
theorem pyLe_total : PySem.W.TotalLe pyLe := by
  unfold pyLe PySem.W.dataLe
  exact PySem.W.sortLe_total _ _ _
theorem isort_congr {le le' : D → D → Bool} : ∀ {xs : List D}, (∀ a ∈ xs, ∀ b ∈ xs, le a b = le' a b) → isort le xs = isort le' xs ∧ ∀ z, z ∈ isort le xs → z ∈ xs
  | [], _ => ⟨rfl, fun _ h => h⟩
  | x :: xs, h => by
    obtain ⟨e, m⟩ := isort_congr (xs := xs) fun a ha b hb => h a (List.mem_cons_of_mem _ ha) b (List.mem_cons_of_mem _ hb)
    rw [isort, isort, ← e]
    have key : ∀ ys : List D, (∀ z ∈ ys, z ∈ xs) → insD le x ys = insD le' x ys ∧ ∀ z, z ∈ insD le x ys → z = x ∨ z ∈ ys := by
      intro ys
      induction ys with
      | nil => intro _; exact ⟨rfl, fun z hz => by rw [insD] at hz; exact .inl (List.mem_singleton.mp hz)⟩
      | cons y ys ih =>
        intro hy
        obtain ⟨i1, i2⟩ := ih fun z hz => hy z (List.mem_cons_of_mem _ hz)
        rw [insD, insD, ← h x List.mem_cons_self y (List.mem_cons_of_mem _ (hy y List.mem_cons_self)), ← i1]
        refine ⟨rfl, fun z hz => ?_⟩
        split at hz
        · exact List.mem_cons.mp hz
        · rcases List.mem_cons.mp hz with rfl | hz
          · exact .inr List.mem_cons_self
          · rcases i2 z hz with hz | hz
            · exact .inl hz
            · exact .inr (List.mem_cons_of_mem _ hz)
    obtain ⟨k1, k2⟩ := key _ m
    refine ⟨k1, fun z hz => ?_⟩
    rcases k2 z hz with hz | hz
    · rw [hz]; exact List.mem_cons_self
    · exact List.mem_cons_of_mem _ (m z hz)
theorem sortO_py {xs ys : List D} (p : D.pureAll xs = true) (h : sortO xs = some ys) :
    ys = xs.mergeSort pyLe ∧ PySem.W.AllAlike (xs.map toPy) ∧ PySem.W.Sortable (xs.map toPy) ∧ ∀ x ∈ xs, (toPy x).depth ≤ 60 := by
  unfold sortO at h
  split at h
  · rename_i hc
    rw [Bool.and_eq_true, Bool.and_eq_true] at hc
    obtain ⟨⟨c1, c2⟩, c3⟩ := hc
    have al : ∀ a ∈ xs, ∀ b ∈ xs, alikeD a b = true := fun a ha b hb => all_mem (all_mem c1 ha) hb
    refine ⟨?_, fun d hd d' hd' => ?_, ?_, fun x hx => ?_⟩
    · rw [← Option.some.inj h]
      rw [(isort_congr (le := leD) (le' := pyLe) fun a ha b hb => ?_).1, isort_eq _ pyLe_total]
      show (!ltD b a) = !PySem.W.dataLt (toPy b) (toPy a)
      rw [lt_py b a (pureAll_mem p hb) (pureAll_mem p ha) (al b hb a ha)]
    · obtain ⟨a, ha, rfl⟩ := List.mem_map.mp hd
      obtain ⟨b, hb, rfl⟩ := List.mem_map.mp hd'
      exact alike_py a b (al a ha b hb)
    · cases xs with
      | nil => exact .inl fun d hd => nomatch hd
      | cons x0 r0 =>
        have h0 : ∀ a ∈ x0 :: r0, alikeD x0 a = true := fun a ha => al x0 List.mem_cons_self a ha
        have hne : ∀ a ∈ x0 :: r0, nonempT a = true := fun a ha => all_mem c2 ha
        cases x0 with
        | tup t0 =>
          refine .inl fun d hd => ?_
          obtain ⟨a, ha, rfl⟩ := List.mem_map.mp hd
          have q := h0 a ha
          have q2 := hne a ha
          cases a with
          | tup t =>
            cases t with
            | nil => exact nomatch q2
            | cons z zs => exact ⟨_, _, by rw [toPy, toPys]⟩
          | _ => exact nomatch q
        | non => exact nomatch hne _ List.mem_cons_self
        | bl _ =>
          refine .inr fun d hd => ?_
          obtain ⟨a, ha, rfl⟩ := List.mem_map.mp hd
          have q := h0 a ha
          cases a with
          | bl _ => exact ⟨by rw [toPy]; exact (fun z => nomatch z), fun xs => by rw [toPy]; exact (fun z => nomatch z)⟩
          | _ => exact nomatch q
        | int _ =>
          refine .inr fun d hd => ?_
          obtain ⟨a, ha, rfl⟩ := List.mem_map.mp hd
          have q := h0 a ha
          cases a with
          | int _ => exact ⟨by rw [toPy]; exact (fun z => nomatch z), fun xs => by rw [toPy]; exact (fun z => nomatch z)⟩
          | _ => exact nomatch q
        | str _ =>
          refine .inr fun d hd => ?_
          obtain ⟨a, ha, rfl⟩ := List.mem_map.mp hd
          have q := h0 a ha
          cases a with
          | str _ => exact ⟨by rw [toPy]; exact (fun z => nomatch z), fun xs => by rw [toPy]; exact (fun z => nomatch z)⟩
          | _ => exact nomatch q
        | lit _ => exact nomatch h0 _ List.mem_cons_self
        | loc _ => exact nomatch h0 _ List.mem_cons_self
    · rw [depth_toPy]; exact of_decide_eq_true (all_mem c3 hx)
  · cases h

section
variable {K : PySem.W.Frag} {β : List Addr} {H : Hp}
/-- values and data together -/
theorem each_of : ∀ {ds : List D} {xs : List V} {us : List Value}, RVs K β H ds xs → Vals xs us → PySem.W.EachIs (fun u d => ∃ x, RelV x u ∧ RV K β H d x) us ds
  | [], xs, us, h, r => by
    rw [RVs] at h; subst h
    cases r
    exact .nil
  | d :: ds, xs, us, h, r => by
    rw [RVs] at h
    obtain ⟨x, t, rfl, h1, h2⟩ := h
    cases r with
    | cons r1 r2 => exact .cons ⟨x, r1, h1⟩ (each_of h2 r2)
theorem of_each : ∀ {us : List Value} {ds : List D}, PySem.W.EachIs (fun u d => ∃ x, RelV x u ∧ RV K β H d x) us ds → ∃ xs, Vals xs us ∧ RVs K β H ds xs
  | _, _, .nil => ⟨[], .nil, RVs.nil⟩
  | _, _, .cons ⟨x, h1, h2⟩ t => by
    obtain ⟨xs, r1, r2⟩ := of_each t
    exact ⟨x :: xs, .cons h1 r1, RVs.cons h2 r2⟩
end
section
variable {X : Cx} {E : XW}
/-- sorted(xs) of a list -/
theorem sorted_run (hr : RU X.A) {pins : List (Addr × Obj)} {s : Shared} {σ σ' : L2.St} {H : Hp} {β : List Addr} {S : Store} {ds ys : List D} {a : Addr} {vs : List V} {Q : VK} (I : Inv X pins σ H s)
    (r : RS X.K β S H) (p : D.pureAll ds = true) (sq : SqL X.K H a vs) (z : RVs X.K β H ds vs) (e : sortO ds = some ys) (q : PV X.K E σ' β S H (newL ys S) Q) :
    wpAny (model X.prog X.w) X.A (call (.builtin "sorted") [.ref a]) (EP X pins σ Q) X.xe s := by
  obtain ⟨ey, al, so, dp⟩ := sortO_py p e
  obtain ⟨its, rv, pl, hz⟩ := I.list sq
  have er : PySem.W.EachIs (fun v b => ∃ as, Reads s.heap v (toPy b) as) its ds := by
    have : ∀ {ds : List D} {vs : List V} {its : List Value}, D.pureAll ds = true → RVs X.K β H ds vs → Vals vs its → PySem.W.EachIs (fun v b => ∃ as, Reads s.heap v (toPy b) as) its ds := by
      intro ds
      induction ds with
      | nil =>
        intro vs its _ h r
        rw [RVs] at h; subst h
        cases r
        exact .nil
      | cons d ds ih =>
        intro vs its p h r
        rw [RVs] at h
        rw [D.pureAll, Bool.and_eq_true] at p
        obtain ⟨x, t, rfl, h1, h2⟩ := h
        cases r with
        | cons r1 r2 => exact .cons (Dp.reads I _ x _ (RV.dp d x p.1 h1) r1) (ih p.2 h2 r2)
    exact this p z rv
  have hl : s.heap.IsList a its.toArray := by
    obtain ⟨o, n, e1, e2, _, e3⟩ := pl
    exact ⟨o, e1, e2, n, e3⟩
  have hu := hr.units
  refine PySem.W.sorted_data (bs := ds) (enc := toPy) hl (each_of z rv) er al so (by rw [← z.length]; exact hz) (fun b hb => by have := dp b hb; omega) fun out ho eo => ?_
  obtain ⟨xs, rx, zx⟩ := of_each eo
  have ey' : ys = ds.mergeSort (PySem.W.dataLe false toPy) := ey
  rw [← ey'] at zx
  obtain ⟨c, hc⟩ := PyProof.Rows.sortedAll_at s.heap its out.toArray
  have np : H (s.heap.objs.size + 1) = none := I.hok.fresh (Nat.le_succ _)
  have I2 : Inv X pins σ (upd H (s.heap.objs.size + 1) (.lst xs)) { s with heap := PyProof.Rows.sortedAll s.heap its out.toArray, toks := s.toks } := by
    refine I.laid (fun b u hb => PyProof.Rows.sortedAll_old hb) (Nat.le_succ _) ⟨?_, out, c, rx, hc⟩
    rw [zx.length]
    exact (newL_len q).2
  exact ⟨.ref (s.heap.objs.size + 1), _, I2, rfl, q.newList r zx np⟩
end
end Ev
set_option Elab.async false
set_option linter.all false
set_option maxRecDepth 100000
/-! Eng6: built-in functions and methods, by values. -/
namespace Ev
open PySem L2

theorem blsOf_map : ∀ {xs : List D} {bs : List Bool}, blsOf xs = some bs → xs = bs.map .bl
  | [], bs, h => by cases h; rfl
  | .bl b :: r, bs, h => by
    rw [blsOf] at h
    obtain ⟨c, e, rfl⟩ := Option.map_eq_some_iff.mp h
    rw [blsOf_map e]; rfl
  | .non :: _, bs, h => nomatch h
  | .int _ :: _, bs, h => nomatch h
  | .str _ :: _, bs, h => nomatch h
  | .tup _ :: _, bs, h => nomatch h
  | .lit _ :: _, bs, h => nomatch h
  | .loc _ :: _, bs, h => nomatch h
theorem strsOf_map : ∀ {xs : List D} {bs : List (List Nat)}, strsOf xs = some bs → xs = bs.map .str
  | [], bs, h => by cases h; rfl
  | .str b :: r, bs, h => by
    rw [strsOf] at h
    obtain ⟨c, e, rfl⟩ := Option.map_eq_some_iff.mp h
    rw [strsOf_map e]; rfl
  | .non :: _, bs, h => nomatch h
  | .int _ :: _, bs, h => nomatch h
  | .bl _ :: _, bs, h => nomatch h
  | .tup _ :: _, bs, h => nomatch h
  | .lit _ :: _, bs, h => nomatch h
  | .loc _ :: _, bs, h => nomatch h
section
variable {K : PySem.W.Frag} {β : List Addr} {S : Store} {H : Hp}
theorem RVs.bls : ∀ {bs : List Bool} {vs : List V}, RVs K β H (bs.map .bl) vs → vs = bs.map V.bl
  | [], vs, h => by rw [List.map_nil, RVs] at h; exact h
  | b :: bs, vs, h => by
    rw [List.map_cons, RVs] at h
    obtain ⟨v, r, rfl, h1, h2⟩ := h
    rw [RV] at h1
    rw [h1, RVs.bls h2]; rfl
theorem RVs.strs : ∀ {bs : List (List Nat)} {vs : List V}, RVs K β H (bs.map .str) vs → vs = (bs.map sA).map V.str
  | [], vs, h => by rw [List.map_nil, RVs] at h; exact h
  | b :: bs, vs, h => by
    rw [List.map_cons, RVs] at h
    obtain ⟨v, r, rfl, h1, h2⟩ := h
    rw [RV] at h1
    rw [h1, RVs.strs h2]; rfl
theorem RVs.ofStrs : ∀ (bs : List (List Nat)), RVs K β H (bs.map .str) ((bs.map sA).map V.str)
  | [] => RVs.nil
  | b :: bs => RVs.cons (by rw [RV]) (RVs.ofStrs bs)
theorem RVs.one_of {d : D} {xs : List V} (h : RVs K β H [d] xs) : ∃ v, xs = [v] ∧ RV K β H d v := by
  rw [RVs] at h
  obtain ⟨v, r, rfl, h1, h2⟩ := h
  rw [RVs] at h2
  subst h2
  exact ⟨v, rfl, h1⟩
theorem RVs.two_of {d e : D} {xs : List V} (h : RVs K β H [d, e] xs) : ∃ v w, xs = [v, w] ∧ RV K β H d v ∧ RV K β H e w := by
  rw [RVs] at h
  obtain ⟨v, r, rfl, h1, h2⟩ := h
  obtain ⟨w, rfl, h3⟩ := RVs.one_of h2
  exact ⟨v, w, rfl, h1, h3⟩
theorem RS.seq (r : RS K β S H) {d : D} {v : V} {xs : List D} (hv : RV K β H d v) (h : seqOf S d = some xs) : ∃ a vs, v = .ref a ∧ (SqL K H a vs ∨ SqT K H a vs) ∧ RVs K β H xs vs := by
  cases d with
  | tup ys =>
    obtain rfl : ys = xs := Option.some.inj h
    rw [RV] at hv
    obtain ⟨a, vs, e, q, z⟩ := hv
    exact ⟨a, vs, e, .inr q, z⟩
  | _ =>
    obtain ⟨a, vs, e, q, z⟩ := r.list hv h
    exact ⟨a, vs, e, .inl q, z⟩
end

def rD1 (K : PySem.W.Frag) (E : XW) (f : D → Store → Out D) : List V → Hp → VK → Prop := fun xs H Q => ∃ σ β S d v, RS K β S H ∧ xs = [v] ∧ RV K β H d v ∧ PV K E σ β S H (f d S) Q
def rD22 (K : PySem.W.Frag) (E : XW) (f : D → D → Store → Out D) : List V → Hp → VK → Prop := fun xs H Q => ∃ σ β S d e v w, RS K β S H ∧ xs = [v, w] ∧ RV K β H d v ∧ RV K β H e w ∧ PV K E σ β S H (f d e S) Q
theorem rDs_one {K : PySem.W.Frag} {E : XW} {f : D → Store → Out D} {xs : List V} {H : Hp} {Q : VK} (h : rDs K E (one f) xs H Q) : rD1 K E f xs H Q := by
  obtain ⟨σ, β, S, ds, r, hv, q⟩ := h
  unfold one at q
  split at q
  · obtain ⟨v, ex, h1⟩ := hv.one_of
    exact ⟨σ, β, S, _, v, r, ex, h1, q⟩
  · exact q.elim
theorem rDs_two {K : PySem.W.Frag} {E : XW} {f : D → D → Store → Out D} {xs : List V} {H : Hp} {Q : VK} (h : rDs K E (two f) xs H Q) : rD22 K E f xs H Q := by
  obtain ⟨σ, β, S, ds, r, hv, q⟩ := h
  unfold two at q
  split at q
  · obtain ⟨v, w, ex, h1, h2⟩ := hv.two_of
    exact ⟨σ, β, S, _, _, v, w, r, ex, h1, h2, q⟩
  · exact q.elim
section
variable {X : Cx} {E : XW}
theorem cr_len : CallR X (.builtin "len") (rDs X.K E (biD .len)) := by
  intro pins s σ H xs us Q I rv h
  obtain ⟨σ', β, S, d, v, r, ex, h1, q⟩ := rDs_one h
  unfold lenD at q
  split at q
  · rename_i t
    rw [RV] at h1
    split at q
    · rename_i hz
      refine call_len_str pins s σ H xs us Q I rv ⟨sA t, by rw [ex, h1], by rw [sA_len]; exact szOk_le hz, q.now r ?_⟩
      rw [RV, sA_len]
    · exact q.elim
  · split at q
    · rename_i ys e
      obtain ⟨a, vs, rfl, sq, z⟩ := r.seq h1 e
      exact call_len_seq pins s σ H xs us Q I rv ⟨a, vs, ex, sq, q.now r (by rw [RV, z.length])⟩
    · exact q.elim
theorem cr_tuple : CallR X (.type "tuple") (rDs X.K E (biD .tuple)) := by
  intro pins s σ H xs us Q I rv h
  obtain ⟨σ', β, S, d, v, r, ex, h1, q⟩ := rDs_one h
  unfold tupleD at q
  split at q
  · rename_i ys
    have h2 := h1
    rw [RV] at h2
    obtain ⟨a, vs, rfl, sq, z⟩ := h2
    exact call_tuple_of pins s σ H xs us Q I rv ⟨a, vs, ex, .inr ⟨sq, q.now r h1⟩⟩
  · split at q
    · rename_i ys e
      obtain ⟨a, vs, rfl, sq, z⟩ := r.list h1 e
      exact call_tuple_of pins s σ H xs us Q I rv ⟨a, vs, ex, .inl ⟨sq, fun p hp => q.newTup r z hp⟩⟩
    · exact q.elim
theorem cr_list : CallR X (.type "list") (rDs X.K E (biD .list)) := by
  intro pins s σ H xs us Q I rv h
  obtain ⟨σ', β, S, d, v, r, ex, h1, q⟩ := rDs_one h
  unfold listD at q
  split at q
  · rename_i ys e
    obtain ⟨a, vs, rfl, sq, z⟩ := r.seq h1 e
    exact call_list_of pins s σ H xs us Q I rv ⟨a, vs, ex, sq, fun p hp => q.newList r z hp⟩
  · exact q.elim
theorem cr_allE (hc : X.calm = true) : CallR X (.builtin "all") (rDs X.K E (biD .all)) := by
  intro pins s σ H xs us Q I rv h
  obtain ⟨σ', β, S, d, v, r, ex, h1, q⟩ := rDs_one h
  unfold allD at q
  split at q
  · rename_i ys e
    split at q
    · rename_i bs eb
      obtain ⟨a, vs, rfl, sq, z⟩ := r.list h1 e
      rw [blsOf_map eb] at z
      rw [z.bls] at sq
      exact cr_all hc pins s σ H xs us Q I rv ⟨a, bs, ex, sq, q.now r (by rw [RV])⟩
    · exact q.elim
  · exact q.elim
theorem cr_min2 (hc : X.calm = true) : CallR X (.builtin "min") (rDs X.K E (biD .min2)) := by
  intro pins s σ H xs us Q I rv h
  obtain ⟨σ', β, S, d, e, v, w, r, ex, h1, h2, q⟩ := rDs_two h
  unfold min2D at q
  split at q
  · rw [RV] at h1 h2
    exact call_min2 hc pins s σ H xs us Q I rv ⟨_, _, by rw [ex, h1, h2], q.now r (by rw [RV])⟩
  · exact q.elim
theorem cr_max2 (hc : X.calm = true) : CallR X (.builtin "max") (rDs X.K E (biD .max2)) := by
  intro pins s σ H xs us Q I rv h
  obtain ⟨σ', β, S, d, e, v, w, r, ex, h1, h2, q⟩ := rDs_two h
  unfold max2D at q
  split at q
  · rw [RV] at h1 h2
    exact call_max2 hc pins s σ H xs us Q I rv ⟨_, _, by rw [ex, h1, h2], q.now r (by rw [RV])⟩
  · exact q.elim
/-! ### sorted -/
theorem ltCps_eq : ∀ a b : List Nat, PySem.Spec.ltCps a b = ltN a b
  | [], [] => rfl
  | [], _ :: _ => rfl
  | _ :: _, [] => rfl
  | x :: xs, y :: ys => by
    rw [PySem.Spec.ltCps, ltN, ltCps_eq xs ys]
    by_cases h : x < y
    · simp [h]
    · by_cases h2 : x = y
      · simp [h2]
      · simp [h, h2]
theorem ltN_trans' {a b c : List Nat} (h1 : ltN b a = false) (h2 : ltN c b = false) : ltN c a = false := by
  rw [ltN_eq] at *
  have h1' : a ≤ b := of_decide_eq_false h1
  have h2' : b ≤ c := of_decide_eq_false h2
  exact decide_eq_false (show a ≤ c from List.le_trans h1' h2')
theorem ltN_anti {a b : List Nat} (h1 : ltN b a = false) (h2 : ltN a b = false) : a = b := by
  rw [ltN_eq] at *
  have h1' : a ≤ b := of_decide_eq_false h1
  have h2' : b ≤ a := of_decide_eq_false h2
  exact List.le_antisymm h1' h2'
theorem risingS_pair : ∀ {p : Str} {l : List Str}, PyProof.Rows.risingS p l = true → (p :: l).Pairwise (fun a b => ltN (TL.tl b) (TL.tl a) = false)
  | p, [], _ => List.pairwise_singleton _ _
  | p, x :: r, h => by
    rw [PyProof.Rows.risingS, Bool.and_eq_true, Bool.not_eq_true', ltCps_eq] at h
    have ih := risingS_pair h.2
    refine List.pairwise_cons.mpr ⟨fun z hz => ?_, ih⟩
    rcases List.mem_cons.mp hz with rfl | hz
    · exact h.1
    · exact ltN_trans' h.1 ((List.pairwise_cons.mp ih).1 z hz)
theorem sortedS_pair {l : List Str} (h : PyProof.Rows.sortedS l = true) : l.Pairwise (fun a b => ltN (TL.tl b) (TL.tl a) = false) := by
  cases l with
  | nil => exact .nil
  | cons x r => exact risingS_pair h
theorem ins_perm (le : D → D → Bool) (x : D) : ∀ ys : List D, (insD le x ys).Perm (x :: ys)
  | [] => .refl _
  | y :: ys => by
    rw [insD]
    split
    · exact .refl _
    · exact ((ins_perm le x ys).cons y).trans (.swap x y ys)
theorem isort_perm (le : D → D → Bool) : ∀ xs : List D, (isort le xs).Perm xs
  | [] => .refl _
  | x :: xs => (ins_perm le x _).trans ((isort_perm le xs).cons x)
theorem isort_str (ks : List (List Nat)) : (isort leD (ks.map .str)).Pairwise (fun a b => leD a b = true) := by
  have c := isort_congr (le := leD) (le' := pyLe) (xs := ks.map .str) fun a ha b hb => by
    obtain ⟨x, _, rfl⟩ := List.mem_map.mp ha
    obtain ⟨y, _, rfl⟩ := List.mem_map.mp hb
    show (!ltD (.str y) (.str x)) = !PySem.W.dataLt (toPy (.str y)) (toPy (.str x))
    rw [lt_py (.str y) (.str x) rfl rfl rfl]
  have p := PySem.W.sort_pairwise pyLe_total (ks.map .str)
  rw [← isort_eq _ pyLe_total, ← c.1] at p
  refine p.imp_of_mem fun {a b} ha hb h => ?_
  obtain ⟨x, _, rfl⟩ := List.mem_map.mp (c.2 a ha)
  obtain ⟨y, _, rfl⟩ := List.mem_map.mp (c.2 b hb)
  show (!ltD (.str y) (.str x)) = true
  rw [lt_py (.str y) (.str x) rfl rfl rfl]
  exact h
theorem sortedS_isort {ks : List (List Nat)} {ys : List Str} (hp : ys.Perm (ks.map sA)) (hs : PyProof.Rows.sortedS ys = true) : ys.map (fun y => D.str (TL.tl y)) = isort leD (ks.map .str) := by
  refine List.Perm.eq_of_pairwise (le := fun a b => leD a b = true) (fun a b ha hb h1 h2 => ?_) ?_ (isort_str ks) ?_
  · obtain ⟨x, _, rfl⟩ := List.mem_map.mp ha
    obtain ⟨y, _, rfl⟩ := List.mem_map.mp ((isort_perm leD _).mem_iff.mp hb)
    have e1 : ltN y (TL.tl x) = false := by simpa [leD, ltD] using h1
    have e2 : ltN (TL.tl x) y = false := by simpa [leD, ltD] using h2
    rw [ltN_anti e1 e2]
  · rw [List.pairwise_map]
    exact (sortedS_pair hs).imp fun h => by simp only [leD, ltD, h]; rfl
  · refine List.Perm.trans (hp.map _) ?_
    rw [List.map_map]
    refine List.Perm.trans ?_ (isort_perm leD _).symm
    have : ((fun y => D.str (TL.tl y)) ∘ sA) = D.str := by
      funext x
      simp [TL.tl]
    rw [this]
theorem RKs.keys {K : PySem.W.Frag} {β : List Addr} {H : Hp} : ∀ {kvs : List (D × D)} {gs : List (Key × V)}, RKs K β H kvs gs → ∃ ks : List (List Nat), kvs.map (·.1) = ks.map .str ∧ gs.map (·.1) = (ks.map sA).map Sum.inr
  | [], gs, h => by rw [RKs] at h; subst h; exact ⟨[], rfl, rfl⟩
  | (k, d) :: r, gs, h => by
    rw [RKs] at h
    obtain ⟨s, v, t, rfl, rfl, _, h2⟩ := h
    obtain ⟨ks, e1, e2⟩ := RKs.keys h2
    exact ⟨s :: ks, by simp [e1], by simp [e2]⟩
theorem RVs.tlStrs {K : PySem.W.Frag} {β : List Addr} {H : Hp} : ∀ (ys : List Str), RVs K β H (ys.map fun y => D.str (TL.tl y)) (ys.map V.str)
  | [] => RVs.nil
  | y :: ys => RVs.cons (by rw [RV]) (RVs.tlStrs ys)
theorem cr_sortedE (hr : RU X.A) (hc : X.calm = true) : CallR X (.builtin "sorted") (rDs X.K E (biD .sorted)) := by
  intro pins s σ H xs us Q I rv h
  obtain ⟨σ', β, S, d, v, r, ex, h1, q⟩ := rDs_one h
  unfold sortedD at q
  split at q
  · rename_i n
    rw [RV] at h1
    obtain ⟨a, rfl, ha⟩ := h1
    have hus : us = [.ref a] := by rw [ex] at rv; exact rv.ref1
    have lst : ∀ ys, S[n]? = some (.lst ys) ∨ S[n]? = some (.frz ys) → PV X.K E σ' β S H (sortedL ys S) Q → wpAny (model X.prog X.w) X.A (call (.builtin "sorted") us) (EP X pins σ Q) X.xe s := by
      intro ys g q
      obtain ⟨a', vs, ha', p, e', z⟩ := r.lstf g
      rw [ha] at ha'; cases ha'
      unfold sortedL at q
      split at q
      · rename_i zs e
        rw [hus]
        exact sorted_run hr I r p (.of e') z e q
      · exact q.elim
    split at q
    · rename_i ys g
      exact lst ys (.inl g) q
    · rename_i ys g
      exact lst ys (.inr g) q
    · rename_i kvs g
      split at q
      · rename_i hc2
        rw [Bool.and_eq_true] at hc2
        obtain ⟨a', ha', gs, e', z⟩ := r.at g
        rw [ha] at ha'; cases ha'
        obtain ⟨ks, k1, k2⟩ := z.keys
        have hl : ks.length = kvs.length := by
          have := congrArg List.length k1
          simpa using this.symm
        refine call_sortedD hc pins s σ H xs us Q I rv ⟨a, gs, ks.map sA, ex, .of e', k2, ?_, fun ys p hp hs np => ?_⟩
        · rw [List.length_map, hl]; exact of_decide_eq_true hc2.2
        · rw [k1, ← sortedS_isort hp hs] at q
          exact q.newList r (RVs.tlStrs ys) np
      · exact q.elim
    · exact q.elim
  · exact q.elim
end
end Ev
set_option Elab.async false
set_option linter.all false
set_option maxRecDepth 100000
/-! Eng7: methods of built-in types, isinstance. -/
namespace Ev
open PySem L2

/-! ### texts -/
theorem splitC_ne (c : Nat) : ∀ l : List Nat, splitC c l ≠ []
  | [] => by rw [splitC]; exact (fun z => nomatch z)
  | x :: r => by
    rw [splitC]
    split
    · exact (fun z => nomatch z)
    · split
      · exact (fun z => nomatch z)
      · exact (fun z => nomatch z)
theorem spl_splitC (c : Nat) : ∀ (l acc : List Nat), TL.spl [c] 0 acc l = match splitC c l with | [] => [acc] | p :: ps => (acc ++ p) :: ps
  | [], acc => by rw [TL.spl, splitC]; simp
  | x :: r, acc => by
    by_cases h : x = c
    · subst h
      have hp : TL.pre [x] (x :: r) = true := by simp [TL.pre]
      rw [TL.spl_hit hp, splitC, if_pos rfl]
      show (acc :: TL.spl [x] 0 [] r) = _
      rw [spl_splitC x r []]
      cases e : splitC x r with
      | nil => exact absurd e (splitC_ne x r)
      | cons p ps => simp
    · have hp : TL.pre [c] (x :: r) = false := by
        simp only [TL.pre, List.length_singleton, List.take_succ_cons, List.take_zero]
        exact beq_eq_false_iff_ne.mpr (fun z => h (List.cons.inj z).1)
      rw [TL.spl_miss hp, splitC, if_neg h, spl_splitC c r (acc ++ [x])]
      cases e : splitC c r with
      | nil => exact absurd e (splitC_ne c r)
      | cons p ps => simp
theorem split_eq (s : List Nat) {c : Nat} (hc : c < 256) : Txt.split (sA s) (sA [c]) = (splitC c s).map sA := by
  refine TL.map_tl_inj ?_
  rw [TL.split_spl _ _ (by simp [TL.tl]) (TL.kind_ok (by simpa using hc))]
  show TL.spl [c] 0 [] s = _
  rw [spl_splitC c s []]
  cases e : splitC c s with
  | nil => exact absurd e (splitC_ne c s)
  | cons p ps =>
    have : TL.tl ∘ sA = id := by funext x; simp [TL.tl]
    rw [List.map_map, this, List.map_id]
    simp
theorem splitC_len (c : Nat) : ∀ l : List Nat, (splitC c l).length ≤ l.length + 1
  | [] => by rw [splitC]; simp
  | x :: r => by
    have ih := splitC_len c r
    rw [splitC]
    split
    · simp; omega
    · split
      · simp
      · rename_i p ps e
        rw [e] at ih
        simp at ih ⊢
        omega
theorem joinL_eq (sep : List Nat) : ∀ ps : List (List Nat), TL.joinL sep ps = joinN sep ps
  | [] => rfl
  | [p] => rfl
  | p :: q :: r => by rw [TL.joinL, joinN, joinL_eq sep (q :: r)]
theorem join_eq' (sep : List Nat) (ss : List (List Nat)) : Txt.join (sA sep) (ss.map sA) = sA (joinN sep ss) := by
  refine TL.ext_tl ?_
  rw [TL.join_eq, TL.tl_join, List.map_map]
  have : TL.tl ∘ sA = id := by funext x; simp [TL.tl]
  rw [this, List.map_id]
  show TL.joinL sep ss = _
  rw [joinL_eq]
theorem subAt_list (x y : Str) (i : Nat) : Builtin.Str.subAt x y i = (((TL.tl x).drop i).take (TL.tl y).length == TL.tl y) := by
  have h := PySem.StrLaws.subAt_eq x y i
  rw [h, TL.len_tl]
theorem starts_eq (s t : List Nat) : Txt.startswith (sA s) (sA t) = t.isPrefixOf s := by
  unfold Txt.startswith
  rw [subAt_list, sA_len, sA_len]
  simp only [TL.tl, List.drop_zero, Nat.zero_add]
  cases h : t.isPrefixOf s with
  | true =>
    obtain ⟨r, rfl⟩ := List.isPrefixOf_iff_prefix.mp h
    simp
  | false =>
    have hn : ¬ t <+: s := fun z => by rw [List.isPrefixOf_iff_prefix.mpr z] at h; cases h
    by_cases hl : t.length ≤ s.length
    · have : (s.take t.length == t) = false := beq_eq_false_iff_ne.mpr fun z => hn ⟨s.drop t.length, by
        conv => lhs; rw [← z]
        rw [z]
        conv => rhs; rw [← List.take_append_drop t.length s]
        rw [z]⟩
      simp [this]
    · simp [hl]
theorem ends_eq (s t : List Nat) : Txt.endswith (sA s) (sA t) = t.isSuffixOf s := by
  unfold Txt.endswith
  rw [subAt_list, sA_len, sA_len]
  simp only [TL.tl, Nat.zero_add]
  cases h : t.isSuffixOf s with
  | true =>
    obtain ⟨r, rfl⟩ := List.isSuffixOf_iff_suffix.mp h
    simp
  | false =>
    have hn : ¬ t <:+ s := fun z => by rw [List.isSuffixOf_iff_suffix.mpr z] at h; cases h
    by_cases hl : t.length ≤ s.length
    · have : ((s.drop (s.length - t.length)).take t.length == t) = false := beq_eq_false_iff_ne.mpr fun z => hn ⟨s.take (s.length - t.length), by
        have e : (s.drop (s.length - t.length)).take t.length = s.drop (s.length - t.length) := List.take_of_length_le (by simp; omega)
        rw [e] at z
        conv => rhs; rw [← List.take_append_drop (s.length - t.length) s]
        rw [z]⟩
      simp [this]
    · simp [hl]

def rM1 (K : PySem.W.Frag) (E : XW) (f : D → D → Store → Out D) : V → List V → Hp → VK → Prop := fun x xs H Q => ∃ σ β S a d v, RS K β S H ∧ xs = [v] ∧ RV K β H a x ∧ RV K β H d v ∧ PV K E σ β S H (f a d S) Q
section
variable {X : Cx} {E : XW}
theorem mt_splitE : MtR X "str.split" (rM1 X.K E splitD) := by
  intro pins s σ H x xs v us Q I rx rv h
  obtain ⟨σ', β, S, a, d, w, r, rfl, h1, h2, q⟩ := h
  unfold splitD at q
  split at q
  · rename_i t c
    split at q
    · rename_i hc
      rw [Bool.and_eq_true] at hc
      rw [RV] at h1 h2
      refine mt_split pins s σ H x _ v us Q I rx rv ⟨sA t, sA [c], h1, by rw [h2], by rw [sA_len]; rfl, by rw [sA_len]; exact szOk_le hc.1, fun p hp => ?_⟩
      rw [split_eq t (of_decide_eq_true hc.2)]
      exact q.newList r (RVs.ofStrs _) hp
    · exact q.elim
  · exact q.elim
theorem sum_len (ss : List (List Nat)) : ((ss.map sA).map (·.length)).sum = (ss.map List.length).sum := by
  induction ss with
  | nil => rfl
  | cons s ss ih => simp only [List.map_cons, List.sum_cons, ih, sA_len]
theorem mt_joinE : MtR X "str.join" (rM1 X.K E joinD) := by
  intro pins s σ H x xs v us Q I rx rv h
  obtain ⟨σ', β, S, a, d, w, r, rfl, h1, h2, q⟩ := h
  unfold joinD at q
  split at q
  · rename_i sep
    split at q
    · rename_i ys e
      split at q
      · rename_i ss es
        split at q
        · rename_i hc
          rw [RV] at h1
          obtain ⟨p, vs, rfl, sq, z⟩ := r.seq h2 e
          rw [strsOf_map es] at z
          rw [z.strs] at sq
          refine mt_join pins s σ H x _ v us Q I rx rv ⟨sA sep, p, ss.map sA, h1, rfl, sq, ?_, ?_⟩
          · rw [sum_len, List.length_map, sA_len]
            exact of_decide_eq_true hc
          · rw [join_eq']
            exact q.now r (by rw [RV])
        · exact q.elim
      · exact q.elim
    · exact q.elim
  · exact q.elim
theorem mt_endsE : MtR X "str.endswith" (rM1 X.K E endsD) := by
  intro pins s σ H x xs v us Q I rx rv h
  obtain ⟨σ', β, S, a, d, w, r, rfl, h1, h2, q⟩ := h
  unfold endsD at q
  split at q
  · rw [RV] at h1 h2
    refine mt_endswith pins s σ H x _ v us Q I rx rv ⟨_, _, h1, by rw [h2], ?_⟩
    rw [ends_eq]
    exact q.now r (by rw [RV])
  · exact q.elim
theorem mt_startsE : MtR X "str.startswith" (rM1 X.K E startsD) := by
  intro pins s σ H x xs v us Q I rx rv h
  obtain ⟨σ', β, S, a, d, w, r, rfl, h1, h2, q⟩ := h
  unfold startsD at q
  split at q
  · rw [RV] at h1 h2
    refine mt_startswith pins s σ H x _ v us Q I rx rv ⟨_, _, h1, by rw [h2], ?_⟩
    rw [starts_eq]
    exact q.now r (by rw [RV])
  · exact q.elim
theorem mt_appendE : MtR X "list.append" (rM1 X.K E appendD) := by
  intro pins s σ H x xs v us Q I rx rv h
  obtain ⟨σ', β, S, a, d, w, r, rfl, h1, h2, q⟩ := h
  unfold appendD at q
  split at q
  · rename_i n
    split at q
    · rename_i ys g
      split at q
      · rename_i hc
        rw [Bool.and_eq_true] at hc
        rw [RV] at h1
        obtain ⟨p, rfl, ha⟩ := h1
        obtain ⟨a', vs, ha', pu, e', z⟩ := r.lst g
        rw [ha] at ha'; cases ha'
        refine mt_append pins s σ H _ _ v us Q I rx rv ⟨p, vs, w, rfl, rfl, e', by rw [z.length]; exact of_decide_eq_true hc.2, ?_⟩
        have zz : RVs X.K β H (ys ++ [d]) (vs ++ [w]) := z.append (RVs.one h2)
        have pp : D.pureAll (ys ++ [d]) = true := pureAll_of fun y hy => by
          rcases List.mem_append.mp hy with hy | hy
          · exact pureAll_mem pu hy
          · rw [List.mem_singleton.mp hy]; exact hc.1
        have zz2 : RVs X.K β (upd H p (.lst (vs ++ [w]))) (ys ++ [d]) (vs ++ [w]) := RVs.of_keep (fun b t q => by
            rw [upd_ne (fun z => by subst z; rw [e'] at q; cases q)]; exact q) (fun b o t q => by
            rw [upd_ne (fun z => by subst z; rw [e'] at q; cases q)]; exact q) (fun _ _ q => q) _ _ zz
        obtain ⟨r2, ex⟩ := r.put (o := .lst (ys ++ [d])) (u := .lst (vs ++ [w])) ha (fun t => by rw [g]; exact (fun z => nomatch z)) (fun t => by rw [g]; exact (fun z => nomatch z)) ⟨pp, _, upd_same, zz2⟩
        exact q β _ ex r2 _ (by rw [RV])
      · exact q.elim
    · exact q.elim
  · exact q.elim
theorem mt_extendE : MtR X "list.extend" (rM1 X.K E extendD) := by
  intro pins s σ H x xs v us Q I rx rv h
  obtain ⟨σ', β, S, a, d, w, r, rfl, h1, h2, q⟩ := h
  unfold extendD at q
  split at q
  · rename_i n m
    split at q
    · rename_i ys zs g1 g2
      split at q
      · rename_i hc
        rw [RV] at h1 h2
        obtain ⟨p, rfl, ha⟩ := h1
        obtain ⟨b, rfl, hb⟩ := h2
        obtain ⟨a', vs, ha', pu, e', z⟩ := r.lst g1
        rw [ha] at ha'; cases ha'
        obtain ⟨b', ws, hb', pu2, e2', z2⟩ := r.lst g2
        rw [hb] at hb'; cases hb'
        refine mt_extend pins s σ H _ _ v us Q I rx rv ⟨p, b, vs, ws, rfl, rfl, e', e2', by rw [z.length, z2.length]; exact szOk_le hc, ?_⟩
        have zz : RVs X.K β H (ys ++ zs) (vs ++ ws) := z.append z2
        have pp : D.pureAll (ys ++ zs) = true := pureAll_of fun y hy => by
          rcases List.mem_append.mp hy with hy | hy
          · exact pureAll_mem pu hy
          · exact pureAll_mem pu2 hy
        have zz2 : RVs X.K β (upd H p (.lst (vs ++ ws))) (ys ++ zs) (vs ++ ws) := RVs.of_keep (fun b t q => by
            rw [upd_ne (fun z => by subst z; rw [e'] at q; cases q)]; exact q) (fun b o t q => by
            rw [upd_ne (fun z => by subst z; rw [e'] at q; cases q)]; exact q) (fun _ _ q => q) _ _ zz
        obtain ⟨r2, ex⟩ := r.put (o := .lst (ys ++ zs)) (u := .lst (vs ++ ws)) ha (fun t => by rw [g1]; exact (fun z => nomatch z)) (fun t => by rw [g1]; exact (fun z => nomatch z)) ⟨pp, _, upd_same, zz2⟩
        exact q β _ ex r2 _ (by rw [RV])
      · exact q.elim
    · exact q.elim
  · exact q.elim
/-- d.get(k, x) -/
theorem mt_getE (hr : RU X.A) : MtR X "dict.get" (fun x xs H Q => ∃ σ β S a d e v w, RS X.K β S H ∧ xs = [v, w] ∧ RV X.K β H a x ∧ RV X.K β H d v ∧ RV X.K β H e w ∧ PV X.K E σ β S H (getD3 a d e S) Q) := by
  intro pins s σ H x xs v us Q I rx rv h
  obtain ⟨σ', β, S, a, d, e, y, w, r, rfl, h1, h2, h3, q⟩ := h
  unfold getD3 at q
  split at q
  · rename_i n t
    split at q
    · rename_i kvs g
      simp only [RV] at h1 h2
      obtain ⟨p, rfl, ha⟩ := h1
      subst h2
      obtain ⟨a', ha', gs, e', z⟩ := r.at g
      rw [ha] at ha'; cases ha'
      obtain rfl : v = Value.ref p := rx
      obtain ⟨u1, u2, rfl, r1, r2⟩ := rv.two
      refine d_get2 (hu_ofU hr) I (DGet.k (k := .inr (sA t)) e') r1 r2 fun w' s' I' rw' => ?_
      refine ⟨_, H, I', rw', q.now r ?_⟩
      cases f : (kvs.find? fun kv => eqD kv.1 (.str t)).map (·.2) with
      | none => rw [z.findN f]; exact h3
      | some d' =>
        obtain ⟨v', g', rv'⟩ := z.find f
        rw [g']
        exact rv'
    · exact q.elim
  · exact q.elim
end

/-! ### isinstance -/
def tyN : Ty → String
  | .tTuple => "tuple" | .tStr => "str" | .tInt => "int" | .tBool => "bool" | .tList => "list"
section
variable {X : Cx} {E : XW}
theorem isTy_run {K : PySem.W.Frag} {β : List Addr} {S : Store} {H : Hp} {d : D} {x : V} {t : Ty} {b : Bool} (r : RS K β S H) (h : RV K β H d x) (e : isTy S d t = some b) :
    ∃ T, TyX K H x T ∧ PySem.W.kitOne K T (.type (tyN t)) = some b ∧ ∀ t' b', isTy S d t' = some b' → PySem.W.kitOne K T (.type (tyN t')) = some b' := by
  suffices ∃ T, TyX K H x (.type T) ∧ ∀ t' b', isTy S d t' = some b' → kitB T (tyN t') = some b' by
    obtain ⟨T, h1, h2⟩ := this
    exact ⟨.type T, h1, kit_ty (h2 t b e), fun t' b' e' => kit_ty (h2 t' b' e')⟩
  have tupK : ∀ {a : Addr} {vs : List V}, SqT K H a vs → TyX K H (.ref a) (.type "tuple") := by
    intro a vs q
    rcases q with (q | ⟨o, q⟩) | ⟨o, its, n, q, c, _⟩
    · exact .base (.tup q)
    · exact .fTuple q
    · exact .kTuple q c
  have lstK : ∀ {a : Addr} {vs : List V}, SqL K H a vs → TyX K H (.ref a) (.type "list") := by
    intro a vs q
    rcases q with (q | ⟨o, q⟩) | ⟨o, its, n, q, c, _⟩
    · exact .base (.lst q)
    · exact .base (.frz q)
    · exact .kList q c
  cases d with
  | non =>
    rw [RV] at h; subst h
    refine ⟨"NoneType", .base .non, fun t' b' e' => ?_⟩
    cases t' <;> cases e' <;> decide +kernel
  | bl _ =>
    rw [RV] at h; subst h
    refine ⟨"bool", .base (.bl _), fun t' b' e' => ?_⟩
    cases t' <;> cases e' <;> decide +kernel
  | int _ =>
    rw [RV] at h; subst h
    refine ⟨"int", .base (.int _), fun t' b' e' => ?_⟩
    cases t' <;> cases e' <;> decide +kernel
  | str _ =>
    rw [RV] at h; subst h
    refine ⟨"str", .base (.str _), fun t' b' e' => ?_⟩
    cases t' <;> cases e' <;> decide +kernel
  | tup _ =>
    rw [RV] at h
    obtain ⟨a, vs, rfl, q, _⟩ := h
    refine ⟨"tuple", tupK q, fun t' b' e' => ?_⟩
    cases t' <;> cases e' <;> decide +kernel
  | lit _ =>
    rw [RV] at h
    obtain ⟨a, vs, rfl, q, _⟩ := h
    refine ⟨"list", lstK q.sq, fun t' b' e' => ?_⟩
    cases t' <;> cases e' <;> decide +kernel
  | loc n =>
    rw [RV] at h
    obtain ⟨a, rfl, ha⟩ := h
    have key : ∀ xs, S[n]? = some (.lst xs) ∨ S[n]? = some (.frz xs) → (∀ t' b', isTy S (.loc n) t' = some b' → b' = match t' with | .tList => true | _ => false) →
        ∃ T, TyX K H (.ref a) (.type T) ∧ ∀ t' b', isTy S (.loc n) t' = some b' → kitB T (tyN t') = some b' := by
      intro xs g hb
      obtain ⟨a', vs, ha', _, e', z⟩ := r.lstf g
      rw [ha] at ha'; cases ha'
      refine ⟨"list", lstK (.of e'), fun t' b' e2 => ?_⟩
      rw [hb t' b' e2]
      cases t' <;> decide +kernel
    have e0 := e
    simp only [isTy] at e
    split at e
    · rename_i xs g
      exact key xs (.inl g) fun t' b' e' => by simp only [isTy, g] at e'; exact (Option.some.inj e').symm
    · rename_i xs g
      exact key xs (.inr g) fun t' b' e' => by simp only [isTy, g] at e'; exact (Option.some.inj e').symm
    · cases e
theorem isTys_run {K : PySem.W.Frag} {S : Store} {d : D} {T : Value} (h : ∀ t' b', isTy S d t' = some b' → PySem.W.kitOne K T (.type (tyN t')) = some b') :
    ∀ {ts : List Ty} {b : Bool}, isTys S d ts = some b → PySem.W.kitAny K T (ts.map fun t => .type (tyN t)) = some b
  | [], b, e => by cases e; exact kitAny_nil
  | t :: ts, b, e => by
    rw [isTys] at e
    split at e
    · rename_i e1
      cases e
      exact kitAny_cons (h t true e1) (fun z => nomatch z) fun _ => rfl
    · rename_i e1
      exact kitAny_cons (h t false e1) (fun _ => isTys_run h e) fun z => nomatch z
    · cases e
end
end Ev
set_option Elab.async false
set_option linter.all false
set_option maxRecDepth 100000
/-! Eng8: expressions. -/
namespace Ev
open PySem L2

theorem _root_.L2.PE.monoE {X : Cx} {e : Expr} {t t' : TE} (h : PE X e t) (m : ∀ σ H Q, t' σ H Q → t σ H Q) : PE X e t' := ⟨fun pins s σ H Q I q => h.run pins s σ H Q I (m σ H Q q)⟩
theorem _root_.L2.PT.monoE {X : Cx} {e : Expr} {t t' : TT} (h : PT X e t) (m : ∀ σ H Q, t' σ H Q → t σ H Q) : PT X e t' := ⟨fun pins s σ H Q I q => h.run pins s σ H Q I (m σ H Q q)⟩
theorem _root_.L2.PW.monoE {X : Cx} {e : Expr} {t t' : TT} (h : PW X e t) (m : ∀ σ H Q, t' σ H Q → t σ H Q) : PW X e t' := ⟨fun wh pins s σ H Q I q => h.run wh pins s σ H Q I (m σ H Q q)⟩
theorem _root_.L2.PA.monoE {X : Cx} {e : List Expr} {t t' : TA} (h : PA X e t) (m : ∀ σ H Q, t' σ H Q → t σ H Q) : PA X e t' := ⟨fun pos pins s σ H Q I q => h.run pos pins s σ H Q I (m σ H Q q)⟩
theorem _root_.L2.PI.monoE {X : Cx} {tg e : Expr} {t t' : TI} (h : PI X tg e t) (m : ∀ σ H Q, t' σ H Q → t σ H Q) : PI X tg e t' := ⟨fun pins s σ H Q I q => h.run pins s σ H Q I (m σ H Q q)⟩
theorem _root_.L2.PS.monoE {X : Cx} {e : Stmt} {t t' : TS} (h : PS X e t) (m : ∀ D σ H, t' D σ H → t D σ H) : PS X e t' := ⟨fun pins s σ H D I q => h.run pins s σ H D I (m D σ H q)⟩
theorem _root_.L2.PSs.monoE {X : Cx} {e : List Stmt} {t t' : TS} (h : PSs X e t) (m : ∀ D σ H, t' D σ H → t D σ H) : PSs X e t' := ⟨fun pins s σ H D I q => h.run pins s σ H D I (m D σ H q)⟩
theorem _root_.L2.PE.never {X : Cx} {e : Expr} {t : TE} (h : ∀ σ H Q, ¬ t σ H Q) : PE X e t := ⟨fun pins s σ H Q I q => (h σ H Q q).elim⟩

/-! ### forms of the syntax -/
def notStar : Expr → Bool
  | .Starred .. => false
  | _ => true
theorem star_cons {e : Expr} {es : List Expr} {env : PySem.Env} (h : notStar e = true) : starEach (e :: es) env = (false, eval e env) :: starEach es env := by
  cases e <;> first | rfl | (exact nomatch h)
theorem star_any {pos : Pos} {env : PySem.Env} : ∀ {es : List Expr}, es.all notStar = true → (backTo pos (starEach es env)).any (·.1) = false
  | [], _ => rfl
  | e :: es, h => by
    rw [List.all_cons, Bool.and_eq_true] at h
    rw [star_cons h.1]
    exact star_any (es := es) h.2
theorem star_all {pos : Pos} {env : PySem.Env} : ∀ {es : List Expr}, es.all notStar = true → (backTo pos (starEach es env)).all (fun x => !x.1) = true
  | [], _ => rfl
  | e :: es, h => by
    rw [List.all_cons, Bool.and_eq_true] at h
    rw [star_cons h.1]
    exact star_all (es := es) h.2
def notCall : Expr → Bool
  | .Call (.Name ..) [] [] _ => false
  | _ => true
theorem attr_base {o : Expr} {name : Str} {env : PySem.Env} (h : notCall o = true) (whole : Sem Value) : attributeBase o name env whole = whole := by
  unfold attributeBase
  split
  · rename_i id p pos
    exact nomatch h
  · rfl
def notSlice : Expr → Bool
  | .Slice .. => false
  | _ => true
theorem plain_ix {b : Expr} (h : notSlice b = true) : PlainIx b := by
  intro o i
  cases b <;> first | rfl | (exact nomatch h)
/-- its truth is that of its value -/
def plainT : Expr → Bool
  | .UnaryOp .. => false | .BoolOp .. => false | .IfExp .. => false | .Compare .. => false
  | _ => true
theorem plain_true {e : Expr} {env : PySem.Env} (h : plainT e = true) (whole : Sem Value) : isTrue e env whole = (do let v ← whole; standAt e.pos; holding [v] (truthy v)) := by
  cases e <;> first | rfl | (exact nomatch h)

section
variable {K : PySem.W.Frag} {F : FS} {E : XW} {β : List Addr} {S : Store} {H : Hp} {σ : L2.St} {ρ : Env}
/-- an expression ahead of the rest -/
theorem seqE {α : Type} {a : Ex} {k : D → Store → Out α} {Qk : α → Store → List Addr → Hp → Prop} {Q : VK} (sim : Sim K E.pin β H σ ρ) (r : RS K β S H) (p : Post K β S H ((ev F a ρ S).bind k) Qk (fun c _ _ H' => E c σ H'))
    (h : ∀ d S1 β1 H1 v, Ext β S H β1 S1 H1 → Sim K E.pin β1 H1 σ ρ → RS K β1 S1 H1 → RV K β1 H1 d v → Post K β1 S1 H1 (k d S1) Qk (fun c _ _ H' => E c σ H') → Q v H1) : tEv K F E a σ H Q :=
  ⟨ρ, S, β, sim, r, p.bind.mono (fun d S1 β1 H1 e1 r1 p1 v hv => h d S1 β1 H1 v e1 (sim.mono r e1) r1 hv p1) (fun _ _ _ _ _ _ z => z)⟩
theorem seqEs {α : Type} {es : Exs} {k : List D → Store → Out α} {Qk : α → Store → List Addr → Hp → Prop} {Q : List V → Hp → Prop} (sim : Sim K E.pin β H σ ρ) (r : RS K β S H) (p : Post K β S H ((evs F es ρ S).bind k) Qk (fun c _ _ H' => E c σ H'))
    (h : ∀ ds S1 β1 H1 vs, Ext β S H β1 S1 H1 → Sim K E.pin β1 H1 σ ρ → RS K β1 S1 H1 → RVs K β1 H1 ds vs → Post K β1 S1 H1 (k ds S1) Qk (fun c _ _ H' => E c σ H') → Q vs H1) : tEvs K F E es σ H Q :=
  ⟨ρ, S, β, sim, r, p.bind.mono (fun d S1 β1 H1 e1 r1 p1 v hv => h d S1 β1 H1 v e1 (sim.mono r e1) r1 hv p1) (fun _ _ _ _ _ _ z => z)⟩
end

section
variable {X : Cx} {F : FS} {E : XW} {a b c : Expr} {ia ib ic : Ex} {pos : Pos}
theorem s_var {i : Nat} {x : Str} (hN : X.N[i]? = some x) (hv : Vis X.env.scope x) (hd : (x == ("__debug__" : Str)) = false) (hcd : (x == ("__classdict__" : Str)) = false) : PE X (.Name x pos) (tEv X.K F E (.var i)) := by
  refine (pe_var hN hv hd hcd).monoE fun σ H Q h => ?_
  obtain ⟨ρ, S, β, sim, r, p⟩ := h
  rw [ev] at p
  split at p
  · rename_i d e
    obtain ⟨v, e1, e2⟩ := sim.rel i d e
    exact ⟨v, e1, p β H .refl r v e2⟩
  · exact p.elim
theorem s_dat {e : Expr} {d : D} {v : V} (h : PE X e (tC v)) (hv : ∀ β H, RV X.K β H d v) : PE X e (tEv X.K F E (.dat d)) := by
  refine h.monoE fun σ H Q h => ?_
  obtain ⟨ρ, S, β, sim, r, p⟩ := h
  rw [ev] at p
  exact p β H .refl r v (hv β H)
theorem s_nil : PA X [] (tEvs X.K F E .nil) := by
  refine pa_nil.monoE fun σ H Q h => ?_
  obtain ⟨ρ, S, β, sim, r, p⟩ := h
  rw [evs] at p
  exact p β H .refl r [] RVs.nil
theorem s_cons {e : Expr} {es : List Expr} {ie : Ex} {ies : Exs} (he : PE X e (tEv X.K F E ie)) (hes : PA X es (tEvs X.K F E ies)) (hs : notStar e = true) : PA X (e :: es) (tEvs X.K F E (.cons ie ies)) := by
  refine (pa_cons he hes (star_cons hs)).monoE fun σ H Q h => ?_
  obtain ⟨ρ, S, β, sim, r, p⟩ := h
  rw [evs] at p
  refine seqE sim r p fun d S1 β1 H1 v e1 sim1 r1 hv p1 => ?_
  refine seqEs sim1 r1 p1 fun ds S2 β2 H2 vs e2 sim2 r2 hvs p2 => ?_
  exact p2 β2 H2 .refl r2 _ (RVs.cons (hv.mono r1 e2) hvs)
theorem s_tup {es : List Expr} {ies : Exs} {x1 : Nat} (h : PA X es (tEvs X.K F E ies)) : PE X (.Tuple es x1 pos) (tEv X.K F E (.tup ies)) := by
  refine (pe_tup h).monoE fun σ H Q h => ?_
  obtain ⟨ρ, S, β, sim, r, p⟩ := h
  unfold PV at p
  rw [ev] at p
  refine seqEs sim r p fun ds S1 β1 H1 vs e1 sim1 r1 hvs p1 => ?_
  split at p1
  · rename_i hz
    exact ⟨by rw [hvs.length]; exact szOk_le hz, fun q hq => PV.newTup (E := E) (σ := σ) r1 p1 hvs hq⟩
  · exact p1.elim
theorem s_lst {es : List Expr} {ies : Exs} (h : PA X es (tEvs X.K F E ies)) : PE X (.List es pos) (tEv X.K F E (.lst ies)) := by
  refine (pe_lst h).monoE fun σ H Q h => ?_
  obtain ⟨ρ, S, β, sim, r, p⟩ := h
  unfold PV at p
  rw [ev] at p
  refine seqEs sim r p fun ds S1 β1 H1 vs e1 sim1 r1 hvs p1 => ?_
  exact ⟨by rw [hvs.length]; exact (newL_len (E := E) (σ := σ) p1).2, fun q hq => PV.newList (E := E) (σ := σ) r1 p1 hvs hq⟩
theorem s_dnew : PE X (.Dict [] [] pos) (tEv X.K F E .dnew) := by
  refine pe_dnewK.monoE fun σ H Q h => ?_
  obtain ⟨ρ, S, β, sim, r, p⟩ := h
  unfold PV at p
  rw [ev] at p
  intro q hq
  obtain ⟨r2, e2⟩ := r.push (o := .dic []) (u := .dK []) hq ⟨[], upd_same, by rw [RKs]⟩
  refine p _ _ e2 r2 _ ?_
  rw [RV]
  refine ⟨q, rfl, ?_⟩
  rw [← r.len]
  simp
theorem s_bin (op : Bop) (ha : PE X a (tEv X.K F E ia)) (hb : PE X b (tEv X.K F E ib)) : PE X (.BinOp a (bopOf op) b pos) (tEv X.K F E (.bin op ia ib)) := by
  refine (pe_op (op_binE (E := E) op) ha hb).monoE fun σ H Q h => ?_
  obtain ⟨ρ, S, β, sim, r, p⟩ := h
  unfold PV at p
  rw [ev] at p
  refine seqE sim r p fun d1 S1 β1 H1 v1 e1 sim1 r1 h1 p1 => ?_
  refine seqE sim1 r1 p1 fun d2 S2 β2 H2 v2 e2 sim2 r2 h2 p2 => ?_
  exact ⟨σ, β2, S2, d1, d2, r2, h1.mono r1 e2, h2, p2⟩
theorem blO_ok {K : PySem.W.Frag} {β : List Addr} {S : Store} {H : Hp} {σ : L2.St} {o : Option Bool} {Q : VK} (r : RS K β S H) (p : PV K E σ β S H (blO o S) Q) : ∃ b, o = some b ∧ Q (.bl b) H := by
  cases o with
  | none => exact p.elim
  | some b => exact ⟨b, rfl, p β H .refl r _ (by rw [RV])⟩
theorem s_cmp (hr : RU X.A) (op : Cop) (ha : PE X a (tEv X.K F E ia)) (hb : PE X b (tEv X.K F E ib)) (hm : behindInMarks (copOf op) b = false) : PE X (.Compare a [copOf op] [b] pos) (tEv X.K F E (.cmp op ia ib)) := by
  refine (pe_cmpR (op_cmpE hr op) ha hb hm).monoE fun σ H Q h => ?_
  obtain ⟨ρ, S, β, sim, r, p⟩ := h
  unfold PV at p
  rw [ev] at p
  refine seqE sim r p fun d1 S1 β1 H1 v1 e1 sim1 r1 h1 p1 => ?_
  refine seqE sim1 r1 p1 fun d2 S2 β2 H2 v2 e2 sim2 r2 h2 p2 => ?_
  obtain ⟨bb, eb, q⟩ := blO_ok (E := E) (σ := σ) r2 p2
  exact ⟨β2, S2, d1, d2, bb, r2, h1.mono r1 e2, h2, eb, q⟩
theorem s_chain (hr : RU X.A) (o1 o2 : Cop) (ha : PE X a (tEv X.K F E ia)) (hb : PE X b (tEv X.K F E ib)) (hc : PE X c (tEv X.K F E ic)) (hm : lastMarks [copOf o1, copOf o2] [b, c] = false) :
    PE X (.Compare a [copOf o1, copOf o2] [b, c] pos) (tEv X.K F E (.chain o1 o2 ia ib ic)) := by
  refine (pe_chain (op_cmpE hr o1) (op_cmpE hr o2) ha hb hc hm).monoE fun σ H Q h => ?_
  obtain ⟨ρ, S, β, sim, r, p⟩ := h
  unfold PV at p
  rw [ev] at p
  refine seqE sim r p fun d1 S1 β1 H1 v1 e1 sim1 r1 h1 p1 => ?_
  refine seqE sim1 r1 p1 fun d2 S2 β2 H2 v2 e2 sim2 r2 h2 p2 => ?_
  split at p2
  · rename_i ec
    refine ⟨β2, S2, d1, d2, true, r2, h1.mono r1 e2, h2, ec, true, rfl, ?_⟩
    rw [if_pos rfl]
    refine seqE sim2 r2 p2 fun d3 S3 β3 H3 v3 e3 sim3 r3 h3 p3 => ?_
    obtain ⟨bb, eb, q⟩ := blO_ok (E := E) (σ := σ) r3 p3
    exact ⟨β3, S3, d2, d3, bb, r3, h2.mono r2 e3, h3, eb, q⟩
  · rename_i ec
    refine ⟨β2, S2, d1, d2, false, r2, h1.mono r1 e2, h2, ec, false, rfl, ?_⟩
    rw [if_neg Bool.false_ne_true]
    exact p2 β2 H2 .refl r2 _ (by rw [RV])
  · exact p2.elim
theorem s_and {rest : List Expr} (ha : PE X a (tEv X.K F E ia)) (hb : PE X (.BoolOp .And (b :: rest) pos) (tEv X.K F E ib)) : PE X (.BoolOp .And (a :: b :: rest) pos) (tEv X.K F E (.and ia ib)) := by
  refine (pe_andT ha hb).monoE fun σ H Q h => ?_
  obtain ⟨ρ, S, β, sim, r, p⟩ := h
  unfold PV at p
  rw [ev] at p
  refine seqE sim r p fun d1 S1 β1 H1 v1 e1 sim1 r1 h1 p1 => ?_
  split at p1
  · rename_i ec
    refine ⟨true, truth_run r1 h1 ec, ?_⟩
    rw [if_pos rfl]
    exact ⟨ρ, S1, β1, sim1, r1, p1⟩
  · rename_i ec
    refine ⟨false, truth_run r1 h1 ec, ?_⟩
    rw [if_neg Bool.false_ne_true]
    exact p1 β1 H1 .refl r1 _ h1
  · exact p1.elim
theorem s_or {rest : List Expr} (ha : PE X a (tEv X.K F E ia)) (hb : PE X (.BoolOp .Or (b :: rest) pos) (tEv X.K F E ib)) : PE X (.BoolOp .Or (a :: b :: rest) pos) (tEv X.K F E (.or ia ib)) := by
  refine (pe_orT ha hb).monoE fun σ H Q h => ?_
  obtain ⟨ρ, S, β, sim, r, p⟩ := h
  unfold PV at p
  rw [ev] at p
  refine seqE sim r p fun d1 S1 β1 H1 v1 e1 sim1 r1 h1 p1 => ?_
  split at p1
  · rename_i ec
    refine ⟨true, truth_run r1 h1 ec, ?_⟩
    rw [if_pos rfl]
    exact p1 β1 H1 .refl r1 _ h1
  · rename_i ec
    refine ⟨false, truth_run r1 h1 ec, ?_⟩
    rw [if_neg Bool.false_ne_true]
    exact ⟨ρ, S1, β1, sim1, r1, p1⟩
  · exact p1.elim
theorem s_not (ha : PE X a (tEv X.K F E ia)) : PE X (.UnaryOp .Not a pos) (tEv X.K F E (.not ia)) := by
  refine (pe_notT ha).monoE fun σ H Q h => ?_
  obtain ⟨ρ, S, β, sim, r, p⟩ := h
  unfold PV at p
  rw [ev] at p
  refine seqE sim r p fun d1 S1 β1 H1 v1 e1 sim1 r1 h1 p1 => ?_
  split at p1
  · rename_i t ec
    exact ⟨t, truth_run r1 h1 ec, p1 β1 H1 .refl r1 _ (by rw [RV])⟩
  · exact p1.elim
/-! ### tests -/
theorem t_plain (ha : PE X a (tEv X.K F E ia)) (h : plainT a = true) : PT X a (tEvT X.K F E ia) := by
  refine (pt_truth ha fun wh => plain_true h wh).monoE fun σ H Q h => ?_
  obtain ⟨ρ, S, β, sim, r, p⟩ := h
  refine seqE sim r p fun d1 S1 β1 H1 v1 e1 sim1 r1 h1 p1 => ?_
  cases ec : truth S1 d1 with
  | none => rw [ec] at p1; exact p1.elim
  | some t =>
    rw [ec] at p1
    exact ⟨t, truth_run r1 h1 ec, p1 β1 H1 .refl r1⟩
/-- a comparison gives a truth -/
theorem t_cmp (hr : RU X.A) (op : Cop) (ha : PE X a (tEv X.K F E ia)) (hb : PE X b (tEv X.K F E ib)) (hm : behindInMarks (copOf op) b = false) : PT X (.Compare a [copOf op] [b] pos) (tEvT X.K F E (.cmp op ia ib)) := by
  refine (pt_cmpR (op_cmpE hr op) ha hb hm).monoE fun σ H Q h => ?_
  obtain ⟨ρ, S, β, sim, r, p⟩ := h
  rw [ev] at p
  have p' : Post X.K β S H ((ev F ia ρ S).bind fun x S => (ev F ib ρ S).bind fun y S => (cmpD op x y S).bind fun x S => blB (truth S x) S) (fun b _ _ H' => Q b H') (fun c _ _ H' => E c σ H') := by
    revert p
    cases ev F ia ρ S with
    | ok d1 S1 =>
      dsimp only [Out.bind]
      cases ev F ib ρ S1 with
      | ok d2 S2 => exact id
      | exc c S2 => exact id
      | bad => exact id
    | exc c S1 => exact id
    | bad => exact id
  refine seqE sim r p' fun d1 S1 β1 H1 v1 e1 sim1 r1 h1 p1 => ?_
  refine seqE sim1 r1 p1 fun d2 S2 β2 H2 v2 e2 sim2 r2 h2 p2 => ?_
  cases ec : cmpO S2 op d1 d2 with
  | none => unfold cmpD at p2; rw [ec] at p2; exact p2.elim
  | some t =>
    unfold cmpD at p2
    rw [ec] at p2
    exact ⟨β2, S2, d1, d2, t, r2, h1.mono r1 e2, h2, ec, t, rfl, p2 β2 H2 .refl r2⟩
theorem t_chain (hr : RU X.A) (o1 o2 : Cop) (ha : PE X a (tEv X.K F E ia)) (hb : PE X b (tEv X.K F E ib)) (hc : PE X c (tEv X.K F E ic)) (hm : lastMarks [copOf o1, copOf o2] [b, c] = false) :
    PT X (.Compare a [copOf o1, copOf o2] [b, c] pos) (tEvT X.K F E (.chain o1 o2 ia ib ic)) := by
  refine (pt_chain (op_cmpE hr o1) (op_cmpE hr o2) ha hb hc hm).monoE fun σ H Q h => ?_
  obtain ⟨ρ, S, β, sim, r, p⟩ := h
  rw [ev] at p
  have p' : Post X.K β S H ((ev F ia ρ S).bind fun x S => (ev F ib ρ S).bind fun y S => match cmpO S o1 x y with
      | some true => (ev F ic ρ S).bind fun z S => (cmpD o2 y z S).bind fun x S => blB (truth S x) S
      | some false => .ok false S
      | none => .bad) (fun b _ _ H' => Q b H') (fun c _ _ H' => E c σ H') := by
    revert p
    cases ev F ia ρ S with
    | ok d1 S1 =>
      dsimp only [Out.bind]
      cases ev F ib ρ S1 with
      | ok d2 S2 =>
        dsimp only [Out.bind]
        cases cmpO S2 o1 d1 d2 with
        | none => exact id
        | some t =>
          cases t with
          | false => exact id
          | true =>
            dsimp only [Out.bind]
            cases ev F ic ρ S2 with
            | ok d3 S3 => exact id
            | exc c S3 => exact id
            | bad => exact id
      | exc c S2 => exact id
      | bad => exact id
    | exc c S1 => exact id
    | bad => exact id
  refine seqE sim r p' fun d1 S1 β1 H1 v1 e1 sim1 r1 h1 p1 => ?_
  refine seqE sim1 r1 p1 fun d2 S2 β2 H2 v2 e2 sim2 r2 h2 p2 => ?_
  split at p2
  · rename_i ec
    refine ⟨β2, S2, d1, d2, true, r2, h1.mono r1 e2, h2, ec, true, rfl, ?_⟩
    rw [if_pos rfl]
    refine seqE sim2 r2 p2 fun d3 S3 β3 H3 v3 e3 sim3 r3 h3 p3 => ?_
    cases ec : cmpO S3 o2 d2 d3 with
    | none => unfold cmpD at p3; rw [ec] at p3; exact p3.elim
    | some t =>
      unfold cmpD at p3
      rw [ec] at p3
      exact ⟨β3, S3, d2, d3, t, r3, h2.mono r2 e3, h3, ec, t, rfl, p3 β3 H3 .refl r3⟩
  · rename_i ec
    refine ⟨β2, S2, d1, d2, false, r2, h1.mono r1 e2, h2, ec, false, rfl, ?_⟩
    rw [if_neg Bool.false_ne_true]
    exact ⟨false, rfl, p2 β2 H2 .refl r2⟩
  · exact p2.elim
section
variable {K : PySem.W.Frag} {β : List Addr} {S : Store} {H : Hp} {σ : L2.St} {ρ : Env}
/-- a test ahead of the rest -/
theorem seqT {α : Type} {a : Ex} {k : Bool → Store → Out α} {Qk : α → Store → List Addr → Hp → Prop} {Q : Bool → Hp → Prop} (sim : Sim K E.pin β H σ ρ) (r : RS K β S H)
    (p : Post K β S H (((ev F a ρ S).bind fun x S => blB (truth S x) S).bind k) Qk (fun c _ _ H' => E c σ H'))
    (h : ∀ t S1 β1 H1, Ext β S H β1 S1 H1 → Sim K E.pin β1 H1 σ ρ → RS K β1 S1 H1 → Post K β1 S1 H1 (k t S1) Qk (fun c _ _ H' => E c σ H') → Q t H1) : tEvT K F E a σ H Q :=
  ⟨ρ, S, β, sim, r, p.bind.mono (fun d S1 β1 H1 e1 r1 p1 => h d S1 β1 H1 e1 (sim.mono r e1) r1 p1) (fun _ _ _ _ _ _ z => z)⟩
end
theorem t_not (ha : PT X a (tEvT X.K F E ia)) : PT X (.UnaryOp .Not a pos) (tEvT X.K F E (.not ia)) := by
  refine (pt_not ha).monoE fun σ H Q h => ?_
  obtain ⟨ρ, S, β, sim, r, p⟩ := h
  rw [ev] at p
  have p' : Post X.K β S H (((ev F ia ρ S).bind fun x S => blB (truth S x) S).bind fun t S => .ok (!t) S) (fun b _ _ H' => Q b H') (fun c _ _ H' => E c σ H') := by
    revert p
    cases ev F ia ρ S with
    | ok d1 S1 =>
      dsimp only [Out.bind]
      cases truth S1 d1 with
      | none => exact id
      | some t => exact id
    | exc c S1 => exact id
    | bad => exact id
  exact seqT sim r p' fun t S1 β1 H1 e1 sim1 r1 p1 => p1 β1 H1 .refl r1
theorem t_and1 {op : BoolOp} (ha : PT X a (tEvT X.K F E ia)) : PW X (.BoolOp op [a] pos) (tEvT X.K F E ia) := by
  cases op
  · exact pw_and1 ha
  · exact pw_or1 ha
theorem t_and {rest : List Expr} (ha : PT X a (tEvT X.K F E ia)) (hb : PW X (.BoolOp .And (b :: rest) pos) (tEvT X.K F E ib)) : PW X (.BoolOp .And (a :: b :: rest) pos) (tEvT X.K F E (.and ia ib)) := by
  refine (pw_and ha hb).monoE fun σ H Q h => ?_
  obtain ⟨ρ, S, β, sim, r, p⟩ := h
  rw [ev] at p
  have p' : Post X.K β S H (((ev F ia ρ S).bind fun x S => blB (truth S x) S).bind fun t S => if t = true then ((ev F ib ρ S).bind fun x S => blB (truth S x) S) else .ok false S) (fun b _ _ H' => Q b H') (fun c _ _ H' => E c σ H') := by
    revert p
    cases ev F ia ρ S with
    | ok d1 S1 =>
      dsimp only [Out.bind]
      cases ec : truth S1 d1 with
      | none => exact id
      | some t =>
        cases t with
        | true => exact id
        | false => dsimp only [Out.bind, blB]; rw [ec]; exact id
    | exc c S1 => exact id
    | bad => exact id
  refine seqT sim r p' fun t S1 β1 H1 e1 sim1 r1 p1 => ?_
  cases t with
  | true => rw [if_pos rfl] at p1 ⊢; exact ⟨ρ, S1, β1, sim1, r1, p1⟩
  | false => rw [if_neg Bool.false_ne_true] at p1 ⊢; exact p1 β1 H1 .refl r1
theorem t_or {rest : List Expr} (ha : PT X a (tEvT X.K F E ia)) (hb : PW X (.BoolOp .Or (b :: rest) pos) (tEvT X.K F E ib)) : PW X (.BoolOp .Or (a :: b :: rest) pos) (tEvT X.K F E (.or ia ib)) := by
  refine (pw_or ha hb).monoE fun σ H Q h => ?_
  obtain ⟨ρ, S, β, sim, r, p⟩ := h
  rw [ev] at p
  have p' : Post X.K β S H (((ev F ia ρ S).bind fun x S => blB (truth S x) S).bind fun t S => if t = true then .ok true S else ((ev F ib ρ S).bind fun x S => blB (truth S x) S)) (fun b _ _ H' => Q b H') (fun c _ _ H' => E c σ H') := by
    revert p
    cases ev F ia ρ S with
    | ok d1 S1 =>
      dsimp only [Out.bind]
      cases ec : truth S1 d1 with
      | none => exact id
      | some t =>
        cases t with
        | true => dsimp only [Out.bind, blB]; rw [ec]; exact id
        | false => exact id
    | exc c S1 => exact id
    | bad => exact id
  refine seqT sim r p' fun t S1 β1 H1 e1 sim1 r1 p1 => ?_
  cases t with
  | true => rw [if_pos rfl] at p1 ⊢; exact p1 β1 H1 .refl r1
  | false => rw [if_neg Bool.false_ne_true] at p1 ⊢; exact ⟨ρ, S1, β1, sim1, r1, p1⟩
/-- a if t else b -/
theorem s_ife (hc : PT X c (tEvT X.K F E ic)) (ha : PE X a (tEv X.K F E ia)) (hb : PE X b (tEv X.K F E ib)) : PE X (.IfExp c a b pos) (tEv X.K F E (.ife ic ia ib)) := by
  refine (pe_ifExp hc ha hb).monoE fun σ H Q h => ?_
  obtain ⟨ρ, S, β, sim, r, p⟩ := h
  unfold PV at p
  rw [ev] at p
  have p' : Post X.K β S H (((ev F ic ρ S).bind fun x S => blB (truth S x) S).bind fun t S => if t = true then ev F ia ρ S else ev F ib ρ S) (fun d S' β' H' => ∀ v, RV X.K β' H' d v → Q v H') (fun c _ _ H' => E c σ H') := by
    revert p
    cases ev F ic ρ S with
    | ok d1 S1 =>
      dsimp only [Out.bind]
      cases ec : truth S1 d1 with
      | none => exact id
      | some t => cases t <;> exact id
    | exc c S1 => exact id
    | bad => exact id
  refine seqT sim r p' fun t S1 β1 H1 e1 sim1 r1 p1 => ?_
  cases t with
  | true => rw [if_pos rfl] at p1 ⊢; exact ⟨ρ, S1, β1, sim1, r1, p1⟩
  | false => rw [if_neg Bool.false_ne_true] at p1 ⊢; exact ⟨ρ, S1, β1, sim1, r1, p1⟩
/-- a[i], a[l:h] -/
theorem s_idx (hr : RU X.A) (ha : PE X a (tEv X.K F E ia)) (hb : PE X b (tEv X.K F E ib)) (hs : notSlice b = true) : PE X (.Subscript a b pos) (tEv X.K F E (.idx ia ib)) := by
  refine (pe_ix (ix_E (E := E) hr) ha hb (plain_ix hs)).monoE fun σ H Q h => ?_
  obtain ⟨ρ, S, β, sim, r, p⟩ := h
  unfold PV at p
  rw [ev] at p
  refine seqE sim r p fun d1 S1 β1 H1 v1 e1 sim1 r1 h1 p1 => ?_
  refine seqE sim1 r1 p1 fun d2 S2 β2 H2 v2 e2 sim2 r2 h2 p2 => ?_
  exact ⟨σ, β2, S2, d1, d2, r2, h1.mono r1 e2, h2, p2⟩
/-- a part of a slice -/
def tEvO (K : PySem.W.Frag) (F : FS) (E : XW) (e : Ex) : TO := fun σ H Q => ∃ ρ S β, Sim K E.pin β H σ ρ ∧ RS K β S H ∧
  Post K β S H (ev F e ρ S) (fun d S' β' H' => ∃ o, partO d = some o ∧ Q o H') (fun c _ _ H' => E c σ H')
theorem o_none : PO X none (tEvO X.K F E (.dat .non)) := by
  refine ⟨fun pins s σ H Q I h => po_none.run pins s σ H Q I ?_⟩
  obtain ⟨ρ, S, β, sim, r, p⟩ := h
  rw [ev] at p
  obtain ⟨o, e, q⟩ := p β H .refl r
  cases e
  exact q
theorem o_some (ha : PE X a (tEv X.K F E ia)) : PO X (some a) (tEvO X.K F E ia) := by
  refine ⟨fun pins s σ H Q I h => ?_⟩
  obtain ⟨ρ, S, β, sim, r, p⟩ := h
  refine thn (ha.run pins s σ H (fun v H1 => (∃ i, v = .int i ∧ Q (some i) H1) ∨ (v = .non ∧ Q none H1)) I ⟨ρ, S, β, sim, r, p.mono (fun d S1 β1 H1 e1 r1 q v hv => ?_) fun _ _ _ _ _ _ z => z⟩) fun u s1 ⟨v, H1, I1, rv, q⟩ => ?_
  · obtain ⟨o, e, q⟩ := q
    cases d with
    | non => cases e; rw [RV] at hv; exact .inr ⟨hv, q⟩
    | int i => cases e; rw [RV] at hv; exact .inl ⟨i, hv, q⟩
    | _ => exact nomatch e
  · rcases q with ⟨i, rfl, q⟩ | ⟨rfl, q⟩
    · obtain ⟨t, rfl⟩ := rv
      exact ⟨some i, H1, I1, by constructor, q⟩
    · obtain rfl : u = Value.none := rv
      exact ⟨none, H1, I1, by constructor, q⟩
theorem s_slc {lo hi : Option Expr} {il ih : Ex} {p2 : Pos} (ha : PE X a (tEv X.K F E ia)) (hl : PO X lo (tEvO X.K F E il)) (hh : PO X hi (tEvO X.K F E ih)) : PE X (.Subscript a (.Slice lo hi none p2) pos) (tEv X.K F E (.slc ia il ih)) := by
  refine (pe_slice (sl_E (E := E)) ha hl hh).monoE fun σ H Q h => ?_
  obtain ⟨ρ, S, β, sim, r, p⟩ := h
  unfold PV at p
  rw [ev] at p
  refine seqE sim r p fun d1 S1 β1 H1 v1 e1 sim1 r1 h1 p1 => ?_
  refine ⟨ρ, S1, β1, sim1, r1, p1.bind.mono (fun d2 S2 β2 H2 e2 r2 p2 => ?_) fun _ _ _ _ _ _ z => z⟩
  split at p2
  · rename_i l el
    refine ⟨l, el, ρ, S2, β2, sim1.mono r1 e2, r2, p2.bind.mono (fun d3 S3 β3 H3 e3 r3 p3 => ?_) fun _ _ _ _ _ _ z => z⟩
    split at p3
    · rename_i h eh
      exact ⟨h, eh, σ, β3, S3, d1, r3, (h1.mono r1 e2).mono r2 e3, p3⟩
    · exact p3.elim
  · exact p2.elim
end
end Ev
set_option Elab.async false
set_option linter.all false
set_option maxRecDepth 100000
/-! Eng9: calls, what is walked. -/
namespace Ev
open PySem L2

/-- what is raised, as HandS says it; cA: where the classes stand -/
def wOf (cA : Nat → Addr) (E : XW) : WX := fun cls d σ H => ∃ c, cls = .ref (cA c) ∧ d = none ∧ E c σ H
/-- a def's promise: what the evaluator says of it -/
def spF (K : PySem.W.Frag) (cA : Nat → Addr) (F : FS) (ar fid : Nat) : Sp := fun vs H Q E' => vs.length = ar ∧ ∃ ds S β, RVs K β H ds vs ∧ RS K β S H ∧
  Post K β S H (F fid ds S) (fun d S' β' H' => ∀ v, RV K β' H' d v → Q v H') (fun c _ _ H' => E' (.ref (cA c)) none H')

section
variable {K : PySem.W.Frag} {β β' : List Addr} {S S' : Store} {H H' : Hp}
theorem RS.nil {H : Hp} (t : LamX.Tabs (tabsOf K) H) : RS K [] [] H := ⟨rfl, List.nodup_nil, fun i o a h => by simp at h, t⟩
theorem mut_noTbl {u : HO} (h : mutO u = true) : noTbl u = true := by
  cases u <;> first | rfl | cases h
/-- out of a callee with a store of its own -/
theorem Ext.own (r : RS K β S H) (e : Ext [] [] H β' S' H') (r' : RS K β' S' H') : RS K β S H' ∧ Ext β S H β S H' := by
  have kp : ∀ b o, H b = some o → noTbl o = true → H' b = some o := fun b o q nt => e.keep b o q (fun z => nomatch z) nt
  have ex : Ext β S H β S H' := ⟨⟨[], by simp, fun _ h => nomatch h⟩, fun b o q _ nt => kp b o q nt, e.live, fun _ _ h => h, fun _ _ h => h⟩
  exact ⟨⟨r.len, r.nd, fun i o a h1 h2 => (r.obj i o a h1 h2).of_keep (fun _ _ h => h.mono r ex) (fun _ _ h => h.mono r ex) fun u q => kp a u q (by
    obtain ⟨w, hw, hm⟩ := r.mutB (List.mem_of_getElem? h2)
    rw [q] at hw; cases hw; exact mut_noTbl hm), r'.tab⟩, ex⟩
/-- .. with a new list of its own -/
theorem Ext.ownL (r : RS K β S H) (e : Ext [] [] H β' S' H') (r' : RS K β' S' H') {j : Nat} {xs : List D} {a : Addr} (hj : S'[j]? = some (.lst xs)) (ha : β'[j]? = some a) :
    RS K (β ++ [a]) (S ++ [.lst xs]) H' ∧ Ext β S H (β ++ [a]) (S ++ [.lst xs]) H' := by
  have kp : ∀ b o, H b = some o → noTbl o = true → H' b = some o := fun b o q nt => e.keep b o q (fun z => nomatch z) nt
  obtain ⟨new, eb, hn⟩ := e.pre
  have na : H a = none := hn a (by
    rw [List.nil_append] at eb
    rw [← eb]; exact List.mem_of_getElem? ha)
  obtain ⟨r1, e1⟩ := Ext.own r e r'
  obtain ⟨a', vs, ha', p, h1, h2⟩ := r'.lst hj
  rw [ha] at ha'; cases ha'
  have nab : a ∉ β := fun hb => by
    obtain ⟨u, q, _⟩ := r.mutB hb
    rw [na] at q; cases q
  have lt : ∀ {n : Nat} {o' : MO}, S[n]? = some o' → (S ++ [MO.lst xs])[n]? = some o' := fun {n o'} q => by
    rw [List.getElem?_append_left (List.getElem?_eq_some_iff.mp q).1]; exact q
  have ex : Ext β S H (β ++ [a]) (S ++ [.lst xs]) H' := ⟨⟨[a], rfl, fun b hb => by rw [List.mem_singleton.mp hb]; exact na⟩, fun b o q _ nt => kp b o q nt, e.live, fun _ _ q => lt q, fun _ _ q => lt q⟩
  refine ⟨⟨by simp [r.len], ?_, fun i o' b g1 g2 => ?_, r'.tab⟩, ex⟩
  · rw [List.nodup_append]
    exact ⟨r.nd, by simp, fun c hc d hd => by rw [List.mem_singleton.mp hd]; exact fun z => nab (z ▸ hc)⟩
  · by_cases hi : i < S.length
    · rw [List.getElem?_append_left hi] at g1
      rw [List.getElem?_append_left (by rw [r.len]; exact hi)] at g2
      exact (r.obj i o' b g1 g2).of_keep (fun _ _ h => h.mono r ex) (fun _ _ h => h.mono r ex) fun u q => kp b u q (by
        obtain ⟨w, hw, hm⟩ := r.mutB (List.mem_of_getElem? g2)
        rw [q] at hw; cases hw; exact mut_noTbl hm)
    · have hi' : i = S.length := by
        have := (List.getElem?_eq_some_iff.mp g1).1
        simp at this
        omega
      subst hi'
      have e1 : o' = .lst xs := by simpa using g1.symm
      have e2 : b = a := by
        rw [← r.len] at g2
        simpa using g2.symm
      rw [e1, e2]
      exact ⟨p, vs, h1, RVs.pureB xs vs p h2⟩
theorem closed_mem {n : Nat} {S : Store} (h : closedS n S = true) {i : Nat} {o : MO} (e : S[i]? = some o) : o.closed n = true := List.all_eq_true.mp h o (List.mem_of_getElem? e)
/-- only the first n objects are kept -/
theorem Ext.cut (r : RS K β S H) (e : Ext β S H β' S' H') (r' : RS K β' S' H') (hc : closedS S.length (S'.take S.length) = true) : RS K β (S'.take S.length) H' ∧ Ext β S H β (S'.take S.length) H' := by
  obtain ⟨new, eb, hn⟩ := e.pre
  have ll : S.length ≤ S'.length := by
    have h1 := r.len
    have h2 := r'.len
    rw [eb, List.length_append] at h2
    omega
  have tk : ∀ {n : Nat} {o : MO}, n < S.length → S'[n]? = some o → (S'.take S.length)[n]? = some o := fun {n o} hl q => by
    rw [List.getElem?_take_of_lt hl]; exact q
  have lb : ∀ (m : Nat) a, m < S.length → β'[m]? = some a → β[m]? = some a := fun m a hm q => by
    rw [eb, List.getElem?_append_left (by rw [r.len]; exact hm)] at q
    exact q
  refine ⟨⟨by rw [List.length_take, r.len]; omega, r.nd, fun i o a g1 g2 => ?_, r'.tab⟩, ⟨⟨[], by simp, fun _ h => nomatch h⟩, e.keep, e.live, fun n xs q => tk (List.getElem?_eq_some_iff.mp q).1 (e.frz n xs q), fun n xs q => tk (List.getElem?_eq_some_iff.mp q).1 (e.fdic n xs q)⟩⟩
  have hi : i < S.length := by rw [← r.len]; exact (List.getElem?_eq_some_iff.mp g2).1
  have g1' : S'[i]? = some o := by rw [List.getElem?_take_of_lt hi] at g1; exact g1
  have g2' : β'[i]? = some a := by rw [eb, List.getElem?_append_left (by rw [r.len]; exact hi)]; exact g2
  have ro := r'.obj i o a g1' g2'
  have cl := closed_mem hc g1
  have kv : ∀ (kvs : List (D × D)) (gs : List (Key × V)), (kvs.all fun kv => kv.2.low S.length) = true → RKs K β' H' kvs gs → RKs K β H' kvs gs := by
    intro kvs
    induction kvs with
    | nil => intro gs _ h; rw [RKs] at h ⊢; exact h
    | cons x t ih =>
      intro gs hl h
      obtain ⟨k, d⟩ := x
      rw [RKs] at h ⊢
      rw [List.all_cons, Bool.and_eq_true] at hl
      obtain ⟨s, v, t', e1, e2, h1, h2⟩ := h
      exact ⟨s, v, t', e1, e2, RV.lowB lb d v hl.1 h1, ih t' hl.2 h2⟩
  have fv : ∀ (fs : List (Nat × D)) (gs : List (Str × V)), (fs.all fun kv => kv.2.low S.length) = true → RFs K β' H' fs gs → RFs K β H' fs gs := by
    intro fs
    induction fs with
    | nil => intro gs _ h; rw [RFs] at h ⊢; exact h
    | cons x t ih =>
      intro gs hl h
      obtain ⟨k, d⟩ := x
      rw [RFs] at h ⊢
      rw [List.all_cons, Bool.and_eq_true] at hl
      obtain ⟨v, t', e1, e2, h1, h2⟩ := h
      exact ⟨v, t', e1, e2, RV.lowB lb d v hl.1 h1, ih t' hl.2 h2⟩
  cases o with
  | lst xs => obtain ⟨p, vs, q, z⟩ := ro; exact ⟨p, vs, q, RVs.pureB xs vs p z⟩
  | frz xs => obtain ⟨p, vs, q, z⟩ := ro; exact ⟨p, vs, q, RVs.pureB xs vs p z⟩
  | dic kvs => obtain ⟨gs, q, z⟩ := ro; exact ⟨gs, q, kv kvs gs cl z⟩
  | fdic kvs => obtain ⟨gs, q, z⟩ := ro; exact ⟨gs, q, kv kvs gs cl z⟩
  | ins c fs => obtain ⟨dx, gs, q, z⟩ := ro; exact ⟨dx, gs, q, fv fs gs cl z⟩
mutual
theorem pure_low : ∀ (n : Nat) (d : D), d.pure = true → d.low n = true
  | n, .non, _ => rfl | n, .bl _, _ => rfl | n, .int _, _ => rfl | n, .str _, _ => rfl
  | n, .tup xs, h => by rw [D.pure] at h; rw [D.low]; exact pure_lows n xs h
  | n, .lit xs, h => by rw [D.pure] at h; rw [D.low]; exact pure_lows n xs h
  | n, .loc _, h => by rw [D.pure] at h; cases h
theorem pure_lows : ∀ (n : Nat) (ds : List D), D.pureAll ds = true → D.lowAll n ds = true
  | n, [], _ => rfl
  | n, d :: ds, h => by
    rw [D.pureAll, Bool.and_eq_true] at h
    rw [D.lowAll, pure_low n d h.1, pure_lows n ds h.2]; rfl
end
/-- .. and a new list besides -/
theorem Ext.cutL (r : RS K β S H) (e : Ext β S H β' S' H') (r' : RS K β' S' H') (hc : closedS S.length (S'.take S.length) = true) {m : Nat} {xs : List D} {a : Addr} (hm : S.length ≤ m) (hj : S'[m]? = some (.lst xs)) (ha : β'[m]? = some a) :
    RS K (β ++ [a]) (S'.take S.length ++ [.lst xs]) H' ∧ Ext β S H (β ++ [a]) (S'.take S.length ++ [.lst xs]) H' := by
  obtain ⟨r1, e1⟩ := Ext.cut r e r' hc
  obtain ⟨new, eb, hn⟩ := e.pre
  have hlen : (S'.take S.length).length = S.length := by rw [← r1.len, r.len]
  have nab : a ∉ β := fun hb => by
    obtain ⟨n, hn1, hn2⟩ := List.mem_iff_getElem.mp hb
    have q : β'[n]? = some a := by
      rw [eb, List.getElem?_append_left hn1, List.getElem?_eq_getElem hn1, hn2]
    obtain ⟨l1, g1⟩ := List.getElem?_eq_some_iff.mp ha
    obtain ⟨l2, g2⟩ := List.getElem?_eq_some_iff.mp q
    have := (List.getElem_inj r'.nd).mp (g1.trans g2.symm)
    rw [r.len] at hn1
    omega
  have na : H a = none := hn a (by
    have h1 : a ∈ β' := List.mem_of_getElem? ha
    rw [eb] at h1
    rcases List.mem_append.mp h1 with h1 | h1
    · exact absurd h1 nab
    · exact h1)
  obtain ⟨a', vs, ha', p, h1, h2⟩ := r'.lst hj
  rw [ha] at ha'; cases ha'
  have lt : ∀ {n : Nat} {o' : MO}, (S'.take S.length)[n]? = some o' → (S'.take S.length ++ [MO.lst xs])[n]? = some o' := fun {n o'} q => by
    rw [List.getElem?_append_left (List.getElem?_eq_some_iff.mp q).1]; exact q
  have bb : ∀ (n : Nat) c, β[n]? = some c → (β ++ [a])[n]? = some c := fun n c q => by
    rw [List.getElem?_append_left (List.getElem?_eq_some_iff.mp q).1]; exact q
  refine ⟨⟨by simp [r1.len], ?_, fun i o' b g1 g2 => ?_, r'.tab⟩, ⟨⟨[a], rfl, fun b hb => by rw [List.mem_singleton.mp hb]; exact na⟩, e1.keep, e1.live, fun n xs q => lt (e1.frz n xs q), fun n xs q => lt (e1.fdic n xs q)⟩⟩
  · rw [List.nodup_append]
    exact ⟨r.nd, by simp, fun c hc d hd => by rw [List.mem_singleton.mp hd]; exact fun z => nab (z ▸ hc)⟩
  · by_cases hi : i < S.length
    · rw [List.getElem?_append_left (by rw [hlen]; exact hi)] at g1
      rw [List.getElem?_append_left (by rw [r.len]; exact hi)] at g2
      exact (r1.obj i o' b g1 g2).of_keep (fun d v h => RV.of_keep (fun _ _ q => q) (fun _ _ _ q => q) bb d v h) (fun d v h => RVs.of_keep (fun _ _ q => q) (fun _ _ _ q => q) bb d v h) fun u q => q
    · have hi' : i = S.length := by
        have := (List.getElem?_eq_some_iff.mp g1).1
        rw [List.length_append, hlen] at this
        simp at this
        omega
      subst hi'
      have e1 : o' = .lst xs := by
        rw [List.getElem?_append_right (by rw [hlen]; exact Nat.le_refl _), hlen] at g1
        simpa using g1.symm
      have e2 : b = a := by
        rw [← r.len] at g2
        simpa using g2.symm
      rw [e1, e2]
      exact ⟨p, vs, h1, RVs.pureB xs vs p h2⟩
/-- what is forgotten is not needed -/
theorem gc_post {E : Nat → Store → List Addr → Hp → Prop} {Q : VK} {d : D} (r : RS K β S H) (h : Post K β S H (gc S.length d S') (fun d S' β' H' => ∀ v, RV K β' H' d v → Q v H') E) (e : Ext β S H β' S' H') (r' : RS K β' S' H') (v : V) (hv : RV K β' H' d v) : Q v H' := by
  unfold gc at h
  split at h
  · exact h β' H' e r' v hv
  · split at h
    · rename_i hc
      obtain ⟨r1, e1⟩ := Ext.cut r e r' hc
      obtain ⟨new, eb, hn⟩ := e.pre
      split at h
      · rename_i hl
        refine h β H' e1 r1 v (RV.lowB (fun m a hm q => ?_) d v hl hv)
        rw [eb, List.getElem?_append_left (by rw [r.len]; exact hm)] at q
        exact q
      · rename_i hl
        split at h
        · rename_i m
          split at h
          · rename_i xs g
            have hm : S.length ≤ m := by
              rw [D.low] at hl
              have := of_decide_eq_false (by simpa using hl : decide (m < S.length) = false)
              omega
            rw [RV] at hv
            obtain ⟨a, rfl, ha⟩ := hv
            obtain ⟨r2, e2⟩ := Ext.cutL r e r' hc hm g ha
            refine h _ H' e2 r2 _ ?_
            rw [RV]
            refine ⟨a, rfl, ?_⟩
            rw [← r.len]
            simp
          · exact h β' H' e r' v hv
        · exact h β' H' e r' v hv
    · exact h β' H' e r' v hv
end

theorem evs_len {F : FS} {ρ : Env} : ∀ (es : Exs) {S S' : Store} {ds : List D}, evs F es ρ S = .ok ds S' → ds.length = es.len
  | .nil, S, S', ds, h => by rw [evs] at h; cases h; rfl
  | .cons e es, S, S', ds, h => by
    rw [evs] at h
    cases e1 : ev F e ρ S with
    | ok d S1 =>
      rw [e1] at h
      dsimp only [Out.bind] at h
      cases e2 : evs F es ρ S1 with
      | ok ds2 S2 =>
        rw [e2] at h
        cases h
        rw [List.length_cons, evs_len es e2, Exs.len]
      | exc c S2 => rw [e2] at h; cases h
      | bad => rw [e2] at h; cases h
    | exc c S1 => rw [e1] at h; cases h
    | bad => rw [e1] at h; cases h
theorem seqEsL {K : PySem.W.Frag} {F : FS} {E : XW} {β : List Addr} {S : Store} {H : Hp} {σ : L2.St} {ρ : Env} {α : Type} {es : Exs} {k : List D → Store → Out α} {Qk : α → Store → List Addr → Hp → Prop} {Q : List V → Hp → Prop} (sim : Sim K E.pin β H σ ρ) (r : RS K β S H) (p : Post K β S H ((evs F es ρ S).bind k) Qk (fun c _ _ H' => E c σ H'))
    (h : ∀ ds S1 β1 H1 vs, ds.length = es.len → Ext β S H β1 S1 H1 → Sim K E.pin β1 H1 σ ρ → RS K β1 S1 H1 → RVs K β1 H1 ds vs → Post K β1 S1 H1 (k ds S1) Qk (fun c _ _ H' => E c σ H') → Q vs H1) : tEvs K F E es σ H Q := by
  refine ⟨ρ, S, β, sim, r, ?_⟩
  have p' := p.bind
  cases eo : evs F es ρ S with
  | ok ds S1 =>
    rw [eo] at p'
    exact fun β1 H1 e1 r1 vs hv => h ds S1 β1 H1 vs (evs_len es eo) e1 (sim.mono r e1) r1 hv (p' β1 H1 e1 r1)
  | exc c S1 => rw [eo] at p'; exact p'
  | bad => rw [eo] at p'; exact p'

section
variable {X : Cx} {F : FS} {E : XW} {cA : Nat → Addr} {pos p : Pos} {x : Str}
/-- a call's outcome, in the caller's store -/
theorem callF_sp {K : PySem.W.Frag} {β : List Addr} {S : Store} {H : Hp} {σ : L2.St} {ds : List D} {vs : List V} {ar fid : Nat} {Q : VK} (hl : vs.length = ar) (r : RS K β S H) (hv : RVs K β H ds vs)
    (q : PV K E σ β S H (callF F fid ds S) Q) : spF K cA F ar fid vs H Q (WE (wOf cA E) σ) := by
  unfold callF at q
  split at q
  · rename_i hp
    refine ⟨hl, ds, [], [], RVs.pureB ds vs hp hv, RS.nil r.tab, ?_⟩
    cases eo : F fid ds [] with
    | bad => rw [eo] at q; exact q.elim
    | exc c S' =>
      rw [eo] at q
      intro β' H' e r'
      obtain ⟨r1, e1⟩ := Ext.own r e r'
      exact ⟨c, rfl, rfl, q β H' e1 r1⟩
    | ok d S' =>
      rw [eo] at q
      dsimp only at q
      unfold impD at q
      intro β' H' e r' v h
      split at q
      · rename_i hd
        obtain ⟨r1, e1⟩ := Ext.own r e r'
        exact q β H' e1 r1 v (RV.pureB d v hd h)
      · split at q
        · rename_i j
          split at q
          · rename_i xs g
            rw [RV] at h
            obtain ⟨a, rfl, ha⟩ := h
            obtain ⟨r1, e1⟩ := Ext.ownL r e r' g ha
            refine q _ H' e1 r1 _ ?_
            rw [RV]
            refine ⟨a, rfl, ?_⟩
            rw [← r.len]
            simp
          · exact q.elim
        · exact q.elim
  · refine ⟨hl, ds, S, β, hv, r, ?_⟩
    cases eo : F fid ds S with
    | bad => rw [eo] at q; exact q.elim
    | exc c S' =>
      rw [eo] at q
      intro β' H' e r'
      exact ⟨c, rfl, rfl, q β' H' e r'⟩
    | ok d S' =>
      rw [eo] at q
      intro β' H' e r' v h
      exact gc_post r q e r' v h
theorem s_call {k ar fid : Nat} {f : Addr} {fd : FuncData} {ps : List Str} {e : Expr} {es : List Expr} {ies : Exs} (G : FnOk X.prog X.w X.K X.mg X.base (L2.CX X.prog X.w) k f fd ps (spF X.K cA F ar fid)) (hr : Room k X.A) (hg : Gl X x) (hm : X.mg x = some (.ref f))
    (hk : PySem.W.keepIn X.K (.ref f) = true) (hb : Binds X.K fd ps []) (tk : Takes X (wOf cA E)) (ha : PA X (e :: es) (tEvs X.K F E ies)) (hdb : (x == ("__debug__" : Str)) = false) (hst : (e :: es).all notStar = true) (hl : ies.len = ar) :
    PE X (.Call (.Name x p) (e :: es) [] pos) (tEv X.K F E (.call fid ies)) := by
  rw [List.all_cons, Bool.and_eq_true] at hst
  refine (pe_callS G hr hg hm hk hb (fun σ => passAt tk σ) ha hdb (star_cons hst.1) (star_any hst.2)).monoE fun σ H Q h => ?_
  obtain ⟨ρ, S, β, sim, r, p⟩ := h
  unfold PV at p
  rw [ev] at p
  refine seqEsL sim r p fun ds S1 β1 H1 vs hd e1 sim1 r1 hvs p1 => ?_
  exact callF_sp (by rw [hvs.length, hd, hl]) r1 hvs p1
/-- f() -/
theorem s_call0 {k fid : Nat} {f : Addr} {fd : FuncData} {ps : List Str} (G : FnOk X.prog X.w X.K X.mg X.base (L2.CX X.prog X.w) k f fd ps (spF X.K cA F 0 fid)) (hr : Room k X.A) (hg : Gl X x) (hm : X.mg x = some (.ref f))
    (hk : PySem.W.keepIn X.K (.ref f) = true) (hb : Binds X.K fd ps []) (tk : Takes X (wOf cA E)) (hdb : (x == ("__debug__" : Str)) = false) :
    PE X (.Call (.Name x p) [] [] pos) (tEv X.K F E (.call fid .nil)) := by
  refine ⟨fun pins s σ H Q I h => ?_⟩
  refine wpAny_Call_Name_kw (ld_glob I hg hm ?_ hdb)
  refine PySem.W.callWith_K0 I.kIn hk (run_fnS (us := []) G hr hb (passAt tk σ) I .nil ?_)
  obtain ⟨ρ, S, β, sim, r, p⟩ := h
  unfold PV at p
  rw [ev, evs] at p
  exact callF_sp rfl r RVs.nil p

/-! ### built-in functions, types, methods -/
theorem s_biB {id : String} {b : Bi} {e : Expr} {es : List Expr} {ies : Exs} (hc : CallR X (.builtin id) (rDs X.K E (biD b))) (hg : Gl X x) (hm : X.mg x = none) (hv : bootBuiltins x = some (.builtin id)) (ha : PA X (e :: es) (tEvs X.K F E ies)) (hn : x ≠ "__name__")
    (hdb : (x == ("__debug__" : Str)) = false) (hst : (e :: es).all notStar = true) : PE X (.Call (.Name x p) (e :: es) [] pos) (tEv X.K F E (.bi b ies)) := by
  rw [List.all_cons, Bool.and_eq_true] at hst
  refine (pe_callB hc hg hm hv ha hn hdb (star_cons hst.1) (star_any hst.2)).monoE fun σ H Q h => ?_
  obtain ⟨ρ, S, β, sim, r, p⟩ := h
  unfold PV at p
  rw [ev] at p
  refine seqEs sim r p fun ds S1 β1 H1 vs e1 sim1 r1 hvs p1 => ?_
  exact ⟨σ, β1, S1, ds, r1, hvs, p1⟩
theorem s_biT {id : String} {b : Bi} {e : Expr} {es : List Expr} {ies : Exs} (hc : CallR X (.type id) (rDs X.K E (biD b))) (hg : Gl X x) (hm : X.mg x = none) (hv : bootBuiltins x = some (.type id)) (ha : PA X (e :: es) (tEvs X.K F E ies)) (hn : x ≠ "__name__")
    (hdb : (x == ("__debug__" : Str)) = false) (hst : (e :: es).all notStar = true) : PE X (.Call (.Name x p) (e :: es) [] pos) (tEv X.K F E (.bi b ies)) := by
  rw [List.all_cons, Bool.and_eq_true] at hst
  refine (pe_callTy hc hg hm hv ha hn hdb (star_cons hst.1) (star_any hst.2)).monoE fun σ H Q h => ?_
  obtain ⟨ρ, S, β, sim, r, p⟩ := h
  unfold PV at p
  rw [ev] at p
  refine seqEs sim r p fun ds S1 β1 H1 vs e1 sim1 r1 hvs p1 => ?_
  exact ⟨σ, β1, S1, ds, r1, hvs, p1⟩
end
section
variable {X : Cx} {F : FS} {E : XW} {pos apos : Pos} {o : Expr} {io : Ex}
theorem tyV_str {K : PySem.W.Frag} {β : List Addr} {H : Hp} {s : List Nat} {v : V} (h : RV K β H (.str s) v) : tyV K "str" v H := by
  rw [RV] at h; subst h; exact rfl
/-- o.m(e): the receiver's type is told by the operation, whatever the argument comes to -/
theorem s_m1 {name : Str} {T id : String} {m : Me} {f : D → D → Store → Out D} {e : Expr} {ie : Ex} (pa : PlainAttrs T) (slot : Slot T name id) (hty : typeOf (.builtin id) = pure (.type "method_descriptor")) (hm : MtR X id (rM1 X.K E f))
    (hf : ∀ a, methD m a = one (f a)) (ty : ∀ {β : List Addr} {S : Store} {H : Hp} {a : D} {v : V}, RS X.K β S H → RV X.K β H a v → tyOk m S a = true → tyV X.K T v H)
    (ho : PE X o (tEv X.K F E io)) (he : PE X e (tEv X.K F E ie)) (hn : notCall o = true) (hline : (apos.endLine == pos.line) = true) (hst : notStar e = true) :
    PE X (.Call (.Attribute o name apos) [e] [] pos) (tEv X.K F E (.meth m io (.cons ie .nil))) := by
  have hst' : ([e] : List Expr).all notStar = true := by simp [hst]
  refine (pe_bm pa slot hty hm ho (s_cons he s_nil hst) (attr_base hn _) ?_ hline (star_cons hst) rfl).monoE fun σ H Q h => ?_
  · rw [star_all hst']
    rfl
  · obtain ⟨ρ, S, β, sim, r, p⟩ := h
    unfold PV at p
    rw [ev] at p
    refine seqE sim r p fun a S1 β1 H1 v e1 sim1 r1 hv p1 => ?_
    split at p1
    · rename_i ht
      refine ⟨ty r1 hv ht, seqEs sim1 r1 p1 fun ds S2 β2 H2 vs e2 sim2 r2 hvs p2 => ?_⟩
      rw [hf] at p2
      unfold one at p2
      split at p2
      · obtain ⟨w, rfl, hw⟩ := hvs.one_of
        exact ⟨σ, β2, S2, a, _, w, r2, rfl, hv.mono r1 e2, hw, p2⟩
      · exact p2.elim
    · exact p1.elim
theorem s_m2 {name : Str} {T id : String} {m : Me} {f : D → D → D → Store → Out D} {e g : Expr} {ie ig : Ex} (pa : PlainAttrs T) (slot : Slot T name id) (hty : typeOf (.builtin id) = pure (.type "method_descriptor"))
    (hm : MtR X id (fun x xs H Q => ∃ σ β S a d e v w, RS X.K β S H ∧ xs = [v, w] ∧ RV X.K β H a x ∧ RV X.K β H d v ∧ RV X.K β H e w ∧ PV X.K E σ β S H (f a d e S) Q))
    (hf : ∀ a, methD m a = two (f a)) (ty : ∀ {β : List Addr} {S : Store} {H : Hp} {a : D} {v : V}, RS X.K β S H → RV X.K β H a v → tyOk m S a = true → tyV X.K T v H)
    (ho : PE X o (tEv X.K F E io)) (he : PE X e (tEv X.K F E ie)) (hg : PE X g (tEv X.K F E ig)) (hn : notCall o = true) (hline : (apos.endLine == pos.line) = true) (hst : notStar e = true) (hst2 : notStar g = true) :
    PE X (.Call (.Attribute o name apos) [e, g] [] pos) (tEv X.K F E (.meth m io (.cons ie (.cons ig .nil)))) := by
  have hst' : ([e, g] : List Expr).all notStar = true := by simp [hst, hst2]
  have hst2' : ([g] : List Expr).all notStar = true := by simp [hst2]
  refine (pe_bm pa slot hty hm ho (s_cons he (s_cons hg s_nil hst2) hst) (attr_base hn _) ?_ hline (star_cons hst) (star_any hst2')).monoE fun σ H Q h => ?_
  · rw [star_all hst']
    rfl
  · obtain ⟨ρ, S, β, sim, r, p⟩ := h
    unfold PV at p
    rw [ev] at p
    refine seqE sim r p fun a S1 β1 H1 v e1 sim1 r1 hv p1 => ?_
    split at p1
    · rename_i ht
      refine ⟨ty r1 hv ht, seqEs sim1 r1 p1 fun ds S2 β2 H2 vs e2 sim2 r2 hvs p2 => ?_⟩
      rw [hf] at p2
      unfold two at p2
      split at p2
      · obtain ⟨w, u, rfl, hw, hu⟩ := hvs.two_of
        exact ⟨σ, β2, S2, a, _, _, w, u, r2, rfl, hv.mono r1 e2, hw, hu, p2⟩
      · exact p2.elim
    · exact p1.elim
theorem ty_str {m : Me} (hm : ∀ S a, tyOk m S a = isStr a) {K : PySem.W.Frag} {β : List Addr} {S : Store} {H : Hp} {a : D} {v : V} (r : RS K β S H) (h : RV K β H a v) (t : tyOk m S a = true) : tyV K "str" v H := by
  rw [hm] at t
  cases a with
  | str s => exact tyV_str h
  | _ => exact nomatch t
theorem ty_list {m : Me} (hm : ∀ S a, tyOk m S a = (listOf S a).isSome) {K : PySem.W.Frag} {β : List Addr} {S : Store} {H : Hp} {a : D} {v : V} (r : RS K β S H) (h : RV K β H a v) (t : tyOk m S a = true) : tyV K "list" v H := by
  rw [hm] at t
  cases e : listOf S a with
  | none => rw [e] at t; cases t
  | some xs =>
    obtain ⟨p, vs, rfl, sq, _⟩ := r.list h e
    exact .inl ⟨rfl, vs, sq⟩
theorem ty_dict {m : Me} (hm : ∀ S a, tyOk m S a = isDic S a) {K : PySem.W.Frag} {β : List Addr} {S : Store} {H : Hp} {a : D} {v : V} (r : RS K β S H) (h : RV K β H a v) (t : tyOk m S a = true) : tyV K "dict" v H := by
  rw [hm] at t
  cases a with
  | loc n =>
    rw [RV] at h
    obtain ⟨p, rfl, ha⟩ := h
    simp only [isDic] at t
    split at t
    · rename_i kvs g
      obtain ⟨a', ha', gs, e', z⟩ := r.at g
      rw [ha] at ha'; cases ha'
      exact .inr (.inr (.inl ⟨rfl, .inl ⟨gs, e'⟩⟩))
    · cases t
  | _ => exact nomatch t
theorem s_split {e : Expr} {ie : Ex} (ho : PE X o (tEv X.K F E io)) (he : PE X e (tEv X.K F E ie)) (hn : notCall o = true) (hline : (apos.endLine == pos.line) = true) (hst : notStar e = true) :
    PE X (.Call (.Attribute o "split" apos) [e] [] pos) (tEv X.K F E (.meth .split io (.cons ie .nil))) :=
  s_m1 PySem.F.plainAttrs_str PySem.F.slot_str_split PySem.F.type_str_split mt_splitE (fun _ => rfl) (ty_str fun _ _ => rfl) ho he hn hline hst
end
end Ev
set_option Elab.async false
set_option linter.all false
set_option maxRecDepth 100000
/-! Eng10: isinstance, what is walked. -/
namespace Ev
open PySem L2

section
variable {X : Cx} {F : FS} {E : XW} {pos p : Pos} {a : Expr} {ia : Ex}
theorem s_isi1 {n : Str} {t : Ty} {p2 : Pos} (ha : PE X a (tEv X.K F E ia)) (hst : notStar a = true) (hg : Gl X "isinstance") (hm : X.mg "isinstance" = none) (hgn : Gl X n) (hmn : X.mg n = none) (hv : bootBuiltins n = some (.type (tyN t))) (hn : n ≠ "__name__") (hd : (n == ("__debug__" : Str)) = false) :
    PE X (.Call (.Name "isinstance" p) [a, .Name n p2] [] pos) (tEv X.K F E (.isi ia [t])) := by
  refine (pe_callB call_isi hg hm PyProof.Rows.boot_isinstance (pa_cons ha (pa_cons (pe_bltn (v := .ty (tyN t)) hgn hmn hv rfl hn hd) pa_nil) (star_cons hst)) (by decide) (by decide) (star_cons hst) rfl).monoE fun σ H Q h => ?_
  obtain ⟨ρ, S, β, sim, r, p⟩ := h
  unfold PV at p
  rw [ev] at p
  refine seqE sim r p fun d S1 β1 H1 v e1 sim1 r1 hv p1 => ?_
  obtain ⟨b, eb, q⟩ := blO_ok (E := E) (σ := σ) r1 p1
  simp only [isTys] at eb
  cases e : isTy S1 d t with
  | none => rw [e] at eb; cases eb
  | some b' =>
    rw [e] at eb
    have hb : b' = b := by cases b' <;> simpa using eb
    subst hb
    obtain ⟨T, h1, h2, _⟩ := isTy_run r1 hv e
    exact ⟨v, .ty (tyN t), T, .type (tyN t), b', rfl, .ty _, h1, h2, q⟩
theorem s_isi2 {n1 n2 : Str} {t1 t2 : Ty} {p1 p2 p3 : Pos} {k : Nat} (ha : PE X a (tEv X.K F E ia)) (hst : notStar a = true) (hg : Gl X "isinstance") (hm : X.mg "isinstance" = none)
    (hg1 : Gl X n1) (hm1 : X.mg n1 = none) (hv1 : bootBuiltins n1 = some (.type (tyN t1))) (hn1 : n1 ≠ "__name__") (hd1 : (n1 == ("__debug__" : Str)) = false)
    (hg2 : Gl X n2) (hm2 : X.mg n2 = none) (hv2 : bootBuiltins n2 = some (.type (tyN t2))) (hn2 : n2 ≠ "__name__") (hd2 : (n2 == ("__debug__" : Str)) = false) :
    PE X (.Call (.Name "isinstance" p) [a, .Tuple [.Name n1 p1, .Name n2 p2] k p3] [] pos) (tEv X.K F E (.isi ia [t1, t2])) := by
  refine (pe_callB call_isiT hg hm PyProof.Rows.boot_isinstance (pa_cons ha (pa_cons (pe_tup (pa_cons (pe_bltn (v := .ty (tyN t1)) hg1 hm1 hv1 rfl hn1 hd1) (pa_cons (pe_bltn (v := .ty (tyN t2)) hg2 hm2 hv2 rfl hn2 hd2) pa_nil))) pa_nil) (star_cons hst)) (by decide) (by decide) (star_cons hst) rfl).monoE fun σ H Q h => ?_
  obtain ⟨ρ, S, β, sim, r, p⟩ := h
  unfold PV at p
  rw [ev] at p
  refine seqE sim r p fun d S1 β1 H1 v e1 sim1 r1 hv p1 => ?_
  refine ⟨by show 2 ≤ sizeLine; decide, fun tp np => ?_⟩
  obtain ⟨r2, e2⟩ := r1.aside (o := .tup [.ty (tyN t1), .ty (tyN t2)]) np
  have hv2' := hv.mono r1 e2
  cases eb : isTys S1 d [t1, t2] with
  | none => rw [eb] at p1; exact p1.elim
  | some b =>
    rw [eb] at p1
    have e0 : ∃ b0, isTy S1 d t1 = some b0 := by
      cases e : isTy S1 d t1 with
      | none => simp only [isTys, e] at eb; cases eb
      | some b0 => exact ⟨b0, rfl⟩
    obtain ⟨b0, e0⟩ := e0
    obtain ⟨T, h1, _, h3⟩ := isTy_run r2 hv2' e0
    refine ⟨v, tp, [.ty (tyN t1), .ty (tyN t2)], T, [.type (tyN t1), .type (tyN t2)], b, rfl, upd_same, .cons (.ty _) (.cons (.ty _) .nil), h1, isTys_run h3 eb, ?_⟩
    exact p1 β1 _ e2 r2 _ (by rw [RV])
end

/-! ### what is walked -/
/-- J yields the items of w, wherever it goes on -/
structure WalkOk (K : PySem.W.Frag) (w : Items) (β0 : List Addr) (S0 : Store) (H0 : Hp) (J : L2.It) : Prop where
  go : ∀ β S H, Ext β0 S0 H0 β S H → RS K β S H → ∀ (i : Nat) d, w.xs[i]? = some d → J.go i H ∧ ∀ x H', J.yld i H x H' → RS K β S H' ∧ Ext β S H β S H' ∧ RV K β H' d x
  stop : ∀ β S H, Ext β0 S0 H0 β S H → RS K β S H → ∀ i, w.xs.length ≤ i → J.stop i H
section
variable {K : PySem.W.Frag} {β : List Addr} {S : Store} {H : Hp} {ds : List D} {l : Option Nat}
/-- a list that is read the same at each turn -/
theorem walk_list {a : Addr} (h : ∀ β1 S1 H1, Ext β S H β1 S1 H1 → RS K β1 S1 H1 → ∃ vs, SqL K H1 a vs ∧ RVs K β1 H1 ds vs) : WalkOk K ⟨ds, l⟩ β S H (Itl K a) := by
  refine ⟨fun β1 S1 H1 e1 r1 i d hd => ?_, fun β1 S1 H1 e1 r1 i hi => ?_⟩
  · obtain ⟨vs, sq, z⟩ := h β1 S1 H1 e1 r1
    obtain ⟨v, gv, rv⟩ := z.get hd
    refine ⟨⟨vs, v, sq, gv⟩, fun x H' y => ?_⟩
    obtain ⟨rfl, f⟩ := y
    have := f vs sq
    rw [gv] at this
    cases this
    exact ⟨r1, .refl, rv⟩
  · obtain ⟨vs, sq, z⟩ := h β1 S1 H1 e1 r1
    exact ⟨vs, sq, by rw [z.length]; exact hi⟩
theorem walk_tup {a : Addr} (r : RS K β S H) (h : RV K β H (.tup ds) (.ref a)) : WalkOk K ⟨ds, l⟩ β S H (Itt K a) := by
  have g : ∀ β1 S1 H1, Ext β S H β1 S1 H1 → ∃ vs, SqT K H1 a vs ∧ RVs K β1 H1 ds vs := fun β1 S1 H1 e1 => by
    have h' := h.mono r e1
    rw [RV] at h'
    obtain ⟨a', vs, e, q, z⟩ := h'
    cases e
    exact ⟨vs, q, z⟩
  refine ⟨fun β1 S1 H1 e1 r1 i d hd => ?_, fun β1 S1 H1 e1 r1 i hi => ?_⟩
  · obtain ⟨vs, sq, z⟩ := g β1 S1 H1 e1
    obtain ⟨v, gv, rv⟩ := z.get hd
    refine ⟨⟨vs, v, sq, gv⟩, fun x H' y => ?_⟩
    obtain ⟨rfl, f⟩ := y
    have := f vs sq
    rw [gv] at this
    cases this
    exact ⟨r1, .refl, rv⟩
  · obtain ⟨vs, sq, z⟩ := g β1 S1 H1 e1
    exact ⟨vs, sq, by rw [z.length]; exact hi⟩
theorem walk_str (s : List Nat) : WalkOk K ⟨s.map fun c => .str [c], l⟩ β S H (Its (sA s)) := by
  refine ⟨fun β1 S1 H1 e1 r1 i d hd => ?_, fun β1 S1 H1 e1 r1 i hi => ?_⟩
  · rw [List.getElem?_map] at hd
    obtain ⟨c, hc, rfl⟩ := Option.map_eq_some_iff.mp hd
    refine ⟨by
      show i < (sA s).cps.size
      simpa using (List.getElem?_eq_some_iff.mp hc).1, fun x H' y => ?_⟩
    obtain ⟨rfl, c', hc', rfl⟩ := y
    have : c' = c := by
      have q : s[i]? = some c' := by simpa using hc'
      rw [hc] at q
      exact (Option.some.inj q).symm
    subst this
    exact ⟨r1, .refl, by rw [RV]⟩
  · show (sA s).cps.size ≤ i
    simpa using hi
theorem upFrom_get : ∀ (n : Nat) (lo : Int) (i : Nat), (upFrom lo n)[i]? = if i < n then some (.int (lo + i)) else none
  | 0, lo, i => by rw [upFrom]; simp
  | n + 1, lo, i => by
    rw [upFrom]
    cases i with
    | zero => simp
    | succ i =>
      rw [List.getElem?_cons_succ, upFrom_get n (lo + 1) i]
      by_cases h : i < n
      · rw [if_pos h, if_pos (by omega)]
        congr 2
        omega
      · rw [if_neg h, if_neg (by omega)]
theorem upFrom_len (lo : Int) (n : Nat) : (upFrom lo n).length = n := by
  induction n generalizing lo with
  | zero => rfl
  | succ n ih => rw [upFrom, List.length_cons, ih]
theorem walk_range (lo : Int) (n : Nat) : WalkOk K ⟨upFrom lo n, l⟩ β S H (Itr lo n) := by
  refine ⟨fun β1 S1 H1 e1 r1 i d hd => ?_, fun β1 S1 H1 e1 r1 i hi => ?_⟩
  · rw [upFrom_get] at hd
    split at hd
    · rename_i hi
      cases hd
      refine ⟨hi, fun x H' y => ?_⟩
      obtain ⟨rfl, rfl⟩ := y
      exact ⟨r1, .refl, by rw [RV]⟩
    · cases hd
  · rw [upFrom_len] at hi; exact hi
theorem zipD_get : ∀ (xs ys : List D) (i : Nat) (d : D), (zipD xs ys)[i]? = some d → ∃ x y, xs[i]? = some x ∧ ys[i]? = some y ∧ d = .tup [x, y]
  | [], ys, i, d, h => by simp [zipD] at h
  | x :: xs, [], i, d, h => by simp [zipD] at h
  | x :: xs, y :: ys, i, d, h => by
    rw [zipD] at h
    cases i with
    | zero => simp at h; exact ⟨x, y, rfl, rfl, h.symm⟩
    | succ i => simpa using zipD_get xs ys i d (by simpa using h)
theorem zipD_len : ∀ (xs ys : List D), (zipD xs ys).length = min xs.length ys.length
  | [], ys => by simp [zipD]
  | x :: xs, [] => by simp [zipD]
  | x :: xs, y :: ys => by rw [zipD, List.length_cons, zipD_len xs ys, List.length_cons, List.length_cons]; omega
theorem walk_zipT {a b : Addr} {es : List D} (r : RS K β S H) (h : RV K β H (.tup ds) (.ref a)) (h' : RV K β H (.tup es) (.ref b)) : WalkOk K ⟨zipD ds es, l⟩ β S H (RZ.ItzT K a b) := by
  have g : ∀ {ds : List D} {a : Addr} β1 S1 H1, RV K β H (.tup ds) (.ref a) → Ext β S H β1 S1 H1 → ∃ vs, SqT K H1 a vs ∧ RVs K β1 H1 ds vs := fun {ds a} β1 S1 H1 h e1 => by
    have h' := h.mono r e1
    rw [RV] at h'
    obtain ⟨a', vs, e, q, z⟩ := h'
    cases e
    exact ⟨vs, q, z⟩
  refine ⟨fun β1 S1 H1 e1 r1 i d hd => ?_, fun β1 S1 H1 e1 r1 i hi => ?_⟩
  · obtain ⟨vs, sq, z⟩ := g β1 S1 H1 h e1
    obtain ⟨ws, sq2, z2⟩ := g β1 S1 H1 h' e1
    obtain ⟨x, y, hx, hy, rfl⟩ := zipD_get ds es i d hd
    obtain ⟨v, gv, rv⟩ := z.get hx
    obtain ⟨w, gw, rw'⟩ := z2.get hy
    refine ⟨⟨vs, ws, v, w, sq, sq2, gv, gw⟩, fun u H' yy => ?_⟩
    obtain ⟨T, x', y', rfl, nT, rfl, f1, f2⟩ := yy
    have q1 := f1 vs sq
    rw [gv] at q1
    cases q1
    have q2 := f2 ws sq2
    rw [gw] at q2
    cases q2
    obtain ⟨r2, e2⟩ := r1.aside (o := .tup [v, w]) nT
    refine ⟨r2, e2, ?_⟩
    rw [RV]
    exact ⟨T, _, rfl, .of upd_same, (RVs.cons rv (RVs.one rw')).mono r1 e2⟩
  · obtain ⟨vs, sq, z⟩ := g β1 S1 H1 h e1
    obtain ⟨ws, sq2, z2⟩ := g β1 S1 H1 h' e1
    rw [zipD_len] at hi
    refine ⟨vs, ws, sq, sq2, ?_⟩
    rw [z.length, z2.length]
    omega
end
/-- what is locked was not locked ahead -/
def LockOk (S : Store) (l : Option Nat) : Prop := ∀ m, l = some m → (∀ xs, S[m]? ≠ some (.frz xs)) ∧ ∀ xs, S[m]? ≠ some (.fdic xs)
theorem LockOk.none {S : Store} : LockOk S none := fun _ h => nomatch h
def tEvI (K : PySem.W.Frag) (F : FS) (E : XW) (it : It) : TI := fun σ H R => ∃ ρ S β, Sim K E.pin β H σ ρ ∧ RS K β S H ∧
  Post K β S H (evIt F it ρ S) (fun w S' β' H' => ∀ J, WalkOk K w β' S' H' J → LockOk S w.lock → R J H') (fun c _ _ H' => E c σ H')
section
variable {X : Cx} {F : FS} {E : XW} {tg a b : Expr} {ia ib : Ex} {pos p : Pos}
/-- whatever the value is: a list, a tuple, a text -/
theorem pi_any {l : Expr} {tl : TE} (hl : PE X l tl) : PI X tg l (fun σ H R => tl σ H fun x H1 => (∃ a xs, x = .ref a ∧ SqL X.K H1 a xs ∧ R (Itl X.K a) H1) ∨ (∃ a xs, x = .ref a ∧ SqT X.K H1 a xs ∧ R (Itt X.K a) H1) ∨ (∃ z, x = .str z ∧ R (Its z) H1)) := by
  refine ⟨fun pins s σ H R I h => ?_⟩
  refine thn (hl.run pins s σ H _ I h) fun v s1 ⟨x, H1, I1, r1, q1⟩ => ?_
  rcases q1 with ⟨a, xs, rfl, hq, q⟩ | ⟨a, xs, rfl, hq, q⟩ | ⟨z, rfl, q⟩
  · cases r1
    obtain ⟨its, rv, p, hz⟩ := I1.list hq
    refine wpAny_pyIter_list p.isList ?_
    refine ⟨s1.heap.objs.size, [s1.heap.objs.size], _, _, H1, rfl, I1.kept (t' := s1.toks) fun b o e => Heap.get?_push_of_some _ e, turn_list a _, ⟨_, Heap.get?_push_size _ rfl, rfl, rfl⟩, fun b hb => ?_, q⟩
    have e : b = s1.heap.objs.size := by simpa using hb
    subst e
    exact I1.fpOk (Nat.le_refl _) (I1.hok.fresh (Nat.le_refl _))
  · cases r1
    obtain ⟨its, rv, p, hz⟩ := I1.tuple hq
    refine wpAny_pyIter_tuple (show s1.heap.IsTuple a its.toArray from p) ?_
    refine ⟨s1.heap.objs.size, [s1.heap.objs.size], _, _, H1, rfl, I1.kept (t' := s1.toks) fun b o e => Heap.get?_push_of_some _ e, turn_tuple a _, ⟨_, Heap.get?_push_size _ rfl, rfl, rfl⟩, fun b hb => ?_, q⟩
    have e : b = s1.heap.objs.size := by simpa using hb
    subst e
    exact I1.fpOk (Nat.le_refl _) (I1.hok.fresh (Nat.le_refl _))
  · obtain ⟨t, rfl⟩ := r1
    cases ha : z.cps.all (· < 128)
    · exact wpAny_pyIter_wide ha (pi_one (tk := s1.toks) I1 _ (turn_str _ z t "str_iterator" (.inr rfl)) ⟨_, Heap.get?_push_size _ rfl, rfl, rfl⟩ q)
    · exact wpAny_pyIter_ascii ha (pi_one (tk := s1.toks) I1 _ (turn_str _ z t "str_ascii_iterator" (.inl rfl)) ⟨_, Heap.get?_push_size _ rfl, rfl, rfl⟩ q)
/-- a list as it is walked: a new one, one that is locked -/
theorem walkOf_run {K : PySem.W.Frag} {β β1 : List Addr} {S S1 : Store} {H H1 : Hp} {d : D} {x : V} {E' : Nat → Store → List Addr → Hp → Prop} {R : L2.It → Hp → Prop} (r : RS K β S H) (e1 : Ext β S H β1 S1 H1) (r1 : RS K β1 S1 H1) (hv : RV K β1 H1 d x)
    (p : Post K β S H (walkOf S.length d S1) (fun w S' β' H' => ∀ J, WalkOk K w β' S' H' J → LockOk S w.lock → R J H') E') :
    (∃ a xs, x = .ref a ∧ SqL K H1 a xs ∧ R (Itl K a) H1) ∨ (∃ a xs, x = .ref a ∧ SqT K H1 a xs ∧ R (Itt K a) H1) ∨ (∃ z, x = .str z ∧ R (Its z) H1) := by
  unfold walkOf at p
  split at p
  · have hv' := hv
    rw [RV] at hv'
    obtain ⟨a, vs, rfl, q, z⟩ := hv'
    exact .inr (.inl ⟨a, vs, rfl, q, p β1 H1 e1 r1 _ (walk_tup r1 hv) .none⟩)
  · have hv' := hv
    rw [RV] at hv'
    obtain ⟨a, vs, rfl, q, z⟩ := hv'
    refine .inl ⟨a, vs, rfl, q.sq, p β1 H1 e1 r1 _ (walk_list fun β2 S2 H2 e2 r2 => ?_) .none⟩
    have h' := hv.mono r1 e2
    rw [RV] at h'
    obtain ⟨a', vs', e, q', z'⟩ := h'
    cases e
    exact ⟨vs', q'.sq, z'⟩
  · rename_i s
    rw [RV] at hv
    exact .inr (.inr ⟨sA s, hv, p β1 H1 e1 r1 _ (walk_str s) .none⟩)
  · rename_i m
    rw [RV] at hv
    obtain ⟨a, rfl, ha⟩ := hv
    split at p
    · rename_i xs g
      obtain ⟨a', vs, ha', pu, h1, z⟩ := r1.lst g
      rw [ha] at ha'; cases ha'
      split at p
      · rename_i hc
        rw [Bool.and_eq_true] at hc
        have hm : S.length ≤ m := of_decide_eq_true hc.1
        obtain ⟨r2, e2⟩ := Ext.cut r e1 r1 hc.2
        have nab : a ∉ β := fun hb => by
          obtain ⟨new, eb, hn⟩ := e1.pre
          obtain ⟨n, hn1, hn2⟩ := List.mem_iff_getElem.mp hb
          have q : β1[n]? = some a := by
            rw [eb, List.getElem?_append_left hn1, List.getElem?_eq_getElem hn1, hn2]
          obtain ⟨l1, g1⟩ := List.getElem?_eq_some_iff.mp ha
          obtain ⟨l2, g2⟩ := List.getElem?_eq_some_iff.mp q
          have := (List.getElem_inj r1.nd).mp (g1.trans g2.symm)
          rw [r.len] at hn1
          omega
        refine .inl ⟨a, vs, rfl, .of h1, p β H1 e2 r2 _ (walk_list fun β3 S3 H3 e3 r3 => ⟨vs, .of (e3.keep a _ h1 nab rfl), ?_⟩) .none⟩
        exact (RVs.pureB (β' := β) xs vs pu z).mono r2 e3
      · obtain ⟨r2, e2⟩ : RS K β1 (S1.set m (.frz xs)) H1 ∧ Ext β1 S1 H1 β1 (S1.set m (.frz xs)) H1 := by
          refine ⟨r1.label fun b hb => ?_, ⟨⟨[], by simp, fun _ h => nomatch h⟩, fun _ _ h _ _ => h, fun _ h => h, fun n ys q => ?_, fun n ys q => ?_⟩⟩
          · rw [ha] at hb; cases hb
            exact ⟨pu, vs, h1, z⟩
          · have hn : m ≠ n := fun zz => by subst zz; rw [g] at q; cases q
            rw [List.getElem?_set_ne hn]; exact q
          · have hn : m ≠ n := fun zz => by subst zz; rw [g] at q; cases q
            rw [List.getElem?_set_ne hn]; exact q
        have hl : m < S1.length := (List.getElem?_eq_some_iff.mp g).1
        refine .inl ⟨a, vs, rfl, .of h1, p β1 H1 (e1.trans e2) r2 _ (walk_list fun β3 S3 H3 e3 r3 => ?_) fun m' hm' => (by
          cases hm'
          exact ⟨fun ys q => (by rw [e1.frz m ys q] at g; cases g), fun ys q => (by rw [e1.fdic m ys q] at g; cases g)⟩)⟩
        have g3 : S3[m]? = some (.frz xs) := e3.frz m xs (List.getElem?_set_self hl)
        obtain ⟨a3, vs3, ha3, _, h3, z3⟩ := r3.frz g3
        obtain ⟨new, eb, _⟩ := e3.pre
        have : a3 = a := by
          rw [eb, List.getElem?_append_left (List.getElem?_eq_some_iff.mp ha).1, ha] at ha3
          exact (Option.some.inj ha3).symm
        subst this
        exact ⟨vs3, .of h3, z3⟩
    · rename_i xs g
      obtain ⟨a', vs, ha', pu, h1, z⟩ := r1.frz g
      rw [ha] at ha'; cases ha'
      refine .inl ⟨a, vs, rfl, .of h1, p β1 H1 e1 r1 _ (walk_list fun β3 S3 H3 e3 r3 => ?_) .none⟩
      have g3 : S3[m]? = some (.frz xs) := e3.frz m xs g
      obtain ⟨a3, vs3, ha3, _, h3, z3⟩ := r3.frz g3
      obtain ⟨new, eb, _⟩ := e3.pre
      have : a3 = a := by
        rw [eb, List.getElem?_append_left (List.getElem?_eq_some_iff.mp ha).1, ha] at ha3
        exact (Option.some.inj ha3).symm
      subst this
      exact ⟨vs3, .of h3, z3⟩
    · exact p.elim
  · exact p.elim
theorem i_of (ha : PE X a (tEv X.K F E ia)) : PI X tg a (tEvI X.K F E (.of ia)) := by
  refine (pi_any ha).monoE fun σ H R h => ?_
  obtain ⟨ρ, S, β, sim, r, p⟩ := h
  rw [evIt] at p
  refine ⟨ρ, S, β, sim, r, ?_⟩
  cases eo : ev F ia ρ S with
  | ok d S1 =>
    rw [eo] at p
    intro β1 H1 e1 r1 v hv
    exact walkOf_run r e1 r1 hv p
  | exc c S1 => rw [eo] at p; exact p
  | bad => rw [eo] at p; exact p
theorem sm62_of {i : Int} (h : sm62 i = true) : -(2 ^ 62) ≤ i ∧ i < 2 ^ 62 := by
  unfold sm62 at h
  rw [Bool.and_eq_true] at h
  exact ⟨of_decide_eq_true h.1, of_decide_eq_true h.2⟩
theorem i_range1 (hg : Gl X "range") (hm : X.mg "range" = none) (ha : PE X a (tEv X.K F E ia)) (hst : notStar a = true) : PI X tg (.Call (.Name "range" p) [a] [] pos) (tEvI X.K F E (.range1 ia)) := by
  refine (pi_range1 hg hm (pa_cons ha pa_nil (star_cons hst)) (star_cons hst)).monoE fun σ H R h => ?_
  obtain ⟨ρ, S, β, sim, r, p⟩ := h
  rw [evIt] at p
  refine seqE sim r p fun d S1 β1 H1 v e1 sim1 r1 hv p1 => ?_
  unfold range1D at p1
  split at p1
  · split at p1
    · rename_i j hj
      rw [RV] at hv
      exact ⟨j, by rw [hv], (sm62_of hj).1, (sm62_of hj).2, p1 β1 H1 .refl r1 _ (walk_range 0 _) (fun _ h => nomatch h)⟩
    · exact p1.elim
  · exact p1.elim
theorem i_range2 (hg : Gl X "range") (hm : X.mg "range" = none) (ha : PE X a (tEv X.K F E ia)) (hb : PE X b (tEv X.K F E ib)) (hst : notStar a = true) (hst2 : notStar b = true) : PI X tg (.Call (.Name "range" p) [a, b] [] pos) (tEvI X.K F E (.range2 ia ib)) := by
  refine (pi_range2 hg hm (pa_cons ha (pa_cons hb pa_nil (star_cons hst2)) (star_cons hst)) (by rw [star_cons hst, star_cons hst2]; rfl) (star_cons hst2)).monoE fun σ H R h => ?_
  obtain ⟨ρ, S, β, sim, r, p⟩ := h
  rw [evIt] at p
  refine seqE sim r p fun d S1 β1 H1 v e1 sim1 r1 hv p1 => ?_
  refine seqE sim1 r1 p1 fun d2 S2 β2 H2 v2 e2 sim2 r2 hv2 p2 => ?_
  unfold range2D at p2
  split at p2
  · split at p2
    · rename_i i j hj
      rw [Bool.and_eq_true] at hj
      rw [RV] at hv hv2
      exact ⟨i, j, by rw [hv, hv2], ⟨(sm62_of hj.1).1, (sm62_of hj.1).2, (sm62_of hj.2).1, (sm62_of hj.2).2⟩, p2 β2 H2 .refl r2 _ (walk_range i _) (fun _ h => nomatch h)⟩
    · exact p2.elim
  · exact p2.elim
theorem i_zip {elts : List Expr} {kk : Nat} {tpos : Pos} (hg : Gl X "zip") (hm : X.mg "zip" = none) (ha : PE X a (tEv X.K F E ia)) (hb : PE X b (tEv X.K F E ib)) (hst : notStar a = true) (hst2 : notStar b = true) :
    PI X (.Tuple elts kk tpos) (.Call (.Name "zip" p) [a, b] [] pos) (tEvI X.K F E (.zip ia ib)) := by
  refine (RZ.pi_zipA hg hm (pa_cons ha (pa_cons hb pa_nil (star_cons hst2)) (star_cons hst)) (star_cons hst) (star_any (by simp [hst2]))).monoE fun σ H R h => ?_
  obtain ⟨ρ, S, β, sim, r, p⟩ := h
  rw [evIt] at p
  refine seqE sim r p fun d S1 β1 H1 v e1 sim1 r1 hv p1 => ?_
  refine seqE sim1 r1 p1 fun d2 S2 β2 H2 v2 e2 sim2 r2 hv2 p2 => ?_
  unfold zipOf at p2
  split at p2
  · have h1 := hv.mono r1 e2
    have h1' := h1
    have h2' := hv2
    rw [RV] at h1' h2'
    obtain ⟨a', vs, rfl, q1, z1⟩ := h1'
    obtain ⟨b', ws, rfl, q2, z2⟩ := h2'
    exact ⟨a', b', vs, ws, rfl, .inr ⟨q1, q2, p2 β2 H2 .refl r2 _ (walk_zipT r2 h1 hv2) (fun _ h => nomatch h)⟩⟩
  · exact p2.elim
end
end Ev
set_option Elab.async false
set_option linter.all false
set_option maxRecDepth 100000
/-! Eng10e: enumerate over a tuple. -/
namespace PySem
open Sem (wp)
set_option maxHeartbeats 1000000 in
theorem meets_enum1 {v : Value} {o : Obj} {H : Heap → Prop} (B : Begins v o H) :
    Meets (Builtin.«enumerate.__new__» ⟨[.type "enumerate", v], []⟩) (fun _ R s => H s.heap ∧
      R (.ok (.ret (.ref (s.heap.push o).objs.size))) { s with heap := (s.heap.push o).push { cls := .type "enumerate", data := .fields #[.none, .bool false, .ref s.heap.objs.size, rawInt 0, .none, .none] } }) :=
  .of_wp fun prog w A R s h => by
    obtain ⟨hp, g, d, tk, os⟩ := s
    obtain ⟨h1, h⟩ := h
    have hsub := sub_enumerate
    have q1 : ∀ {A' : Around} {E : Value → Shared → Prop} {Q : Value → Shared → Prop}, Q (.ref hp.objs.size) ⟨hp.push o, g, d, tk, os⟩ → wpAny (model prog w) A' (pyIter v) Q E ⟨hp, g, d, tk, os⟩ :=
      fun q => B.iter prog w _ _ ⟨hp, g, d, tk, os⟩ _ h1 q
    wp_walk using q1
    refine wpAny_stack_any fun st => wpAny_pure ?_
    split
    · rename_i c _ _ _ _ _
      cases (c == Value.type "enumerate")
      · wp_walk using q1
        exact ⟨_, rfl, h⟩
      · wp_walk using q1
        exact ⟨_, rfl, h⟩
    · wp_walk using q1
      exact ⟨_, rfl, h⟩
theorem call_enum1 {prog : Program} {w : World} {A : Around} {E : Value → Shared → Prop} {s : Shared} {v : Value} {o : Obj} {H : Heap → Prop} {Q : Value → Shared → Prop} (B : Begins v o H) (h1 : H s.heap)
    (h : ∀ h', IsEnum h' (s.heap.objs.size + 1) s.heap.objs.size 0 .none → h'.get? s.heap.objs.size = some o → (∀ b o, s.heap.get? b = some o → h'.get? b = some o) → Q (.ref (s.heap.objs.size + 1)) { s with heap := h' }) :
    wpAny (model prog w) A (call (.type "enumerate") [v]) Q E s := by
  refine callType_new F.called_enumerate (by decide) (F.typeCall_enumerate_1 _) (F.newCall_enumerate_1 _) (fun obj => F.args_object_init_2 obj _) F.entry_enumerate_new (meets_enum1 B) ⟨h1, ?_⟩
  have hz : (s.heap.push o).objs.size = s.heap.objs.size + 1 := Heap.size_push ..
  show _ ∧ _
  rw [hz]
  have he : IsEnum ((s.heap.push o).push { cls := .type "enumerate", data := .fields #[.none, .bool false, .ref s.heap.objs.size, rawInt 0, .none, .none] }) (s.heap.objs.size + 1) s.heap.objs.size 0 .none := by
    have := Heap.get?_push_size (s.heap.push o) (o := { cls := .type "enumerate", data := .fields #[.none, .bool false, .ref s.heap.objs.size, rawInt 0, .none, .none] }) rfl
    rw [hz] at this
    exact this
  exact ⟨⟨_, he, rfl⟩, h _ he (Heap.get?_push_of_some _ (Heap.get?_push_size _ B.free)) fun b o x => Heap.get?_push_of_some _ (Heap.get?_push_of_some _ x)⟩
end PySem
namespace Ev
open PySem L2 PySem.Spec PyProof.Rows
def ItN (K : PySem.W.Frag) (a : Addr) (n : Nat) : L2.It :=
  ⟨fun i H => ∃ (xs : List V) (x : V), SqT K H a xs ∧ xs[i]? = some x ∧ xs.length = n, fun i H v H' => ∃ T x, v = .ref T ∧ H T = none ∧ H' = upd H T (.tup [.int (i : Nat), x]) ∧ ∀ xs, SqT K H a xs → xs[i]? = some x, fun i H => n ≤ i ∧ ∃ xs : List V, SqT K H a xs ∧ xs.length = n⟩
theorem turn_enumT {P : Program} {w : World} {K : PySem.W.Frag} {elts : List Expr} {kk : Nat} {tpos : Pos} (a e it : Addr) (n : Nat) :
    Turn P w K (.Tuple elts kk tpos) (ItN K a n) [e, it] e (fun i h => (∃ old, IsEnum h e it ((i : Nat) : Int) old) ∧ h.IsTupleIter it a i ∧ e ≠ it ∧ e ≠ a ∧ a ≠ it ∧ i ≤ n) where
  mem := by simp
  obj := fun i h st b hb => by
    obtain ⟨⟨old, he⟩, ⟨o, ho, hc, hd⟩, _⟩ := st
    have e' : b = e ∨ b = it := by simpa using hb
    rcases e' with z | z
    · rw [z]; exact ⟨_, he, fun v q => nomatch q⟩
    · rw [z]; exact ⟨o, ho, fun v q => by rw [hd] at q; cases q⟩
  keep := fun i h h' st k => let ⟨⟨old, he⟩, hi, hne⟩ := st; ⟨⟨old, k e (by simp) _ he⟩, hi.at fun o q => k it (by simp) o q, hne⟩
  item := by
    intro X hP hw hK hc i pins s σ H E I hf st hg
    subst hP hw hK
    obtain ⟨⟨old, he⟩, hit, hne, hea, hai, hin⟩ := st
    obtain ⟨xs, x, hq, hx, hxn⟩ := hg
    have hin1 : i + 1 ≤ n := by
      have := (List.getElem?_eq_some_iff.mp hx).1
      omega
    obtain ⟨its, rv, p, hz⟩ := I.tuple hq
    obtain ⟨u, hu, ru⟩ := rv.get hx
    have hel : e < s.heap.objs.size := Heap.lt_size he
    have hil : it < s.heap.objs.size := by obtain ⟨_, q, _⟩ := hit; exact Heap.lt_size q
    have pt : s.heap.IsTuple a its.toArray := p
    have hlt : i < its.toArray.size := by
      have := (List.getElem?_eq_some_iff.mp hu).1
      simpa using this
    refine wpAny_pyNext_enum_itemD (Draws.tuple (A := X.A.in1) (I.ok.hd hc) it a hai its.toArray) he ⟨hit, pt⟩ hlt hne (by simp [hne, hea]) fun x' h' tk hP ho hit' hT hsz hk => ?_
    have exu : x' = u := by
      have h2 : its.toArray[i]? = some u := by simpa using hu
      rw [h2] at hP
      exact (Option.some.inj hP).symm
    subst exu
    refine ⟨_, rfl, wpAny_letOwnedTupleGo_enum (s := { s with heap := h', toks := tk + 1 }) ho fun h'' he' sb => ?_⟩
    have hT2 : h''.get? s.heap.objs.size = some { cls := .type "tuple", data := .seq #[.int i tk, x'] } := (sb.2 _ (Nat.ne_of_gt hel)).trans hT
    have new : ObjOk X.prog X.w (upd H s.heap.objs.size (.tup [.int (i : Nat), x])) h'' s.heap.objs.size (.tup [.int (i : Nat), x]) :=
      ⟨by show 2 ≤ sizeLine; decide, [.int i tk, x'], .cons ⟨_, rfl⟩ (.cons ru .nil), ⟨_, hT2, rfl, _, rfl⟩⟩
    have I1 : Inv X pins σ (upd H s.heap.objs.size (.tup [.int (i : Nat), x])) { s with heap := h'', toks := tk + 1 } :=
      I.turnedNew (ch := [e, it]) (fun b ob hb q => (sb.2 b (fun z => hb (by simp [z]))).trans (hk b ob (fun z => hb (by simp [z])) (fun z => hb (by simp [z])) q)) hf (Nat.le_refl _) new
    refine ⟨.ref s.heap.objs.size, _, I1, rfl, ⟨_, x, rfl, I.hok.fresh (Nat.le_refl _), rfl, fun ys hy => ?_⟩, ⟨⟨x', ?_⟩, hit'.1.at fun o q => (sb.2 it (Ne.symm hne)).trans q, hne, hea, hai, hin1⟩, fun b hb => ?_⟩
    · rw [I.tuple_inj hy hq]; exact hx
    · have e1 : ((i + 1 : Nat) : Int) = (i : Int) + 1 := by omega
      rw [e1]; exact he'
    · have hb' : b < s.heap.objs.size := by
        have e' : b = e ∨ b = it := by simpa using hb
        rcases e' with z | z
        · rw [z]; exact hel
        · rw [z]; exact hil
      rw [upd_ne (Nat.ne_of_lt hb')]
      exact (hf b hb).1
  done := by
    intro X hP hw hK hc i pins s σ H E I hf st hg
    subst hP hw hK
    obtain ⟨⟨old, he⟩, hit, hne, hea, hai, hin⟩ := st
    obtain ⟨hni, xs, hq, hx⟩ := hg
    obtain ⟨its, rv, p, hz⟩ := I.tuple hq
    obtain ⟨f0, f1, f2, f3, f4, f5⟩ := hf it (by simp)
    have hl := rv.length
    have pt : s.heap.IsTuple a its.toArray := p
    have ei : i = its.toArray.size := by simp; omega
    subst ei
    exact wpAny_pyNext_enum_endD (Draws.tuple (A := X.A.in1) (I.ok.hd hc) it a hai its.toArray) he ⟨hit, pt⟩ fun h' eb => ⟨rfl, I.turned (t' := s.toks) (fun b o hb q => eb b o hb q) f0 f1 f3 f4 f5⟩
  self := fun A i s Q E st h => let ⟨⟨_, he⟩, _⟩ := st; wpAny_pyIter_enum he h
end Ev
namespace Ev
open PySem L2 PySem.Spec PyProof.Rows
theorem pi_enumT {X : Cx} {e : Expr} {ta : TA} {p pos tpos : Pos} {elts : List Expr} {kk : Nat} (hg : Gl X "enumerate") (hm : X.mg "enumerate" = none) (ha : PA X [e] ta) (hs : starEach [e] X.env = [(false, eval e X.env)]) :
    PI X (.Tuple elts kk tpos) (.Call (.Name "enumerate" p) [e] [] pos) (fun σ H R => ta σ H fun vs H1 => ∃ a xs, vs = [.ref a] ∧ SqT X.K H1 a xs ∧ R (ItN X.K a xs.length) H1) := by
  refine ⟨fun pins s σ H R I h => ?_⟩
  refine Call_ (ld_blt I hg hm boot_enumerate (PyProof.Rows.callWith_type1 (thn (ha.run pos pins s σ H _ I h) fun us s1 ⟨vs, H1, I1, r1, q1⟩ => ?_) hs rfl))
  obtain ⟨a, xs, ex, hq, q⟩ := q1
  subst ex
  cases r1 with
  | cons r rr =>
    cases rr
    cases r
    obtain ⟨its, rv, p', hz⟩ := I1.tuple hq
    have pt : s1.heap.IsTuple a its.toArray := p'
    have hal : a < s1.heap.objs.size := by obtain ⟨_, q, _⟩ := pt; exact Heap.lt_size q
    refine call_enum1 (begins_tuple a its.toArray) pt fun h' he hit hk => wpAny_pyIter_enum he ?_
    have I2 : Inv X pins σ H1 { s1 with heap := h' } := I1.kept (t' := s1.toks) hk
    refine ⟨s1.heap.objs.size + 1, [s1.heap.objs.size + 1, s1.heap.objs.size], _, _, H1, rfl, I2, turn_enumT a (s1.heap.objs.size + 1) s1.heap.objs.size xs.length, ⟨⟨.none, he⟩, ⟨_, hit, rfl, rfl⟩, Nat.succ_ne_self _, fun z => absurd (z ▸ hal) (by simp), Nat.ne_of_lt hal, Nat.zero_le _⟩, fun b hb => ?_, q⟩
    have e' : b = s1.heap.objs.size + 1 ∨ b = s1.heap.objs.size := by simpa using hb
    have hle : s1.heap.objs.size ≤ b := by
      rcases e' with z | z
      · rw [z]; exact Nat.le_add_right _ _
      · rw [z]; exact Nat.le_refl _
    exact I1.fpOk hle (I1.hok.fresh hle)
theorem numbered_get : ∀ (ds : List D) (j i : Nat) (d : D), (numbered j ds)[i]? = some d → ∃ x, ds[i]? = some x ∧ d = .tup [.int ((j + i : Nat) : Int), x]
  | [], j, i, d, h => by simp [numbered] at h
  | x :: ds, j, 0, d, h => by
    rw [numbered] at h
    exact ⟨x, rfl, by simpa using h.symm⟩
  | x :: ds, j, i + 1, d, h => by
    rw [numbered] at h
    obtain ⟨y, h1, h2⟩ := numbered_get ds (j + 1) i d (by simpa using h)
    exact ⟨y, by simpa using h1, by rw [h2]; congr 3; omega⟩
theorem numbered_len : ∀ (ds : List D) (j : Nat), (numbered j ds).length = ds.length
  | [], _ => rfl
  | x :: ds, j => by rw [numbered, List.length_cons, numbered_len, List.length_cons]
theorem walk_enumT {K : PySem.W.Frag} {β : List Addr} {S : Store} {H : Hp} {a : Addr} {ds : List D} (r : RS K β S H) (h : RV K β H (.tup ds) (.ref a)) : WalkOk K ⟨numbered 0 ds, none⟩ β S H (ItN K a ds.length) := by
  have g : ∀ {β1 : List Addr} {S1 : Store} {H1 : Hp}, Ext β S H β1 S1 H1 → ∃ vs, SqT K H1 a vs ∧ RVs K β1 H1 ds vs := fun {β1 S1 H1} e1 => by
    have h' := h.mono r e1
    rw [RV] at h'
    obtain ⟨a', vs, e, q, z⟩ := h'
    cases e
    exact ⟨vs, q, z⟩
  refine ⟨fun β1 S1 H1 e1 r1 i d hd => ?_, fun β1 S1 H1 e1 r1 i hi => ?_⟩
  · obtain ⟨vs, sq, z⟩ := g e1
    obtain ⟨x, hx, rfl⟩ := numbered_get ds 0 i d hd
    obtain ⟨v, gv, rv⟩ := z.get hx
    refine ⟨⟨vs, v, sq, gv, z.length⟩, fun u H' yy => ?_⟩
    obtain ⟨T, x', rfl, nT, rfl, f1⟩ := yy
    have q1 := f1 vs sq
    rw [gv] at q1
    cases q1
    obtain ⟨r2, e2⟩ := r1.aside (o := .tup [.int (i : Nat), v]) nT
    refine ⟨r2, e2, ?_⟩
    rw [RV]
    refine ⟨T, _, rfl, .of upd_same, RVs.cons ?_ (RVs.one (rv.mono r1 e2))⟩
    rw [RV, Nat.zero_add]
  · obtain ⟨vs, sq, z⟩ := g e1
    rw [numbered_len] at hi
    exact ⟨hi, vs, sq, z.length⟩
section
variable {X : Cx} {F : FS} {E : XW} {tg a b : Expr} {ia ib : Ex} {pos p : Pos}
theorem i_enum {elts : List Expr} {kk : Nat} {tpos : Pos} (hg : Gl X "enumerate") (hm : X.mg "enumerate" = none) (ha : PE X a (tEv X.K F E ia)) (hst : notStar a = true) :
    PI X (.Tuple elts kk tpos) (.Call (.Name "enumerate" p) [a] [] pos) (tEvI X.K F E (.enum ia)) := by
  refine (pi_enumT hg hm (pa_cons ha pa_nil (star_cons hst)) (star_cons hst)).monoE fun σ H R h => ?_
  obtain ⟨ρ, S, β, sim, r, p⟩ := h
  rw [evIt] at p
  refine seqE sim r p fun d S1 β1 H1 v e1 sim1 r1 hv p1 => ?_
  unfold enumOf at p1
  split at p1
  · have h1 := hv
    rw [RV] at h1
    obtain ⟨a', vs, rfl, q1, z1⟩ := h1
    refine ⟨a', vs, rfl, q1, ?_⟩
    rw [z1.length]
    exact p1 β1 H1 .refl r1 _ (walk_enumT r1 hv) (fun _ h => nomatch h)
  · exact p1.elim
end
end Ev
set_option Elab.async false
set_option linter.all false
set_option maxRecDepth 100000
/-! Eng11: targets, comprehensions. -/
namespace Ev
open PySem L2

/-! ### targets -/
def gNames : List Nat → TGs
  | [] => gNil
  | i :: is => gCons (gName i) (gNames is)
def gOf (K : PySem.W.Frag) : Tg → TG
  | .one i => gName i
  | .many is => gTup K is.length (gNames is)
  | .pair i is => gTup K 2 (gCons (gName i) (gCons (gTup K is.length (gNames is)) gNil))
def Tg.ixs : Tg → List Nat
  | .one i => [i]
  | .many is => is
  | .pair i is => i :: is
structure SimP (p : Nat → Prop) (K : PySem.W.Frag) (β : List Addr) (H : Hp) (σ : L2.St) (ρ : Env) : Prop where
  len : σ.length = ρ.length
  rel : ∀ (i : Nat) d, ¬ p i → ρ[i]? = some (some d) → ∃ v, σ[i]? = some (some v) ∧ RV K β H d v
section
variable {K : PySem.W.Frag} {β β' : List Addr} {S S' : Store} {H H' : Hp} {σ : L2.St} {ρ : Env} {p : Nat → Prop}
theorem Sim.P {pin : L2.St → Prop} (s : Sim K pin β H σ ρ) : SimP p K β H σ ρ := ⟨s.len, fun i d _ h => s.rel i d h⟩
theorem SimP.all {pin : L2.St → Prop} (s : SimP p K β H σ ρ) (h : ∀ i, ¬ p i) (hp : pin σ) : Sim K pin β H σ ρ := ⟨hp, s.len, fun i d e => s.rel i d (h i) e⟩
theorem SimP.set (s : SimP p K β H σ ρ) {i : Nat} {d : D} {v : V} (h : RV K β H d v) : SimP (fun j => p j ∧ j ≠ i) K β H (σ.set i (some v)) (ρ.set i (some d)) := by
  refine ⟨by simp [s.len], fun j d' np q => ?_⟩
  by_cases hj : i = j
  · subst hj
    have hl : i < ρ.length := by
      have := (List.getElem?_eq_some_iff.mp q).1
      simpa using this
    rw [List.getElem?_set_self hl] at q
    cases q
    exact ⟨v, List.getElem?_set_self (by rw [s.len]; exact hl), h⟩
  · rw [List.getElem?_set_ne hj] at q ⊢
    exact s.rel j d' (fun z => np ⟨z, fun e => hj e.symm⟩) q
theorem SimP.imp {p' : Nat → Prop} (s : SimP p K β H σ ρ) (h : ∀ i, p i → p' i) : SimP p' K β H σ ρ := ⟨s.len, fun i d np e => s.rel i d (fun z => np (h i z)) e⟩
theorem wipe_in : ∀ {vs : List Nat} {σ : L2.St} {i : Nat}, i ∈ vs → i < σ.length → (wipe σ vs)[i]? = some none
  | v :: vs, σ, i, h, hl => by
    rw [wipe]
    by_cases e : v = i
    · subst e
      exact List.getElem?_set_self (by rw [wipe_length]; exact hl)
    · rw [List.getElem?_set_ne e]
      exact wipe_in ((List.mem_cons.mp h).resolve_left fun z => e z.symm) hl
theorem wipe_set {vs : List Nat} {σ : L2.St} {i : Nat} {o : Option V} (h : i ∈ vs) : wipe (σ.set i o) vs = wipe σ vs := by
  refine List.ext_getElem? fun j => ?_
  by_cases hj : j ∈ vs
  · by_cases hl : j < σ.length
    · rw [wipe_in hj (by simpa using hl), wipe_in hj hl]
    · rw [List.getElem?_eq_none (by rw [wipe_length]; simpa using Nat.le_of_not_lt hl), List.getElem?_eq_none (by rw [wipe_length]; exact Nat.le_of_not_lt hl)]
  · have hne : i ≠ j := fun z => hj (by rw [← z]; exact h)
    rw [wipe_out hj, wipe_out hj, List.getElem?_set_ne hne]
theorem wipe_wipe {vs : List Nat} {σ : L2.St} : wipe (wipe σ vs) vs = wipe σ vs := by
  refine List.ext_getElem? fun j => ?_
  by_cases hj : j ∈ vs
  · by_cases hl : j < σ.length
    · rw [wipe_in hj (by rw [wipe_length]; exact hl), wipe_in hj hl]
    · rw [List.getElem?_eq_none (by rw [wipe_length, wipe_length]; exact Nat.le_of_not_lt hl), List.getElem?_eq_none (by rw [wipe_length]; exact Nat.le_of_not_lt hl)]
  · rw [wipe_out hj]
theorem gNames_ok : ∀ {is : List Nat} {p : Nat → Prop} {ds : List D} {vs : List V} {σ : L2.St} {ρ ρ' : Env} {Q : L2.St → Hp → Prop}, RVs K β H ds vs → setAll ρ is ds = some ρ' → SimP p K β H σ ρ →
    (∀ σ', SimP (fun j => p j ∧ j ∉ is) K β H σ' ρ' → (∀ ws : List Nat, (∀ i ∈ is, i ∈ ws) → wipe σ' ws = wipe σ ws) → Q σ' H) → gNames is vs σ H Q
  | [], p, ds, vs, σ, ρ, ρ', Q, hv, e, s, h => by
    cases ds with
    | cons _ _ => exact nomatch e
    | nil =>
      rw [RVs] at hv
      subst hv
      have e' : ρ = ρ' := Option.some.inj e
      subst e'
      exact ⟨rfl, h σ (s.imp fun i hi => ⟨hi, fun z => nomatch z⟩) fun _ _ => rfl⟩
  | i :: is, p, ds, vs, σ, ρ, ρ', Q, hv, e, s, h => by
    cases ds with
    | nil => exact nomatch e
    | cons d ds =>
      rw [RVs] at hv
      obtain ⟨v, r, rfl, h1, h2⟩ := hv
      rw [setAll] at e
      split at e
      · refine ⟨v, r, rfl, ?_⟩
        refine gNames_ok h2 e (s.set h1) fun σ' s' hw => h σ' (s'.imp fun j hj => ⟨hj.1.1, fun z => ?_⟩) fun ws hws => ?_
        · rcases List.mem_cons.mp z with z | z
          · exact hj.1.2 z
          · exact hj.2 z
        · rw [hw ws fun j hj => hws j (List.mem_cons_of_mem _ hj)]
          exact wipe_set (hws i List.mem_cons_self)
      · cases e
theorem setAll_len : ∀ {is : List Nat} {ρ ρ' : Env} {ds : List D}, setAll ρ is ds = some ρ' → is.length = ds.length
  | [], ρ, ρ', [], e => rfl
  | [], ρ, ρ', _ :: _, e => nomatch e
  | _ :: _, ρ, ρ', [], e => nomatch e
  | i :: is, ρ, ρ', d :: ds, e => by
    rw [setAll] at e
    split at e
    · rw [List.length_cons, List.length_cons, setAll_len e]
    · cases e
theorem gOf_ok {t : Tg} {d : D} {v : V} {ρ' : Env} {Q : L2.St → Hp → Prop} (hv : RV K β H d v) (e : putTg ρ t d = some ρ') (s : SimP p K β H σ ρ)
    (h : ∀ σ', SimP (fun j => p j ∧ j ∉ t.ixs) K β H σ' ρ' → (∀ ws : List Nat, (∀ i ∈ t.ixs, i ∈ ws) → wipe σ' ws = wipe σ ws) → Q σ' H) : gOf K t v σ H Q := by
  cases t with
  | one i =>
    simp only [putTg] at e
    split at e
    · cases e
      exact h _ ((s.set hv).imp fun j hj => ⟨hj.1, fun z => hj.2 (List.mem_singleton.mp z)⟩) fun ws hws => wipe_set (hws i (List.mem_singleton.mpr rfl))
    · cases e
  | many is =>
    cases d with
    | tup ds =>
      simp only [putTg] at e
      rw [RV] at hv
      obtain ⟨a, vs, rfl, sq, z⟩ := hv
      exact ⟨a, vs, rfl, sq, by rw [z.length, setAll_len e], gNames_ok z e s h⟩
    | _ => exact nomatch e
  | pair i is =>
    rw [putTg, putPair.eq_def] at e
    split at e
    · rename_i d0 ds
      split at e
      · rw [RV] at hv
        obtain ⟨a, vs, rfl, sq, z⟩ := hv
        rw [RVs] at z
        obtain ⟨v1, r1, rfl, z1, z2⟩ := z
        rw [RVs] at z2
        obtain ⟨v2, r2, rfl, z2, z3⟩ := z2
        rw [RVs] at z3
        subst z3
        rw [RV] at z2
        obtain ⟨b, ws, rfl, sq2, z2⟩ := z2
        refine ⟨a, _, rfl, sq, rfl, v1, _, rfl, V.ref b, [], rfl, b, ws, rfl, sq2, by rw [z2.length, setAll_len e], ?_⟩
        refine gNames_ok z2 e (s.set z1) fun σ' s' hw => ⟨rfl, h σ' (s'.imp fun j hj => ⟨hj.1.1, fun z => ?_⟩) fun ws hws => ?_⟩
        · rcases List.mem_cons.mp z with z | z
          · exact hj.1.2 z
          · exact hj.2 z
        · rw [hw ws fun j hj => hws j (List.mem_cons_of_mem _ hj)]
          exact wipe_set (hws i List.mem_cons_self)
      · cases e
    · cases e
end

/-! ### a list aside, that grows -/
section
variable {K : PySem.W.Frag} {β β' : List Addr} {S S' : Store} {H H' : Hp} {Da : Addr}
theorem RS.side (r : RS K β S H) (nd : Da ∉ β) {vs ws : List V} (h : H Da = some (.lst vs)) : RS K β S (upd H Da (.lst ws)) := by
  have kt : ∀ b xs, H b = some (.tup xs) → upd H Da (.lst ws) b = some (.tup xs) := fun b xs q => by
    have : b ≠ Da := fun z => by rw [z, h] at q; cases q
    rw [upd_ne this]; exact q
  have kf : ∀ b o u, H b = some (.frz o u) → upd H Da (.lst ws) b = some (.frz o u) := fun b o u q => by
    have : b ≠ Da := fun z => by rw [z, h] at q; cases q
    rw [upd_ne this]; exact q
  refine ⟨r.len, r.nd, fun i o a h1 h2 => (r.obj i o a h1 h2).of_keep (fun d v z => RV.of_keep kt kf (fun _ _ q => q) d v z) (fun d v z => RVs.of_keep kt kf (fun _ _ q => q) d v z) fun u q => ?_, tabs_mut h rfl r.tab⟩
  have hne : a ≠ Da := fun z => nd (by rw [← z]; exact List.mem_of_getElem? h2)
  rw [upd_ne hne]
  exact q
theorem RVs.side {vs ws : List V} (h : H Da = some (.lst vs)) {ds : List D} {xs : List V} (z : RVs K β H ds xs) : RVs K β (upd H Da (.lst ws)) ds xs := by
  refine RVs.of_keep (fun b xs q => ?_) (fun b o u q => ?_) (fun _ _ q => q) ds xs z
  · have : b ≠ Da := fun z => by rw [z, h] at q; cases q
    rw [upd_ne this]; exact q
  · have : b ≠ Da := fun z => by rw [z, h] at q; cases q
    rw [upd_ne this]; exact q
theorem Ext.side (e : Ext β S H β' S' H') (nd : H Da = none) {o : HO} : Ext β S H β' S' (upd H' Da o) :=
  ⟨e.pre, fun b u q nb nt => by
    have : b ≠ Da := fun z => by rw [z, nd] at q; cases q
    rw [upd_ne this]; exact e.keep b u q nb nt, fun b q => by
    by_cases hb : b = Da
    · rw [hb, upd_same]; exact (fun z => nomatch z)
    · rw [upd_ne hb]; exact e.live b q, e.frz, e.fdic⟩
/-- the list becomes an object of the store -/
theorem RS.adopt (r : RS K β S H) (nd : Da ∉ β) {vs : List V} {ds : List D} (h : H Da = some (.lst vs)) (p : D.pureAll ds = true) (z : RVs K β H ds vs) : RS K (β ++ [Da]) (S ++ [.lst ds]) H := by
  have bb : ∀ (n : Nat) c, β[n]? = some c → (β ++ [Da])[n]? = some c := fun n c q => by
    rw [List.getElem?_append_left (List.getElem?_eq_some_iff.mp q).1]; exact q
  refine ⟨by simp [r.len], ?_, fun i o' b g1 g2 => ?_, r.tab⟩
  · rw [List.nodup_append]
    exact ⟨r.nd, by simp, fun c hc d hd => by rw [List.mem_singleton.mp hd]; exact fun z => nd (z ▸ hc)⟩
  · by_cases hi : i < S.length
    · rw [List.getElem?_append_left hi] at g1
      rw [List.getElem?_append_left (by rw [r.len]; exact hi)] at g2
      exact (r.obj i o' b g1 g2).of_keep (fun d v h => RV.of_keep (fun _ _ q => q) (fun _ _ _ q => q) bb d v h) (fun d v h => RVs.of_keep (fun _ _ q => q) (fun _ _ _ q => q) bb d v h) fun u q => q
    · have hi' : i = S.length := by
        have := (List.getElem?_eq_some_iff.mp g1).1
        simp at this
        omega
      subst hi'
      have e1 : o' = .lst ds := by simpa using g1.symm
      have e2 : b = Da := by
        rw [← r.len] at g2
        simpa using g2.symm
      rw [e1, e2]
      exact ⟨p, vs, h, RVs.pureB ds vs p z⟩
theorem Ext.adopt (e : Ext β S H β' S' H') (nd : H Da = none) {o : MO} : Ext β S H (β' ++ [Da]) (S' ++ [o]) H' := by
  obtain ⟨new, eb, hn⟩ := e.pre
  have lt : ∀ {n : Nat} {o' : MO}, S'[n]? = some o' → (S' ++ [o])[n]? = some o' := fun {n o'} q => by
    rw [List.getElem?_append_left (List.getElem?_eq_some_iff.mp q).1]; exact q
  refine ⟨⟨new ++ [Da], by rw [eb, List.append_assoc], fun b hb => ?_⟩, e.keep, e.live, fun n xs q => lt (e.frz n xs q), fun n xs q => lt (e.fdic n xs q)⟩
  rcases List.mem_append.mp hb with hb | hb
  · exact hn b hb
  · rw [List.mem_singleton.mp hb]; exact nd
theorem RO.unlock {o : MO} {a : Addr} (h : RO K β H o a) : RO K β H (unlockO o) a := by
  cases o <;> exact h
theorem RS.unlock (r : RS K β S H) (l : Option Nat) : RS K β (unlock l S) H := by
  cases l with
  | none => exact r
  | some m =>
    simp only [Ev.unlock]
    split
    · rename_i o g
      exact r.label fun a ha => (r.obj m o a g ha).unlock
    · exact r
theorem Ext.unlock (e : Ext β S H β' S' H') {l : Option Nat} (lk : LockOk S l) : Ext β S H β' (unlock l S') H' := by
  cases l with
  | none => exact e
  | some m =>
    obtain ⟨l1, l2⟩ := lk m rfl
    simp only [Ev.unlock]
    split
    · refine ⟨e.pre, e.keep, e.live, fun n xs q => ?_, fun n xs q => ?_⟩
      · have hn : m ≠ n := fun z => by subst z; exact l1 xs q
        rw [List.getElem?_set_ne hn]; exact e.frz n xs q
      · have hn : m ≠ n := fun z => by subst z; exact l2 xs q
        rw [List.getElem?_set_ne hn]; exact e.fdic n xs q
    · exact e
theorem Ext.notNew (e : Ext β S H β' S' H') (nd : Da ∉ β) {o : HO} (h : H Da = some o) : Da ∉ β' := by
  obtain ⟨new, eb, hn⟩ := e.pre
  rw [eb]
  intro z
  rcases List.mem_append.mp z with z | z
  · exact nd z
  · rw [hn _ z] at h; cases h
/-- what gc leaves where pure data come out -/
theorem gc_cases {n : Nat} {d : D} {S : Store} {d' : D} {S' : Store} (h : gc n d S = .ok d' S') (p : d'.pure = true) : d' = d ∧ (S' = S ∨ (S' = S.take n ∧ closedS n (S.take n) = true)) := by
  unfold gc at h
  split at h
  · cases h; exact ⟨rfl, .inl rfl⟩
  · split at h
    · rename_i hc
      split at h
      · cases h; exact ⟨rfl, .inr ⟨rfl, hc⟩⟩
      · split at h
        · split at h
          · cases h; rw [D.pure] at p; cases p
          · cases h; exact ⟨rfl, .inl rfl⟩
        · cases h; exact ⟨rfl, .inl rfl⟩
    · cases h; exact ⟨rfl, .inl rfl⟩
theorem gc_ok (n : Nat) (d : D) (S : Store) : ∃ d' S', gc n d S = .ok d' S' := by
  unfold gc
  split
  · exact ⟨_, _, rfl⟩
  · split
    · split
      · exact ⟨_, _, rfl⟩
      · split
        · split
          · exact ⟨_, _, rfl⟩
          · exact ⟨_, _, rfl⟩
        · exact ⟨_, _, rfl⟩
    · exact ⟨_, _, rfl⟩
/-- the store behind a gc -/
theorem gc_store {n : Nat} {β1 : List Addr} {S1 S2 : Store} {H1 : Hp} (hn : n = S.length) (r : RS K β S H) (e : Ext β S H β1 S1 H1) (r1 : RS K β1 S1 H1) (h : S2 = S1 ∨ (S2 = S1.take n ∧ closedS n (S1.take n) = true)) :
    ∃ β2, RS K β2 S2 H1 ∧ Ext β S H β2 S2 H1 := by
  subst hn
  rcases h with rfl | ⟨rfl, hc⟩
  · exact ⟨β1, r1, e⟩
  · obtain ⟨r2, e2⟩ := Ext.cut r e r1 hc
    exact ⟨β, r2, e2⟩
end

/-! ### comprehensions -/
def noX : XW := ⟨fun _ _ _ => False, fun _ => True⟩
/-- one turn -/
def turnOf (F : FS) (ρ : Env) (elt : Ex) (tg : Tg) (test : Ex) (x : D) (S : Store) : Out (Option D) := match putTg ρ tg x with
  | some ρ' => (ev F test ρ' S).bind fun t S1 => (match truth S1 t with
    | some true => (gcO S.length (ev F elt ρ' S1)).bind fun d S2 => if d.pure then .ok (some d) S2 else .bad
    | some false => (gc S.length .non S1).bind fun _ S2 => .ok none S2
    | none => .bad)
  | none => .bad
theorem comp_tail {K : PySem.W.Frag} {β : List Addr} {S : Store} {H : Hp} {l : Option Nat} {o : Out (List D)} {acc : List D} {Q : D → Store → List Addr → Hp → Prop} {E : Nat → Store → List Addr → Hp → Prop}
    (p : Post K β S H ((lockEnd l (noexc o)).bind fun ds S => newL (acc ++ ds) S) Q E) : ∃ ds S', o = .ok ds S' ∧ D.pureAll (acc ++ ds) = true ∧ (acc ++ ds).length ≤ sizeLine := by
  cases o with
  | ok ds S' =>
    refine ⟨ds, S', rfl, ?_⟩
    have p' : Post K β S H (newL (acc ++ ds) (unlock l S')) Q E := p
    unfold newL at p'
    split at p'
    · rename_i hc
      rw [Bool.and_eq_true] at hc
      exact ⟨hc.1, szOk_le hc.2⟩
    · exact p'.elim
  | exc c S' => exact p.elim
  | bad => exact p.elim
section
variable {X : Cx} {F : FS} {E : XW} {elt tg iter : Expr} {ifs : List Expr} {scope : Scope} {own : List (Str × Nat)} {pos : Pos} {it : It} {t : Tg} {ie ic : Ex}
theorem comp_read (hown : own.map (·.2) = t.ixs) :
    ∀ σ H Q, tEv X.K F E (.comp ie t it ic) σ H Q → tLc (tEvI X.K F E it) (gOf X.K t) (tEvT X.K F noX ic) (tEv X.K F noX ie) (own.map (·.2)) σ H Q := by
  intro σ H Q h
  obtain ⟨ρ, S, β, sim, r, p⟩ := h
  unfold PV at p
  rw [ev] at p
  refine ⟨ρ, S, β, sim, r, ?_⟩
  cases eo : evIt F it ρ S with
  | exc c S1 => rw [eo] at p; exact p
  | bad => rw [eo] at p; exact p
  | ok w S1 =>
    rw [eo] at p
    intro β1 H1 e1 r1 J wk lk Da nD
    have p0 : Post X.K β S H ((lockEnd w.lock (noexc (compLoop (turnOf F ρ ie t ic) w.xs S1))).bind fun ds S => newL ([] ++ ds) S) (fun d S' β' H' => ∀ v, RV X.K β' H' d v → Q v H') (fun c _ _ H' => E c σ H') := p
    obtain ⟨rs0, ex0⟩ := r1.aside (o := .lst []) nD
    have nDb : Da ∉ β1 := fun hb => by
      obtain ⟨u, q, _⟩ := r1.mutB hb
      rw [nD] at q; cases q
    have nD0 : H Da = none := by
      cases q : H Da with
      | none => rfl
      | some o => exact absurd nD (e1.live Da (by rw [q]; exact (fun z => nomatch z)))
    refine ⟨fun i m Hh => ∃ S' β' acc vacc, i ≤ w.xs.length ∧ m = w.xs.length - i ∧ RS X.K β' S' Hh ∧ Ext β1 S1 H1 β' S' Hh ∧ Da ∉ β' ∧ Hh Da = some (.lst vacc) ∧ RVs X.K β' Hh acc vacc ∧ D.pureAll acc = true ∧
        Post X.K β S H ((lockEnd w.lock (noexc (compLoop (turnOf F ρ ie t ic) (w.xs.drop i) S'))).bind fun ds S => newL (acc ++ ds) S) (fun d S' β' H' => ∀ v, RV X.K β' H' d v → Q v H') (fun c _ _ H' => E c σ H'),
      ⟨w.xs.length, S1, β1, [], [], Nat.zero_le _, rfl, rs0, ex0, nDb, upd_same, RVs.nil, rfl, p0⟩, fun i m Hh hW => ?_⟩
    obtain ⟨S', β', acc, vacc, hil, hm, rs, ex, nDb', hD, za, pa, pp⟩ := hW
    by_cases hi' : i < w.xs.length
    · right
      have hd : w.xs[i]? = some w.xs[i] := List.getElem?_eq_getElem hi'
      obtain ⟨go, yl⟩ := wk.go β' S' Hh ex rs i _ hd
      have hdrop : w.xs.drop i = w.xs[i] :: w.xs.drop (i + 1) := List.drop_eq_getElem_cons hi'
      rw [hdrop] at pp
      refine ⟨go, fun H' => ∃ S' β' acc vacc, i + 1 ≤ w.xs.length ∧ w.xs.length - (i + 1) = w.xs.length - (i + 1) ∧ RS X.K β' S' H' ∧ Ext β1 S1 H1 β' S' H' ∧ Da ∉ β' ∧ H' Da = some (.lst vacc) ∧ RVs X.K β' H' acc vacc ∧ D.pureAll acc = true ∧
        Post X.K β S H ((lockEnd w.lock (noexc (compLoop (turnOf F ρ ie t ic) (w.xs.drop (i + 1)) S'))).bind fun ds S => newL (acc ++ ds) S) (fun d S' β' H' => ∀ v, RV X.K β' H' d v → Q v H') (fun c _ _ H' => E c σ H'), fun H' hN => ⟨_, by omega, hN⟩, fun x H' y => ?_⟩
      obtain ⟨r2, e2, hx⟩ := yl x H' y
      have hD2 : H' Da = some (.lst vacc) := e2.keep Da _ hD nDb' rfl
      -- the turn's outcome
      obtain ⟨ds0, Sx, ec, _, _⟩ := comp_tail pp
      rw [compLoop] at ec pp
      cases et : turnOf F ρ ie t ic w.xs[i] S' with
      | exc c Sy => rw [et] at ec; cases ec
      | bad => rw [et] at ec; cases ec
      | ok o Sy =>
        rw [et] at pp
        dsimp only [Out.bind] at pp
        -- the rest, with the new item
        have ppd : ∀ d, o = some d → Post X.K β S H ((lockEnd w.lock (noexc (compLoop (turnOf F ρ ie t ic) (w.xs.drop (i + 1)) Sy))).bind fun ds S => newL ((acc ++ [d]) ++ ds) S) (fun d S' β' H' => ∀ v, RV X.K β' H' d v → Q v H') (fun c _ _ H' => E c σ H') := by
          intro d hd'
          subst hd'
          revert pp
          cases compLoop (turnOf F ρ ie t ic) (w.xs.drop (i + 1)) Sy with
          | ok ds2 S2 =>
            intro pp
            show Post X.K β S H (newL ((acc ++ [d]) ++ ds2) (unlock w.lock S2)) _ _
            rw [List.append_assoc]
            exact pp
          | exc c S2 => exact id
          | bad => exact id
        have ppn : o = none → Post X.K β S H ((lockEnd w.lock (noexc (compLoop (turnOf F ρ ie t ic) (w.xs.drop (i + 1)) Sy))).bind fun ds S => newL (acc ++ ds) S) (fun d S' β' H' => ∀ v, RV X.K β' H' d v → Q v H') (fun c _ _ H' => E c σ H') := by
          intro hd'
          subst hd'
          revert pp
          cases compLoop (turnOf F ρ ie t ic) (w.xs.drop (i + 1)) Sy with
          | ok ds2 S2 => exact id
          | exc c S2 => exact id
          | bad => exact id
        unfold turnOf at et
        cases ep : putTg ρ t w.xs[i] with
        | none => rw [ep] at et; cases et
        | some ρ' =>
          rw [ep] at et
          dsimp only at et
          have sw : SimP (fun j => j ∈ own.map (·.2)) X.K β' H' (wipe σ (own.map (·.2))) ρ := by
            refine ⟨by rw [wipe_length]; exact sim.len, fun j d nj ej => ?_⟩
            obtain ⟨v, e3, h3⟩ := ((sim.mono r e1).mono r1 (ex.trans e2)).rel j d ej
            exact ⟨v, by rw [wipe_out nj]; exact e3, h3⟩
          refine gOf_ok hx ep sw fun σ2 s2 hw => ⟨?_, ?_⟩
          · rw [hw _ (by rw [hown]; exact fun _ h => h), wipe_wipe]
          · have sim2 : Sim X.K noX.pin β' H' σ2 ρ' := s2.all (fun j hj => hj.2 (by rw [← hown]; exact hj.1)) trivial
            refine ⟨ρ', S', β', sim2, r2, ?_⟩
            cases e3 : ev F ic ρ' S' with
            | exc c S3 => rw [e3] at et; cases et
            | bad => rw [e3] at et; cases et
            | ok tv S3 =>
              rw [e3] at et
              dsimp only [Out.bind] at et ⊢
              cases etr : truth S3 tv with
              | none => rw [etr] at et; cases et
              | some b =>
                rw [etr] at et
                intro β3 H3 ex3 r3
                have simb : Sim X.K noX.pin β3 H3 σ2 ρ' := sim2.mono r2 ex3
                cases b with
                | false =>
                  rw [if_neg Bool.false_ne_true]
                  dsimp only at et
                  obtain ⟨d', S5, eg⟩ := gc_ok S'.length .non S3
                  rw [eg] at et
                  cases et
                  have hcase : Sy = S3 ∨ (Sy = S3.take S'.length ∧ closedS S'.length (S3.take S'.length) = true) := by
                    unfold gc at eg
                    split at eg
                    · cases eg; exact .inl rfl
                    · split at eg
                      · rename_i hcc
                        rw [if_pos (show D.low S'.length D.non = true by rw [D.low])] at eg
                        cases eg; exact .inr ⟨rfl, hcc⟩
                      · cases eg; exact .inl rfl
                  obtain ⟨β5, r5, ex5⟩ := gc_store rfl r2 ex3 r3 hcase
                  exact ⟨Sy, β5, acc, vacc, hi', rfl, r5, (ex.trans e2).trans ex5, ex5.notNew nDb' hD2, ex5.keep Da _ hD2 nDb' rfl, (za.mono rs e2).mono r2 ex5, pa, ppn rfl⟩
                | true =>
                  rw [if_pos rfl]
                  dsimp only at et
                  refine ⟨ρ', S3, β3, simb, r3, ?_⟩
                  cases e4 : ev F ie ρ' S3 with
                  | exc c S4 => rw [e4] at et; cases et
                  | bad => rw [e4] at et; cases et
                  | ok d S4 =>
                    rw [e4] at et
                    dsimp only [gcO] at et
                    obtain ⟨d', S5, eg⟩ := gc_ok S'.length d S4
                    rw [eg] at et
                    dsimp only [Out.bind] at et
                    split at et
                    · rename_i pd
                      cases et
                      obtain ⟨rfl, hcase⟩ := gc_cases eg pd
                      intro β4 H4 ex4 r4 yv hy
                      obtain ⟨β5, r5, ex5⟩ := gc_store rfl r2 (ex3.trans ex4) r4 hcase
                      have hD5 : H4 Da = some (.lst vacc) := ex5.keep Da _ hD2 nDb' rfl
                      have nD5 : Da ∉ β5 := ex5.notNew nDb' hD2
                      have za5 : RVs X.K β5 H4 acc vacc := (za.mono rs e2).mono r2 ex5
                      have hy5 : RV X.K β5 H4 d' yv := RV.pureB d' yv pd hy
                      have pd' := ppd d' rfl
                      obtain ⟨ds7, S7, _, pu7, sz7⟩ := comp_tail pd'
                      refine ⟨vacc, hD5, ?_, Sy, β5, acc ++ [d'], vacc ++ [yv], hi', rfl, r5.side nD5 hD5, ((ex.trans e2).trans ex5).side nD, nD5, upd_same, (za5.append (RVs.one hy5)).side hD5, ?_, pd'⟩
                      · rw [za5.length]
                        rw [List.length_append, List.length_append, List.length_singleton] at sz7
                        omega
                      · refine pureAll_of fun z hz => ?_
                        rcases List.mem_append.mp hz with hz | hz
                        · exact pureAll_mem pa hz
                        · rw [List.mem_singleton.mp hz]; exact pd
                    · cases et
    · left
      have hil' : i = w.xs.length := by omega
      refine ⟨wk.stop β' S' Hh ex rs i (by omega), ?_⟩
      rw [hil', List.drop_length, compLoop] at pp
      have pp' : Post X.K β S H (newL (acc ++ []) (unlock w.lock S')) (fun d S' β' H' => ∀ v, RV X.K β' H' d v → Q v H') (fun c _ _ H' => E c σ H') := pp
      rw [List.append_nil] at pp'
      unfold newL at pp'
      split at pp'
      · have ex' := (e1.trans ex).unlock (l := w.lock) lk
        have rs' := rs.unlock w.lock
        refine pp' _ _ (ex'.adopt nD0) (rs'.adopt nDb' hD pa za) _ ?_
        rw [RV]
        refine ⟨Da, rfl, ?_⟩
        rw [← rs'.len]
        simp
      · exact pp'.elim
theorem s_comp (hc : X.calm = true) (hN : X.N.Nodup) (hi : PI X tg iter (tEvI X.K F E it)) (ok : BlkOk X.N X.env.scope scope own)
    (hg : ∀ (s : Shared) (H : Hp) (C : Addr) (cl : List (Str × Addr)) (fp : List Addr), PG (X.blk s H scope (compEnvC scope cl C X.env) fp) tg (gOf X.K t))
    (ht : ∀ (s : Shared) (H : Hp) (C : Addr) (cl : List (Str × Addr)) (fp : List Addr), PTs (X.blk s H scope (compEnvC scope cl C X.env) fp) ifs (tEvT X.K F noX ic))
    (he : ∀ (s : Shared) (H : Hp) (C : Addr) (cl : List (Str × Addr)) (fp : List Addr), PE (X.blk s H scope (compEnvC scope cl C X.env) fp) elt (tEv X.K F noX ie))
    (hs : ∀ x, foldedSetIterable iter X.env x = pure x) (hown : own.map (·.2) = t.ixs) : PE X (.ListComp elt [⟨tg, iter, ifs, 0⟩] scope pos) (tEv X.K F E (.comp ie t it ic)) :=
  (pe_lc hc hN hi ok hg ht he hs).monoE (comp_read hown)
end
end Ev
set_option Elab.async false
set_option linter.all false
set_option maxRecDepth 100000
/-! Eng12: statements. -/
namespace Ev
open PySem L2

def SPost (K : PySem.W.Frag) (E : XW) (β : List Addr) (S : Store) (H : Hp) (o : SOut) (N : Ends) : Prop :=
  match o with
  | .nx ρ' S' => ∀ σ' β' H', Ext β S H β' S' H' → RS K β' S' H' → Sim K E.pin β' H' σ' ρ' → N.nx σ' H'
  | .rt d S' => ∀ v β' H', Ext β S H β' S' H' → RS K β' S' H' → RV K β' H' d v → N.rt v H'
  | .exc c ρ' S' => ∀ σ' β' H', Ext β S H β' S' H' → RS K β' S' H' → Sim K E.pin β' H' σ' ρ' → E c σ' H'
  | .bad => False
def tEx (K : PySem.W.Frag) (F : FS) (E : XW) (s : Sm) : TS := fun N σ H => ∃ ρ S β, Sim K E.pin β H σ ρ ∧ RS K β S H ∧ SPost K E β S H (ex F s ρ S) N
def tExs (K : PySem.W.Frag) (F : FS) (E : XW) (s : Sms) : TS := fun N σ H => ∃ ρ S β, Sim K E.pin β H σ ρ ∧ RS K β S H ∧ SPost K E β S H (exs F s ρ S) N
section
variable {K : PySem.W.Frag} {F : FS} {E : XW} {β β' : List Addr} {S S' : Store} {H H' : Hp} {σ : L2.St} {ρ : Env} {N : Ends}
theorem SPost.from {o : SOut} (e : Ext β S H β' S' H') (h : SPost K E β S H o N) : SPost K E β' S' H' o N := by
  cases o with
  | nx ρ1 S1 => intro σ1 β1 H1 e1 r1 s1; exact h σ1 β1 H1 (e.trans e1) r1 s1
  | rt d S1 => intro v β1 H1 e1 r1 s1; exact h v β1 H1 (e.trans e1) r1 s1
  | exc c ρ1 S1 => intro σ1 β1 H1 e1 r1 s1; exact h σ1 β1 H1 (e.trans e1) r1 s1
  | bad => exact h
theorem gc_out {β1 : List Addr} {S1 : Store} {H1 : Hp} {d : D} {v : V} (r : RS K β S H) (e : Ext β S H β1 S1 H1) (r1 : RS K β1 S1 H1) (hv : RV K β1 H1 d v) :
    ∃ d' S2 β2, gc S.length d S1 = .ok d' S2 ∧ RS K β2 S2 H1 ∧ Ext β S H β2 S2 H1 ∧ RV K β2 H1 d' v := by
  obtain ⟨d', S2, eg⟩ := gc_ok S.length d S1
  refine gc_post (E := fun _ _ _ _ => True) (Q := fun v0 H0 => ∃ d' S2 β2, gc S.length d S1 = .ok d' S2 ∧ RS K β2 S2 H0 ∧ Ext β S H β2 S2 H0 ∧ RV K β2 H0 d' v0) r ?_ e r1 v hv
  rw [eg]
  intro β2 H2 e2 r2 v2 h2
  exact ⟨d', S2, β2, rfl, r2, e2, h2⟩
/-- an expression, then a statement's rest -/
theorem seqS {a : Ex} {k : D → Store → SOut} {Q : VK} (sim : Sim K E.pin β H σ ρ) (r : RS K β S H) (p : SPost K E β S H ((ev F a ρ S).thn ρ k) N)
    (h : ∀ d S1 β1 H1 v, Ext β S H β1 S1 H1 → Sim K E.pin β1 H1 σ ρ → RS K β1 S1 H1 → RV K β1 H1 d v → SPost K E β S H (k d S1) N → Q v H1) : tEv K F E a σ H Q := by
  refine ⟨ρ, S, β, sim, r, ?_⟩
  cases eo : ev F a ρ S with
  | ok d S1 =>
    rw [eo] at p
    exact fun β1 H1 e1 r1 v hv => h d S1 β1 H1 v e1 (sim.mono r e1) r1 hv p
  | exc c S1 =>
    rw [eo] at p
    exact fun β1 H1 e1 r1 => p σ β1 H1 e1 r1 (sim.mono r e1)
  | bad => rw [eo] at p; exact p.elim
/-- .. from an earlier store's wish -/
theorem seqB {βo : List Addr} {So : Store} {Ho : Hp} {a : Ex} {k : D → Store → SOut} {Q : VK} (sim : Sim K E.pin β H σ ρ) (r : RS K β S H) (eo : Ext βo So Ho β S H) (p : SPost K E βo So Ho ((ev F a ρ S).thn ρ k) N)
    (h : ∀ d S1 β1 H1 v, Ext β S H β1 S1 H1 → Sim K E.pin β1 H1 σ ρ → RS K β1 S1 H1 → RV K β1 H1 d v → SPost K E βo So Ho (k d S1) N → Q v H1) : tEv K F E a σ H Q := by
  refine ⟨ρ, S, β, sim, r, ?_⟩
  cases eq : ev F a ρ S with
  | ok d S1 =>
    rw [eq] at p
    exact fun β1 H1 e1 r1 v hv => h d S1 β1 H1 v e1 (sim.mono r e1) r1 hv p
  | exc c S1 =>
    rw [eq] at p
    exact fun β1 H1 e1 r1 => p σ β1 H1 (eo.trans e1) r1 (sim.mono r e1)
  | bad => rw [eq] at p; exact p.elim
theorem seqSg {a : Ex} {k : D → Store → SOut} {Q : VK} (sim : Sim K E.pin β H σ ρ) (r : RS K β S H) (p : SPost K E β S H ((gcO S.length (ev F a ρ S)).thn ρ k) N)
    (h : ∀ d S1 β1 H1 v, Ext β S H β1 S1 H1 → Sim K E.pin β1 H1 σ ρ → RS K β1 S1 H1 → RV K β1 H1 d v → SPost K E β S H (k d S1) N → Q v H1) : tEv K F E a σ H Q := by
  refine ⟨ρ, S, β, sim, r, ?_⟩
  cases eo : ev F a ρ S with
  | ok d S1 =>
    rw [eo] at p
    intro β1 H1 e1 r1 v hv
    obtain ⟨d', S2, β2, eg, r2, e2, h2⟩ := gc_out r e1 r1 hv
    dsimp only [gcO] at p
    rw [eg] at p
    exact h d' S2 β2 H1 v e2 (sim.mono r e2) r2 h2 p
  | exc c S1 =>
    rw [eo] at p
    exact fun β1 H1 e1 r1 => p σ β1 H1 e1 r1 (sim.mono r e1)
  | bad => rw [eo] at p; exact p.elim
end
theorem key_eq (t s : List Nat) : decide ((Sum.inr (sA t) : Key) = Sum.inr (sA s)) = eqD (.str t) (.str s) := by
  rw [eqD]
  by_cases q : t = s
  · subst q; simp
  · have ne : ¬ (Sum.inr (sA t) : Key) = Sum.inr (sA s) := fun z => q (by
      have := congrArg TL.tl (Sum.inr.inj z)
      simpa [TL.tl] using this)
    rw [decide_eq_false ne]
    exact (beq_eq_false_iff_ne.mpr q).symm
theorem RKs.any {K : PySem.W.Frag} {β : List Addr} {H : Hp} {t : List Nat} : ∀ {kvs : List (D × D)} {gs : List (Key × V)}, RKs K β H kvs gs → (gs.any fun kv => decide (kv.1 = .inr (sA t))) = kvs.any fun kv => eqD kv.1 (.str t)
  | [], gs, h => by rw [RKs] at h; subst h; rfl
  | (k, d) :: r, gs, h => by
    rw [RKs] at h
    obtain ⟨s, v, g, rfl, rfl, _, h2⟩ := h
    rw [List.any_cons, List.any_cons, RKs.any h2, key_eq]
theorem RKs.maps {K : PySem.W.Frag} {β : List Addr} {H : Hp} {t : List Nat} {d' : D} {v' : V} (hv : RV K β H d' v') : ∀ {kvs : List (D × D)} {gs : List (Key × V)}, RKs K β H kvs gs →
    RKs K β H (kvs.map fun kv => if eqD kv.1 (.str t) then (kv.1, d') else kv) (gs.map fun kv => if kv.1 = .inr (sA t) then (kv.1, v') else kv)
  | [], gs, h => by rw [RKs] at h; subst h; rw [List.map_nil, RKs]; rfl
  | (k, d) :: r, gs, h => by
    rw [RKs] at h
    obtain ⟨s, v, g, rfl, rfl, h1, h2⟩ := h
    have ke := key_eq s t
    have ih := RKs.maps (t := t) hv h2
    rw [List.map_cons, List.map_cons]
    by_cases q : (Sum.inr (sA s) : Key) = Sum.inr (sA t)
    · have q' : eqD (.str s) (.str t) = true := by rw [← ke]; exact decide_eq_true q
      dsimp only
      rw [if_pos q', if_pos q, RKs]
      exact ⟨s, v', _, rfl, rfl, hv, ih⟩
    · have q' : eqD (.str s) (.str t) = false := by rw [← ke]; exact decide_eq_false q
      dsimp only
      rw [if_neg (by rw [q']; exact Bool.false_ne_true), if_neg q, RKs]
      exact ⟨s, v, _, rfl, rfl, h1, ih⟩
theorem RKs.snoc {K : PySem.W.Frag} {β : List Addr} {H : Hp} {t : List Nat} {d' : D} {v' : V} (hv : RV K β H d' v') : ∀ {kvs : List (D × D)} {gs : List (Key × V)}, RKs K β H kvs gs → RKs K β H (kvs ++ [(.str t, d')]) (gs ++ [(.inr (sA t), v')])
  | [], gs, h => by rw [RKs] at h; subst h; rw [List.nil_append, List.nil_append, RKs]; exact ⟨t, v', [], rfl, rfl, hv, by rw [RKs]⟩
  | (k, d) :: r, gs, h => by
    rw [RKs] at h
    obtain ⟨s, v, g, rfl, rfl, h1, h2⟩ := h
    rw [List.cons_append, List.cons_append, RKs]
    exact ⟨s, v, _, rfl, rfl, h1, RKs.snoc hv h2⟩
theorem RKs.put {K : PySem.W.Frag} {β : List Addr} {H : Hp} {t : List Nat} {d' : D} {v' : V} {kvs : List (D × D)} {gs : List (Key × V)} (h : RKs K β H kvs gs) (hv : RV K β H d' v') : RKs K β H (Ev.putK (.str t) d' kvs) (L2.putK gs (.inr (sA t)) v') := by
  unfold Ev.putK L2.putK
  rw [h.any]
  split
  · exact h.maps hv
  · exact h.snoc hv
section
variable {X : Cx} {F : FS} {E : XW} {pos : Pos} {a b c : Expr} {ia ib ic : Ex}
theorem ss_nil : PSs X [] (tExs X.K F E .nil) := by
  refine pss_nil.monoE fun N σ H h => ?_
  obtain ⟨ρ, S, β, sim, r, p⟩ := h
  rw [exs] at p
  exact p σ β H .refl r sim
theorem ss_cons {st : Stmt} {sts : List Stmt} {is : Sm} {iss : Sms} (h1 : PS X st (tEx X.K F E is)) (h2 : PSs X sts (tExs X.K F E iss)) : PSs X (st :: sts) (tExs X.K F E (.cons is iss)) := by
  refine (pss_cons h1 h2).monoE fun N σ H h => ?_
  obtain ⟨ρ, S, β, sim, r, p⟩ := h
  rw [exs] at p
  refine ⟨ρ, S, β, sim, r, ?_⟩
  revert p
  cases ex F is ρ S with
  | nx ρ1 S1 => intro p σ1 β1 H1 e1 r1 s1; exact ⟨ρ1, S1, β1, s1, r1, p.from e1⟩
  | rt d S1 => exact id
  | exc c ρ1 S1 => exact id
  | bad => exact id
theorem ss_stuck {st : Stmt} : PS X st (tEx X.K F E .stuck) := by
  refine ⟨fun pins s σ H D I h => ?_⟩
  obtain ⟨ρ, S, β, _, _, p⟩ := h
  rw [ex] at p
  exact p.elim
theorem ss_pass : PS X (.Pass pos) (tEx X.K F E .pass) := by
  refine ps_pass.monoE fun N σ H h => ?_
  obtain ⟨ρ, S, β, sim, r, p⟩ := h
  rw [ex] at p
  exact p σ β H .refl r sim
/-- the value, then the name's store -/
theorem asg_read {i : Nat} {te : TE} (hte : ∀ σ H Q, tEv X.K F E ia σ H Q → te σ H Q) (hpin : ∀ σ v, E.pin σ → E.pin (σ.set i (some v))) {N : Ends} {σ : L2.St} {H : Hp} (h : tEx X.K F E (.asg i ia) N σ H) : tAsg te (gName i) N σ H := by
  obtain ⟨ρ, S, β, sim, r, p⟩ := h
  rw [ex] at p
  refine hte _ _ _ (seqSg sim r p fun d S1 β1 H1 v e1 sim1 r1 hv p1 => ?_)
  split at p1
  · exact p1 _ β1 H1 e1 r1 (sim1.set hv (hpin _ _ sim1.pin))
  · exact p1.elim
theorem ss_asg {i : Nat} {x : Str} {pos' : Pos} (hN : X.N.Nodup) (hi : X.N[i]? = some x) (hx : Loc X.env.scope x) (he : PE X a (tEv X.K F E ia)) (hs : swapsWith a (some (.Name x pos')) pos.line X.env = pure false)
    (hf : X.fn x = true ∨ X.env.scope.names.lookup x = some .local) (hpin : ∀ σ v, E.pin σ → E.pin (σ.set i (some v))) : PS X (.Assign [.Name x pos'] a pos) (tEx X.K F E (.asg i ia)) :=
  (ps_set hN hi hx he hs hf).monoE fun _ _ _ h => asg_read (fun _ _ _ h => h) hpin h
theorem ss_asgT {is : List Nat} {es : List Expr} {k : Nat} {p2 : Pos} (hg : PG X (.Tuple es k p2) (gOf X.K (.many is))) (he : PE X a (tEv X.K F E ia)) (hs : swapsWithSole [.Tuple es k p2] a pos.line X.env = pure false) (hw : swappedStores [.Tuple es k p2] a X.env = pure none) (hpin : ∀ σ, E.pin σ) :
    PS X (.Assign [.Tuple es k p2] a pos) (tEx X.K F E (.asgT is ia)) := by
  refine (ps_asg he hg hs hw rfl).monoE fun N σ H h => ?_
  obtain ⟨ρ, S, β, sim, r, p⟩ := h
  rw [ex] at p
  refine seqSg sim r p fun d S1 β1 H1 v e1 sim1 r1 hv p1 => ?_
  split at p1
  · rename_i ds
    split at p1
    · rename_i ρ' es'
      exact gOf_ok (p := fun _ => False) hv es' sim1.P fun σ' s' _ => p1 σ' β1 H1 e1 r1 (s'.all (fun _ z => z.1) (hpin _))
    · exact p1.elim
  · exact p1.elim
theorem ss_expr (he : PE X a (tEv X.K F E ia)) (hs : swapsWith a none pos.line X.env = pure false) : PS X (.Expr a pos) (tEx X.K F E (.expr ia)) := by
  refine (ps_expr he hs).monoE fun N σ H h => ?_
  obtain ⟨ρ, S, β, sim, r, p⟩ := h
  rw [ex] at p
  refine ⟨ρ, S, β, sim, r, ?_⟩
  cases eo : ev F ia ρ S with
  | ok d S1 =>
    rw [eo] at p
    intro β1 H1 e1 r1 v hv
    obtain ⟨d', S2, β2, eg, r2, e2, h2⟩ := gc_out (d := .non) (v := .non) r e1 r1 (by rw [RV])
    dsimp only [gcO, Out.bind] at p
    rw [eg] at p
    exact p σ β2 H1 e2 r2 (sim.mono r e2)
  | exc c S1 =>
    rw [eo] at p
    exact fun β1 H1 e1 r1 => p σ β1 H1 e1 r1 (sim.mono r e1)
  | bad => rw [eo] at p; exact p.elim
theorem ss_ret (he : PE X a (tEv X.K F E ia)) : PS X (.Return (some a) pos) (tEx X.K F E (.ret ia)) := by
  refine (ps_ret he).monoE fun N σ H h => ?_
  obtain ⟨ρ, S, β, sim, r, p⟩ := h
  rw [ex] at p
  exact seqS sim r p fun d S1 β1 H1 v e1 sim1 r1 hv p1 => p1 v β1 H1 e1 r1 hv
theorem ss_if {as bs : List Stmt} {sa sb : Sms} (hc : PT X c (tEvT X.K F E ic)) (ha : PSs X as (tExs X.K F E sa)) (hb : PSs X bs (tExs X.K F E sb)) : PS X (.If c as bs pos) (tEx X.K F E (.ife ic sa sb)) := by
  refine (ps_if hc ha hb).monoE fun N σ H h => ?_
  obtain ⟨ρ, S, β, sim, r, p⟩ := h
  rw [ex] at p
  refine ⟨ρ, S, β, sim, r, ?_⟩
  cases eo : ev F ic ρ S with
  | exc c S1 =>
    rw [eo] at p
    exact fun β1 H1 e1 r1 => p σ β1 H1 e1 r1 (sim.mono r e1)
  | bad => rw [eo] at p; exact p.elim
  | ok d S1 =>
    rw [eo] at p
    dsimp only [Out.thn, Out.bind] at p ⊢
    cases et : truth S1 d with
    | none => rw [et] at p; exact p.elim
    | some t =>
      rw [et] at p
      intro β1 H1 e1 r1
      obtain ⟨d', S2, β2, eg, r2, e2, h2⟩ := gc_out (d := .non) (v := .non) r e1 r1 (by rw [RV])
      cases t with
      | true =>
        rw [if_pos rfl]
        dsimp only at p
        rw [eg] at p
        exact ⟨ρ, S2, β2, sim.mono r e2, r2, SPost.from e2 p⟩
      | false =>
        rw [if_neg Bool.false_ne_true]
        dsimp only at p
        rw [eg] at p
        exact ⟨ρ, S2, β2, sim.mono r e2, r2, SPost.from e2 p⟩
/-- d[k] = v -/
theorem ss_setIx {p2 : Pos} (hr : RU X.A) (ha : PE X a (tEv X.K F E ia)) (hb : PE X b (tEv X.K F E ib)) (hc : PE X c (tEv X.K F E ic)) (hs : swapsWith c (some (.Subscript a b p2)) pos.line X.env = pure false) :
    PS X (.Assign [.Subscript a b p2] c pos) (tEx X.K F E (.setIx ia ib ic)) := by
  refine (ps_dput (hu_ofU hr) ha hb hc hs).monoE fun N σ H h => ?_
  obtain ⟨ρ, S, β, sim, r, p⟩ := h
  rw [ex] at p
  refine seqS sim r p fun dv S1 β1 H1 v e1 sim1 r1 hv p1 => ?_
  refine seqB sim1 r1 e1 p1 fun da S2 β2 H2 va e2 sim2 r2 hva p2 => ?_
  refine seqB sim2 r2 (e1.trans e2) p2 fun di S3 β3 H3 vi e3 sim3 r3 hvi p3 => ?_
  have hv3 := (hv.mono r1 e2).mono r2 e3
  have hva3 := hva.mono r2 e3
  unfold setIxD at p3
  split at p3
  · rename_i n
    split at p3
    · rename_i kvs t g
      split at p3
      · rename_i hcc
        rw [Bool.and_eq_true] at hcc
        simp only [RV] at hva3 hvi
        obtain ⟨pa, rfl, ha3⟩ := hva3
        subst hvi
        obtain ⟨a', ha', gs, e', z⟩ := r3.at g
        rw [ha3] at ha'; cases ha'
        have kl : gs.length = kvs.length := by
          obtain ⟨ks, k1, k2⟩ := z.keys
          have l1 := congrArg List.length k1
          have l2 := congrArg List.length k2
          simp at l1 l2
          omega
        refine ⟨pa, _, rfl, DPut.k (k := .inr (sA t)) e' (by rw [kl]; exact of_decide_eq_true hcc.2), ?_⟩
        -- the new pairs
        have zp := z.put (t := t) hv3
        have zz : RKs X.K β3 (upd H3 pa (.dK (L2.putK gs (.inr (sA t)) v))) (Ev.putK (.str t) dv kvs) (L2.putK gs (.inr (sA t)) v) := by
          refine RKs.of_keep (fun d v' h => RV.of_keep (fun b xs q => ?_) (fun b o u q => ?_) (fun _ _ q => q) d v' h) _ _ zp
          · have : b ≠ pa := fun zz => by rw [zz, e'] at q; cases q
            rw [upd_ne this]; exact q
          · have : b ≠ pa := fun zz => by rw [zz, e'] at q; cases q
            rw [upd_ne this]; exact q
        obtain ⟨r4, e4⟩ := r3.put (o := .dic (Ev.putK (.str t) dv kvs)) (u := .dK (L2.putK gs (.inr (sA t)) v)) ha3 (fun t => by rw [g]; exact (fun z => nomatch z)) (fun t => by rw [g]; exact (fun z => nomatch z)) ⟨_, upd_same, zz⟩
        obtain ⟨d', S5, β5, eg, r5, e5, h5⟩ := gc_out (d := .non) (v := .non) r (((e1.trans e2).trans e3).trans e4) r4 (by rw [RV])
        dsimp only [gcO] at p3
        rw [eg] at p3
        exact p3 σ β5 _ e5 r5 (sim.mono r e5)
      · exact p3.elim
    · exact p3.elim
  · exact p3.elim
end
end Ev
set_option Elab.async false
set_option linter.all false
set_option maxRecDepth 100000
/-! Eng13: loops, assignments of several names. -/
namespace Ev
open PySem L2

section
variable {X : Cx} {F : FS} {E : XW} {pos : Pos}
/-- names together -/
theorem ss_par2 {i j : Nat} {x y : Str} {a b : Expr} {ies : Exs} {px py pt : Pos} {kt k2 : Nat} {pt2 : Pos} (hc : X.calm = true) (hN : X.N.Nodup) (hi : X.N[i]? = some x) (hj : X.N[j]? = some y) (hij : i ≠ j)
    (hx : X.env.scope.names.lookup x = some .local) (hy : X.env.scope.names.lookup y = some .local) (ha : PA X [a, b] (tEvs X.K F E ies))
    (hw : swappedStores [.Tuple [.Name x px, .Name y py] kt pt] (.Tuple [a, b] k2 pt2) X.env = pure (some [x, y])) (hl : ies.len = 2) (hpin : ∀ σ, E.pin σ) :
    PS X (.Assign [.Tuple [.Name x px, .Name y py] kt pt] (.Tuple [a, b] k2 pt2) pos) (tEx X.K F E (.par [i, j] ies)) := by
  refine (ps_par hc hN hi hj hij hx hy ha hw).monoE fun N σ H h => ?_
  obtain ⟨ρ, S, β, sim, r, p⟩ := h
  rw [ex] at p
  refine ⟨ρ, S, β, sim, r, ?_⟩
  cases eo : evs F ies ρ S with
  | exc c S1 =>
    rw [eo] at p
    exact fun β1 H1 e1 r1 => p σ β1 H1 e1 r1 (sim.mono r e1)
  | bad => rw [eo] at p; exact p.elim
  | ok ds S1 =>
    have hd := evs_len ies eo
    rw [eo] at p
    dsimp only [Out.thn] at p
    intro β1 H1 e1 r1 vs hv
    match ds, hd with
    | [d1, d2], _ =>
      obtain ⟨v, w, rfl, h1, h2⟩ := hv.two_of
      refine ⟨v, w, rfl, ?_⟩
      simp only [setAll] at p
      by_cases c1 : i < ρ.length
      · rw [if_pos c1] at p
        by_cases c2 : j < (ρ.set i (some d1)).length
        · rw [if_pos c2] at p
          exact p _ β1 H1 e1 r1 (((sim.mono r e1).set h1 (hpin _)).set h2 (hpin _))
        · rw [if_neg c2] at p; exact p.elim
      · rw [if_neg c1] at p; exact p.elim
    | [], h => exact absurd h (by rw [hl]; decide)
    | [_], h => exact absurd h (by rw [hl]; simp)
    | _ :: _ :: _ :: _, h => exact absurd h (by rw [hl]; simp)
theorem ss_par3 {i j l : Nat} {x y z : Str} {a b c : Expr} {ies : Exs} {px py pz pt : Pos} {kt k2 : Nat} {pt2 : Pos} (hc : X.calm = true) (hN : X.N.Nodup) (hi : X.N[i]? = some x) (hj : X.N[j]? = some y) (hl' : X.N[l]? = some z) (hij : i ≠ j) (hil : i ≠ l) (hjl : j ≠ l)
    (hx : X.env.scope.names.lookup x = some .local) (hy : X.env.scope.names.lookup y = some .local) (hz : X.env.scope.names.lookup z = some .local) (ha : PA X [a, b, c] (tEvs X.K F E ies))
    (hw : swappedStores [.Tuple [.Name x px, .Name y py, .Name z pz] kt pt] (.Tuple [a, b, c] k2 pt2) X.env = pure (some [x, y, z])) (hl : ies.len = 3) (hpin : ∀ σ, E.pin σ) :
    PS X (.Assign [.Tuple [.Name x px, .Name y py, .Name z pz] kt pt] (.Tuple [a, b, c] k2 pt2) pos) (tEx X.K F E (.par [i, j, l] ies)) := by
  refine (ps_par3 hc hN hi hj hl' hij hil hjl hx hy hz ha hw).monoE fun N σ H h => ?_
  obtain ⟨ρ, S, β, sim, r, p⟩ := h
  rw [ex] at p
  refine ⟨ρ, S, β, sim, r, ?_⟩
  cases eo : evs F ies ρ S with
  | exc c S1 =>
    rw [eo] at p
    exact fun β1 H1 e1 r1 => p σ β1 H1 e1 r1 (sim.mono r e1)
  | bad => rw [eo] at p; exact p.elim
  | ok ds S1 =>
    have hd := evs_len ies eo
    rw [eo] at p
    dsimp only [Out.thn] at p
    intro β1 H1 e1 r1 vs hv
    match ds, hd with
    | [d1, d2, d3], _ =>
      rw [RVs] at hv
      obtain ⟨u, t, rfl, h1, hv2⟩ := hv
      obtain ⟨v, w, rfl, h2, h3⟩ := hv2.two_of
      refine ⟨u, v, w, rfl, ?_⟩
      simp only [setAll] at p
      by_cases c1 : i < ρ.length
      · rw [if_pos c1] at p
        by_cases c2 : j < (ρ.set i (some d1)).length
        · rw [if_pos c2] at p
          by_cases c3 : l < ((ρ.set i (some d1)).set j (some d2)).length
          · rw [if_pos c3] at p
            exact p _ β1 H1 e1 r1 ((((sim.mono r e1).set h1 (hpin _)).set h2 (hpin _)).set h3 (hpin _))
          · rw [if_neg c3] at p; exact p.elim
        · rw [if_neg c2] at p; exact p.elim
      · rw [if_neg c1] at p; exact p.elim
    | [], h => exact absurd h (by rw [hl]; decide)
    | [_], h => exact absurd h (by rw [hl]; simp)
    | [_, _], h => exact absurd h (by rw [hl]; simp)
    | _ :: _ :: _ :: _ :: _, h => exact absurd h (by rw [hl]; simp)
/-- slots forgotten, objects forgotten -/
theorem Sim.kill {K : PySem.W.Frag} {pin : L2.St → Prop} {β β' : List Addr} {H : Hp} {σ : L2.St} {ρ : Env} {n : Nat} (s : Sim K pin β' H σ ρ) (hb : ∀ (m : Nat) a, m < n → β'[m]? = some a → β[m]? = some a) : Sim K pin β H σ (killE n ρ) := by
  refine ⟨s.pin, by rw [killE, List.length_map]; exact s.len, fun i d e => ?_⟩
  rw [killE, List.getElem?_map] at e
  obtain ⟨o, e1, e2⟩ := Option.map_eq_some_iff.mp e
  cases o with
  | none => cases e2
  | some d0 =>
    dsimp only at e2
    split at e2
    · rename_i hl
      cases e2
      obtain ⟨v, h1, h2⟩ := s.rel i d e1
      exact ⟨v, h1, RV.lowB hb d v hl h2⟩
    · cases e2
def bodyOf (F : FS) (t : Tg) (sb : Sms) (sc : Bool) (x : D) (ρ : Env) (S : Store) : SOut := match putTg ρ t x with
  | some ρ' => if sc then scopeEnd S.length (exs F sb ρ' S) else exs F sb ρ' S
  | none => .bad
theorem ss_for {tg iter : Expr} {body : List Stmt} {it : It} {t : Tg} {sb : Sms} {sc : Bool} (hp : PassesOwn (model X.prog X.w) X.A X.env X.xe) (hc : X.calm = true) (hi : PI X tg iter (tEvI X.K F E it)) (hg : PG X tg (gOf X.K t)) (hb : PSs X body (tExs X.K F E sb))
    (hs : ∀ x, foldedSetIterable iter X.env x = pure x) (hpin : ∀ σ, E.pin σ) : PS X (.For tg iter body [] pos) (tEx X.K F E (.loop t it sb sc)) := by
  refine (ps_for hp hc hi hg hb hs).monoE fun N σ H h => ?_
  obtain ⟨ρ, S, β, sim, r, p⟩ := h
  rw [ex] at p
  refine ⟨ρ, S, β, sim, r, ?_⟩
  cases eo : evIt F it ρ S with
  | exc c S1 =>
    rw [eo] at p
    exact fun β1 H1 e1 r1 => p σ β1 H1 e1 r1 (sim.mono r e1)
  | bad => rw [eo] at p; exact p.elim
  | ok w S1 =>
    rw [eo] at p
    intro β1 H1 e1 r1 J wk lk
    have p0 : SPost X.K E β S H (lockEndS w.lock (forLoop (bodyOf F t sb sc) w.xs ρ S1)) N := p
    refine ⟨fun i m σi Hi => ∃ ρi Si βi, i ≤ w.xs.length ∧ m = w.xs.length - i ∧ Sim X.K E.pin βi Hi σi ρi ∧ RS X.K βi Si Hi ∧ Ext β1 S1 H1 βi Si Hi ∧ SPost X.K E β S H (lockEndS w.lock (forLoop (bodyOf F t sb sc) (w.xs.drop i) ρi Si)) N,
      ⟨w.xs.length, ρ, S1, β1, Nat.zero_le _, rfl, sim.mono r e1, r1, .refl, p0⟩, fun i m σi Hi hW => ?_⟩
    obtain ⟨ρi, Si, βi, hil, hm, si, ri, ei, pi⟩ := hW
    by_cases hi' : i < w.xs.length
    · right
      have hd : w.xs[i]? = some w.xs[i] := List.getElem?_eq_getElem hi'
      obtain ⟨go, yl⟩ := wk.go βi Si Hi ei ri i _ hd
      have hdrop : w.xs.drop i = w.xs[i] :: w.xs.drop (i + 1) := List.drop_eq_getElem_cons hi'
      rw [hdrop, forLoop] at pi
      refine ⟨go, fun σ' H' => ∃ ρi Si βi, i + 1 ≤ w.xs.length ∧ w.xs.length - (i + 1) = w.xs.length - (i + 1) ∧ Sim X.K E.pin βi H' σ' ρi ∧ RS X.K βi Si H' ∧ Ext β1 S1 H1 βi Si H' ∧ SPost X.K E β S H (lockEndS w.lock (forLoop (bodyOf F t sb sc) (w.xs.drop (i + 1)) ρi Si)) N,
        fun σ' H' hN => ⟨_, by omega, hN⟩, fun x H' y => ?_⟩
      obtain ⟨r2, e2, hx⟩ := yl x H' y
      unfold bodyOf at pi
      cases ep : putTg ρi t w.xs[i] with
      | none => rw [ep] at pi; exact pi.elim
      | some ρ' =>
        rw [ep] at pi
        dsimp only at pi
        refine gOf_ok (p := fun _ => False) hx ep (si.mono ri e2).P fun σ2 s2 _ => ?_
        have sim2 : Sim X.K E.pin βi H' σ2 ρ' := s2.all (fun _ z => z.1) (hpin _)
        refine ⟨ρ', Si, βi, sim2, r2, ?_⟩
        have eb : Ext β S H βi Si H' := (e1.trans ei).trans e2
        cases ex4 : exs F sb ρ' Si with
        | bad =>
          rw [ex4] at pi
          cases sc <;> exact pi.elim
        | rt d S3 =>
          rw [ex4] at pi
          intro v β3 H3 e3 r3 hv
          have e3' := (eb.trans e3).unlock (l := w.lock) lk
          have r3' := r3.unlock w.lock
          cases sc <;> exact pi v β3 H3 e3' r3' hv
        | exc c ρ3 S3 =>
          rw [ex4] at pi
          intro σ3 β3 H3 e3 r3 s3
          have e3' := (eb.trans e3).unlock (l := w.lock) lk
          have r3' := r3.unlock w.lock
          cases sc <;> exact pi σ3 β3 H3 e3' r3' s3
        | nx ρ3 S3 =>
          rw [ex4] at pi
          intro σ3 β3 H3 e3 r3 s3
          cases sc with
          | false => exact ⟨ρ3, S3, β3, hi', rfl, s3, r3, (ei.trans e2).trans e3, pi⟩
          | true =>
            rw [if_pos rfl] at pi
            simp only [scopeEnd] at pi
            by_cases hcl : closedS Si.length (S3.take Si.length) = true
            · rw [if_pos hcl] at pi
              obtain ⟨r4, e4⟩ := Ext.cut r2 e3 r3 hcl
              obtain ⟨new, ebn, _⟩ := e3.pre
              refine ⟨_, _, βi, hi', rfl, s3.kill fun m a hm q => ?_, r4, (ei.trans e2).trans e4, pi⟩
              rw [ebn, List.getElem?_append_left (by rw [ri.len]; exact hm)] at q
              exact q
            · rw [if_neg hcl] at pi
              exact ⟨ρ3, S3, β3, hi', rfl, s3, r3, (ei.trans e2).trans e3, pi⟩
    · left
      have hil' : i = w.xs.length := by omega
      refine ⟨wk.stop βi Si Hi ei ri i (by omega), ?_⟩
      rw [hil', List.drop_length, forLoop] at pi
      exact pi σi βi Hi ((e1.trans ei).unlock lk) (ri.unlock _) si
end
end Ev
set_option Elab.async false
set_option linter.all false
set_option maxRecDepth 100000
/-! Eng13a: ranges with a step, lists turned round. -/
namespace Ev
open PySem L2
section
variable {K : PySem.W.Frag} {β : List Addr} {S : Store} {H : Hp} {l : Option Nat}
theorem stepFrom_get : ∀ (n : Nat) (lo c : Int) (i : Nat), (stepFrom lo c n)[i]? = if i < n then some (.int (lo + (i : Nat) * c)) else none
  | 0, lo, c, i => by rw [stepFrom]; simp
  | n + 1, lo, c, i => by
    rw [stepFrom]
    cases i with
    | zero => simp
    | succ i =>
      rw [List.getElem?_cons_succ, stepFrom_get n (lo + c) c i]
      by_cases h : i < n
      · rw [if_pos h, if_pos (by omega)]
        congr 2
        rw [Int.natCast_add, Int.add_mul]
        omega
      · rw [if_neg h, if_neg (by omega)]
theorem stepFrom_len (c : Int) : ∀ (n : Nat) (lo : Int), (stepFrom lo c n).length = n
  | 0, _ => rfl
  | n + 1, lo => by rw [stepFrom, List.length_cons, stepFrom_len c n]
theorem walk_rangeC (lo c : Int) (n : Nat) : WalkOk K ⟨stepFrom lo c n, l⟩ β S H (Itc lo c n) := by
  refine ⟨fun β1 S1 H1 e1 r1 i d hd => ?_, fun β1 S1 H1 e1 r1 i hi => ?_⟩
  · rw [stepFrom_get] at hd
    split at hd
    · rename_i hi
      cases hd
      refine ⟨hi, fun x H' y => ?_⟩
      obtain ⟨rfl, rfl⟩ := y
      exact ⟨r1, .refl, by rw [RV]⟩
    · cases hd
  · rw [stepFrom_len] at hi; exact hi
end
theorem sm30_of {i : Int} (h : sm30 i = true) : -1073741824 < i ∧ i < 1073741824 := by
  unfold sm30 at h
  rw [Bool.and_eq_true] at h
  exact ⟨of_decide_eq_true h.1, of_decide_eq_true h.2⟩
theorem rgN_nn {i j c : Int} (hc : c ≠ 0) : 0 ≤ rgN i j c ∧ rgN i j c ≤ 4294967296 ∨ ¬ (-1073741824 < i ∧ i < 1073741824 ∧ -1073741824 < j ∧ j < 1073741824) := by
  by_cases hh : (-1073741824 < i ∧ i < 1073741824 ∧ -1073741824 < j ∧ j < 1073741824)
  · left
    unfold rgN
    split
    · rename_i h0
      split
      · have h1 : 0 ≤ (j - i - 1) / c := Int.ediv_nonneg (by omega) (by omega)
        have h2 : (j - i - 1) / c ≤ j - i - 1 := Int.ediv_le_self _ (by omega)
        omega
      · omega
    · split
      · have h1 : 0 ≤ (i - j - 1) / (-c) := Int.ediv_nonneg (by omega) (by omega)
        have h2 : (i - j - 1) / (-c) ≤ i - j - 1 := Int.ediv_le_self _ (by omega)
        omega
      · omega
  · exact .inr hh
theorem fits_of {i : Int} (h : -4294967297 ≤ i ∧ i ≤ 4294967297) : Builtin.Range.rangeFitsLong i = true := by
  unfold Builtin.Range.rangeFitsLong
  rw [Bool.and_eq_true]
  constructor <;> apply decide_eq_true <;> omega
theorem rgC_of {i j c : Int} (hi : sm30 i = true) (hj : sm30 j = true) (hc : sm30 c = true) (h0 : c ≠ 0) : RgC i j c (rgN i j c).toNat := by
  have a := sm30_of hi
  have b := sm30_of hj
  have d := sm30_of hc
  have e : Builtin.Range.rangeSize i j c = rgN i j c := rfl
  have g := rgN_nn (i := i) (j := j) h0
  have g : 0 ≤ rgN i j c ∧ rgN i j c ≤ 4294967296 := g.resolve_right fun z => z ⟨a.1, a.2, b.1, b.2⟩
  refine ⟨h0, by omega, ?_, by rw [e]; omega⟩
  unfold Builtin.Range.small
  rw [e, fits_of (by omega), fits_of (by omega), fits_of (by omega), fits_of (by omega), Bool.true_and, Bool.true_and, Bool.true_and, Bool.true_and, Bool.or_eq_true]
  right
  split <;> exact fits_of (by omega)
section
variable {X : Cx} {F : FS} {E : XW} {tg a b c : Expr} {ia ib ic : Ex} {pos p : Pos}
theorem i_range3 (hg : Gl X "range") (hm : X.mg "range" = none) (ha : PE X a (tEv X.K F E ia)) (hb : PE X b (tEv X.K F E ib)) (hc : PE X c (tEv X.K F E ic)) (hst : notStar a = true) (hst2 : notStar b = true) (hst3 : notStar c = true) :
    PI X tg (.Call (.Name "range" p) [a, b, c] [] pos) (tEvI X.K F E (.range3 ia ib ic)) := by
  refine (pi_range3 hg hm (pa_cons ha (pa_cons hb (pa_cons hc pa_nil (star_cons hst3)) (star_cons hst2)) (star_cons hst)) (star_cons hst) (star_any (by simp [hst2, hst3]))).monoE fun σ H R h => ?_
  obtain ⟨ρ, S, β, sim, r, p⟩ := h
  rw [evIt] at p
  refine seqE sim r p fun d S1 β1 H1 v e1 sim1 r1 hv p1 => ?_
  refine seqE sim1 r1 p1 fun d2 S2 β2 H2 v2 e2 sim2 r2 hv2 p2 => ?_
  refine seqE sim2 r2 p2 fun d3 S3 β3 H3 v3 e3 sim3 r3 hv3 p3 => ?_
  unfold range3D at p3
  split at p3
  · split at p3
    · rename_i i j k hj
      rw [Bool.and_eq_true, Bool.and_eq_true, Bool.and_eq_true] at hj
      rw [RV] at hv hv2 hv3
      exact ⟨i, j, k, _, by rw [hv, hv2, hv3], rgC_of hj.1.1 hj.1.2 hj.2.1 (of_decide_eq_true hj.2.2), p3 β3 H3 .refl r3 _ (walk_rangeC i k _) (fun _ h => nomatch h)⟩
    · exact p3.elim
  · exact p3.elim
theorem RVs.rev {K : PySem.W.Frag} {β : List Addr} {H : Hp} : ∀ {ds : List D} {vs : List V}, RVs K β H ds vs → RVs K β H ds.reverse vs.reverse
  | [], vs, h => by rw [RVs] at h; subst h; exact RVs.nil
  | d :: ds, vs, h => by
    rw [RVs] at h
    obtain ⟨v, r, rfl, h1, h2⟩ := h
    rw [List.reverse_cons, List.reverse_cons]
    exact RVs.append (RVs.rev h2) (RVs.one h1)
/-- xs[::-1] -/
theorem s_rev {k : Nat} {p1 p2 p3 : Pos} (ha : PE X a (tEv X.K F E ia)) : PE X (.Subscript a (.Slice none none (some (.UnaryOp .USub (.Constant (.int 1) k p1) p2)) p3) pos) (tEv X.K F E (.rev ia)) := by
  refine (pe_revL ha).monoE fun σ H Q h => ?_
  obtain ⟨ρ, S, β, sim, r, p⟩ := h
  rw [PV, ev] at p
  refine seqE sim r p fun d S1 β1 H1 v e1 sim1 r1 hv p1 => ?_
  unfold revD at p1
  split at p1
  · rename_i xs hl
    obtain ⟨a', vs, rfl, sq, z⟩ := r1.list hv hl
    exact ⟨a', vs, rfl, sq, fun q hq => PV.newList (σ := σ) r1 p1 z.rev hq⟩
  · exact p1.elim
end
end Ev
set_option Elab.async false
set_option linter.all false
set_option maxRecDepth 100000
set_option maxHeartbeats 2000000
/-! EngS1: sorted(xs, key=f) over HandS's heaps. -/
namespace Ev
open PySem L2 PySem.W PySem.Calls PyProof.Rows
/-- the object at a is o -/
def XO (a : Addr) (o : Obj) : HO := .ext fun h => h.get? a = some o
theorem xo_ok {P : Program} {w : World} {H : Hp} {h : Heap} {a : Addr} {o : Obj} (e : h.get? a = some o) : ObjOk P w H h a (XO a o) :=
  ⟨e, ⟨o, e⟩, fun _ _ q k => k o q⟩
theorem xo_at {P : Program} {w : World} {H : Hp} {h : Heap} {a : Addr} {o : Obj} (x : HOk P w H h) (e : H a = some (XO a o)) : h.get? a = some o := (x a _ e).1
/-- zs are xs sorted by keys that read as kz -/
def SortedV (kz : List PyData) (xs zs : List V) : Prop := ∀ (β : Type) (R : V → β → Prop) (bs : List β) (k : β → PyData), kz = bs.map k → EachIs R xs bs → EachIs R zs (bs.mergeSort (dataLe false k))
theorem each_vals {β : Type} {R : V → β → Prop} : ∀ {xs : List V} {us : List Value} {bs : List β}, Vals xs us → EachIs R xs bs → EachIs (fun u b => ∃ x, RelV x u ∧ R x b) us bs
  | _, _, _, .nil, .nil => .nil
  | _, _, _, .cons r t, .cons h q => .cons ⟨_, r, h⟩ (each_vals t q)
theorem vals_each {β : Type} {R : V → β → Prop} : ∀ {zs : List V} {us : List Value} {bs : List β}, Vals zs us → EachIs (fun u b => ∃ x, RelV x u ∧ R x b) us bs → EachIs R zs bs
  | _, _, _, .nil, .nil => .nil
  | _, _, _, .cons r t, .cons ⟨x, rx, h⟩ q => .cons (by rw [RelV.inj r rx]; exact h) (vals_each t q)
theorem keyed_vals {kz : List PyData} {xs : List V} {us out : List Value} (h : KeyedOut false kz us out) (r : Vals xs us) : ∃ zs, Vals zs out := by
  have m : ∀ o ∈ out, ∃ x, RelV x o := fun o ho => by
    have hm : o ∈ us := h.mem ho
    obtain ⟨i, hi⟩ := List.getElem?_of_mem hm
    have hl : i < us.length := (List.getElem?_eq_some_iff.mp hi).1
    have e := r.length
    obtain ⟨x, hx⟩ : ∃ x, xs[i]? = some x := ⟨_, List.getElem?_eq_getElem (by omega)⟩
    obtain ⟨u, hu, ru⟩ := r.get hx
    rw [hi] at hu
    cases hu
    exact ⟨x, ru⟩
  clear h
  induction out with
  | nil => exact ⟨[], .nil⟩
  | cons o out ih =>
    obtain ⟨x, hx⟩ := m o List.mem_cons_self
    obtain ⟨zs, hz⟩ := ih fun o' h' => m o' (List.mem_cons_of_mem _ h')
    exact ⟨x :: zs, .cons hx hz⟩
theorem keyed_sorted {kz : List PyData} {xs zs : List V} {us out : List Value} (h : KeyedOut false kz us out) (r : Vals xs us) (z : Vals zs out) : SortedV kz xs zs := by
  intro β R bs k hk e
  subst hk
  exact vals_each z (keyedOut_each k h (each_vals r e))
section
variable {X : Cx} {pins : List (Addr × Obj)} {σ : L2.St} {H : Hp} {s : Shared} {E : Value → Shared → Prop} {a kS : Addr}
/-- the end: the keys forgotten, the list filled -/
theorem key_tailI {st : SortSt} {A : Around} {P : PySem.Fin → Shared → Prop} {e1 : Nat} {ks zs : List V} {out : List Value} (I : Inv X pins σ H s) (ha : H a = some (XO a (seqObj "list" #[] e1))) (hk : H kS = some (.lst ks)) (hne : kS ≠ a)
    (hz : Vals zs out) (hl : out.length ≤ sizeLine) (hfl : failedOf st = none) (ho : (arrOf st).map (·.2) = out.toArray)
    (h : ∀ s', Inv X pins σ (upd (upd H kS (.lst [])) a (.lst zs)) s' → P (.done (.ret .none)) s') :
    wpAny (model X.prog X.w) A (ksk_tail a false e1 (.ref kS) st) P E s := by
  obtain ⟨hkl, its, n, rk, hkg⟩ := I.hok kS _ hk
  have hag := xo_at I.hok ha
  have s1 := Heap.SameBut.update s.heap kS (Obj.mapSeq fun _ => (#[] : Array Value))
  have na1 : (s.heap.update kS (Obj.mapSeq fun _ => (#[] : Array Value))).get? a = some (seqObj "list" #[] e1) := (s1.2 a (Ne.symm hne)).trans hag
  have s2 := Heap.SameBut.update (s.heap.update kS (Obj.mapSeq fun _ => (#[] : Array Value))) a (Obj.mapSeq fun _ => out.toArray)
  obtain ⟨c1, hc1⟩ : ∃ c1, (s.heap.update kS (Obj.mapSeq fun _ => (#[] : Array Value))).get? kS = some (seqObj "list" #[] c1) := ⟨_, get?_update_seq hkg fun _ => #[]⟩
  obtain ⟨c2, hc2⟩ : ∃ c2, ((s.heap.update kS (Obj.mapSeq fun _ => (#[] : Array Value))).update a (Obj.mapSeq fun _ => out.toArray)).get? a = some (seqObj "list" out.toArray c2) :=
    ⟨_, get?_update_seq na1 fun _ => out.toArray⟩
  have hz2 : out.toArray.size ≤ sizeLine + 1 := by rw [List.size_toArray]; exact Nat.le_succ_of_le hl
  have hks : its.toArray.size ≤ sizeLine := by rw [List.size_toArray, ← rk.length]; exact hkl
  unfold ksk_tail
  try dsimp only
  rw [ho]
  refine wpAny_bind (listUpdate_at hkg rfl ?_ hks (Nat.zero_le _))
  refine wpAny_bind (wpAny_letGo ?_)
  refine wpAny_bind (seqEpoch_at na1 rfl ?_)
  refine wpAny_bind (listUpdate_at na1 rfl ?_ (Nat.zero_le _) hz2)
  rw [hfl]
  simp only [bne_self_eq_false, Bool.false_eq_true, if_false]
  refine wpAny_pure (h _ ?_)
  have I1 : Inv X pins σ (upd H kS (.lst [])) { s with heap := s.heap.update kS (Obj.mapSeq fun _ => (#[] : Array Value)), toks := s.toks } :=
    I.write (x := kS) (e := kS) (by rw [hk]; trivial) (.inl rfl) (fun b u hb e => (s1.2 b hb).trans e) ⟨_, hc1⟩ ⟨Nat.zero_le _, [], c1, .nil, hc1⟩
  have h1 : upd H kS (.lst []) a = some (XO a (seqObj "list" #[] e1)) := by rw [upd_ne (Ne.symm hne)]; exact ha
  exact I1.write (x := a) (e := a) (t' := s.toks) (by rw [h1]; trivial) (.inl rfl) (fun b u hb e => (s2.2 b hb).trans e) ⟨_, hc2⟩ ⟨by rw [hz.length]; exact hl, out, c2, hz, hc2⟩
/-- the keys are there: the sort -/
theorem key_endI {A : Around} {κ : PyProof.Rows.KeyKind} {P : PySem.Fin → Shared → Prop} {e1 : Nat} {ks : List V} {keys : Array Value} {vs : List Value} (I : Inv X pins σ H s) (ha : H a = some (XO a (seqObj "list" #[] e1))) (hk : H kS = some (.lst ks)) (hne : kS ≠ a)
    (S : SortsAt X.prog X.w A s κ keys.toList) (hsz : keys.size = vs.length) (hZ : vs.length ≤ sizeLine)
    (h : ∃ zs, Vals zs (sortVals κ false keys.toList vs) ∧ ∀ s', Inv X pins σ (upd (upd H kS (.lst [])) a (.lst zs)) s' → P (.done (.ret .none)) s') :
    wpAny (model X.prog X.w) A (ksk_end a false vs.toArray e1 (.ref kS) keys) P E s := by
  obtain ⟨zs, hzs, h⟩ := h
  obtain ⟨kd, h1, h2⟩ := S.kind
  have hkl : keys.toList.length = vs.length := by rw [Array.length_toList]; exact hsz
  have hK : PyProof.Rows.KeysOf κ (keys.zip vs.toArray) := keysOf_zip S.keys
  have hol : (sortVals κ false keys.toList vs).length = vs.length := sortVals_length false hkl
  have hss : (keys.zip vs.toArray).size = vs.length := by rw [Array.size_zip, hsz, List.size_toArray, Nat.min_self]
  have fin : ∀ st' : SortSt, (arrOf st').Perm (keys.zip vs.toArray) → SortedToK κ (arrOf st') (keys.zip vs.toArray).size → Stable κ (arrOf st') (keys.zip vs.toArray) → (arrOf st').map (·.2) = (sortVals κ false keys.toList vs).toArray := by
    intro st' hp hs ht
    have e := sort_out (rev := false) (keys := keys) (items := vs.toArray) (xs := arrOf st') (κ := κ) hK hp hs ht
    have e' := congrArg List.toArray e
    rw [Array.toArray_toList] at e'
    exact e'
  unfold ksk_end
  try dsimp only
  simp only [Bool.false_eq_true, if_false]
  by_cases hl2 : vs.toArray.size < 2
  · rw [if_pos hl2, if_pos hl2]
    refine wpAny_bind (wpAny_pure ?_)
    rw [StateT.run_pure]
    refine wpAny_bind (wpAny_pure ?_)
    try dsimp only
    refine key_tailI (st := SortSt.mk' general' (keys.zip vs.toArray) #[] 7 none) I ha hk hne hzs (by rw [hol]; exact hZ) rfl (fin _ (Array.Perm.refl _) ?_ (Stable.refl _)) h
    intro i j hij hj
    rw [hss] at hj
    rw [List.size_toArray] at hl2
    have : i = j := by omega
    subst this
    exact KeyOrd.kle_refl _
  · rw [if_neg hl2, if_neg hl2]
    rw [List.size_toArray] at hl2
    refine wpAny_bind (h2 (by omega) _ ?_)
    refine wpAny_bind (wpAny_mono (PyProof.Rows.H.wpS_sortRunsSt (κ := κ) (kd := kd) (a₀ := keys.zip vs.toArray)
      (st := SortSt.mk' kd (keys.zip vs.toArray) #[] 7 none)
      (Q := fun _ st' => failedOf st' = none ∧ (arrOf st').map (·.2) = (sortVals κ false keys.toList vs).toArray)
      h1 hK ⟨Array.Perm.refl _, rfl, rfl⟩ rfl (Stable.refl _) (by rw [hss]; omega) fun st' a1 a2 a3 a4 => ⟨a2, fin st' a1 a3 a4⟩) ?_ fun _ _ e => e)
    rintro ⟨⟨⟩, st'⟩ s' ⟨rfl, hf, ho⟩
    try dsimp only at ho ⊢
    exact key_tailI I ha hk hne hzs (by rw [hol]; exact hZ) hf ho h
/-- what is asked of the keys' calls -/
structure KeyRun (X : Cx) (pins : List (Addr × Obj)) (σ : L2.St) (A0 : Around) (f : Value) (xs : List V) (a kS : Addr) (o : Obj) (W : Nat → List V → Hp → Prop) (Q : VK) : Prop where
  at_ : ∀ i ks H1, W i ks H1 → H1 a = some (XO a o) ∧ H1 kS = some (.lst ks)
  turn : ∀ (i : Nat) v ks H1, xs[i]? = some v → ks.length = i → W i ks H1 → ∀ s1 u, Inv X pins σ H1 s1 → RelV v u →
    wpAny (model X.prog X.w) A0 (call f [u]) (EP X pins σ fun k H2 => H2 a = some (XO a o) ∧ H2 kS = some (.lst ks) ∧ W (i + 1) (ks ++ [k]) (upd H2 kS (.lst (ks ++ [k])))) (fun _ _ => False) s1
  done : ∀ ks H1, ks.length = xs.length → W xs.length ks H1 → ∃ kz : List PyData, DpAll X.K H1 ks kz ∧ AllAlike kz ∧ Sortable kz ∧ (∀ d ∈ kz, A0.units + d.depth < cLine) ∧
    ∀ zs, zs.length ≤ sizeLine → SortedV kz xs zs → Q (.ref a) (upd (upd H1 kS (.lst [])) a (.lst zs))
theorem dpAll_reads {K : PySem.W.Frag} : ∀ {ks : List V} {us : List Value} {kz : List PyData} {X : Cx} {pins : List (Addr × Obj)} {σ : L2.St} {H : Hp} {s : Shared}, Inv X pins σ H s → DpAll X.K H ks kz → Vals ks us → EachIs (fun v k => ∃ as, Reads s.heap v k as) us kz
  | [], us, kz, X, pins, σ, H, s, I, h, r => by
    cases r
    cases h
    exact .nil
  | x :: ks, us, kz, X, pins, σ, H, s, I, h, r => by
    cases r with
    | cons r1 r2 =>
      cases h with
      | cons h1 h2 => exact .cons (Dp.reads I _ x _ h1 r1) (dpAll_reads (K := K) I h2 r2)
theorem key_restI {A0 : Around} {f : Value} {xs : List V} {e1 : Nat} {W : Nat → List V → Hp → Prop} {Q : VK} {P : PySem.Fin → Shared → Prop} {vs : List Value} (hne : kS ≠ a) (KR : KeyRun X pins σ A0 f xs a kS (seqObj "list" #[] e1) W Q)
    (I : Inv X pins σ H s) (w0 : W 0 [] H) (rx : Vals xs vs) (hZ : vs.length ≤ sizeLine)
    (h : ∀ s', EP X pins σ Q (.ref a) s' → P (.done (.ret .none)) s') :
    wpAny (model X.prog X.w) A0 (ksk_rest a f false vs.toArray e1 (.ref kS)) P E s := by
  unfold ksk_rest
  refine wpAny_bind (wpAny_rule ?_)
  first
    | rw [List.forIn_toArray]
    | (rw [← Array.forIn_toList]; simp only [List.toList_toArray])
    | rw [← Array.forIn_toList]
  refine wpAny_bind (ksk_fold (fun i s' => ∃ ks H', Inv X pins σ H' s' ∧ ks.length = i ∧ W i ks H') vs 0 s ⟨[], H, I, rfl, w0⟩ ?step ?done)
  case step =>
    rintro j x s' hx ⟨ks, H', I', hks, hw⟩
    simp only [Nat.zero_add] at hks hw ⊢
    have hj : j < vs.length := (List.getElem?_eq_some_iff.mp hx).1
    have hxl := rx.length
    obtain ⟨v, hv⟩ : ∃ v, xs[j]? = some v := ⟨_, List.getElem?_eq_getElem (by omega)⟩
    obtain ⟨u, hu, ru⟩ := rx.get hv
    rw [hx] at hu
    cases hu
    refine wpAny_bind (wpAny_attempt (wpAny_mono (KR.turn j v ks H' hv hks hw s' x I' ru) (fun y s'' he => ?_) fun _ _ hF => hF.elim))
    obtain ⟨kv, H2, I2, ry, h2a, h2k, hw2⟩ := he
    obtain ⟨hkl, its, n, rk, hkg⟩ := I2.hok kS _ h2k
    have s1 := Heap.SameBut.update s''.heap kS (Obj.mapSeq (·.push y))
    obtain ⟨c2, hc2⟩ : ∃ c2, (s''.heap.update kS (Obj.mapSeq (·.push y))).get? kS = some (seqObj "list" (its.toArray.push y) c2) := ⟨_, get?_update_seq hkg (·.push y)⟩
    have il : its.length = j := by rw [← rk.length]; exact hks
    try dsimp only
    refine wpAny_bind (listUpdate_at hkg rfl ?_ (by rw [List.size_toArray]; omega) (by rw [Array.size_push, List.size_toArray]; omega))
    refine wpAny_pure ⟨rfl, ks ++ [kv], _, ?_, by simp [hks], hw2⟩
    refine I2.write (x := kS) (e := kS) (t' := s''.toks) (by rw [h2k]; trivial) (.inl rfl) (fun b u hb e => (s1.2 b hb).trans e) ⟨_, hc2⟩ ⟨by simp only [List.length_append, List.length_singleton]; omega, its ++ [y], c2, rk.append (.cons ry .nil), ?_⟩
    rw [hc2]
    simp [seqObj]
  case done =>
    rintro s' ⟨ks, H', I', hks, hw⟩
    simp only [Nat.zero_add] at hks hw
    have hxl := rx.length
    rw [← hxl] at hks hw
    obtain ⟨ha, hk⟩ := KR.at_ _ _ _ hw
    obtain ⟨kz, dp, al, so, hu, fin⟩ := KR.done ks H' hks hw
    obtain ⟨hkl, its, n, rk, hkg⟩ := I'.hok kS _ hk
    have er := dpAll_reads (K := X.K) I' dp rk
    have hil : its.length = vs.length := by rw [← rk.length, hks, hxl]
    try dsimp only
    refine wpAny_bind (listItems_at hkg rfl ?_)
    have ko : KeyedOut false kz vs (sortVals (dataKind s'.heap kz) false its vs) := ⟨s'.heap, its, al, rfl, er⟩
    obtain ⟨zs, hzs⟩ := keyed_vals ko rx
    have zl : zs.length ≤ sizeLine := by
      rw [hzs.length, ko.length (by rw [← er.length]; exact hil)]
      exact hZ
    refine key_endI (κ := dataKind s'.heap kz) I' ha hk hne (SortsAt.data (s := s') (by simpa using er) al so hu) (by rw [List.size_toArray]; exact hil) hZ ⟨zs, by simpa using hzs, fun s2 I2 => h s2 ⟨.ref a, _, I2, rfl, fin zs zl (keyed_sorted ko rx hzs)⟩⟩
/-- sorted(xs, key=f) -/
theorem sortedK_run {l : Addr} {q : Addr} {xs : List V} {Q : VK} {Ex : Value → Shared → Prop} (I : Inv X pins σ H s) (sq : SqL X.K H l xs)
    (h : ∀ a kS o, (∃ hp : Heap, hp.get? a = some o) → (∃ n, o = seqObj "list" #[] n) → H a = none → H kS = none → kS ≠ a → ∃ W : Nat → List V → Hp → Prop, W 0 [] (upd (upd H a (XO a o)) kS (.lst [])) ∧ KeyRun X pins σ X.A.in1.in1 (.ref q) xs a kS o W Q) :
    wpAny (model X.prog X.w) X.A (call (.builtin "sorted") [.ref l] [(Str.ofString "key", .ref q)]) (EP X pins σ Q) Ex s := by
  obtain ⟨its, rx, pl, hz⟩ := I.list sq
  have hl : s.heap.IsList l its.toArray := by
    obtain ⟨o, n, e1, e2, _, e3⟩ := pl
    exact ⟨o, e1, e2, n, e3⟩
  have hzl : its.length ≤ sizeLine := by rw [← rx.length]; exact hz
  refine sorted_of_sort hl hzl (ksk_s1 _ _) (fun _ => ksk_l1 _ _) fun E' => ?_
  rw [ksk_t1]
  have ho := copyHeap_at s.heap its
  have na0 : H (s.heap.objs.size + 1) = none := I.hok.fresh (Nat.le_succ _)
  have s1 := Heap.SameBut.update (copyHeap s.heap its) (s.heap.objs.size + 1) (Obj.mapSeq fun _ => (#[] : Array Value))
  obtain ⟨e1, ho1⟩ : ∃ e1, ((copyHeap s.heap its).update (s.heap.objs.size + 1) (Obj.mapSeq fun _ => (#[] : Array Value))).get? (s.heap.objs.size + 1) = some (seqObj "list" #[] e1) := ⟨_, get?_update_seq ho fun _ => #[]⟩
  have old1 : ∀ b u, s.heap.get? b = some u → ((copyHeap s.heap its).update (s.heap.objs.size + 1) (Obj.mapSeq fun _ => (#[] : Array Value))).get? b = some u := fun b u e => by
    rw [s1.2 b (Nat.ne_of_lt (Nat.lt_succ_of_lt (Heap.lt_size e)))]
    exact copyHeap_old e
  have I1 : Inv X pins σ (upd H (s.heap.objs.size + 1) (XO (s.heap.objs.size + 1) (seqObj "list" #[] e1))) { s with heap := (copyHeap s.heap its).update (s.heap.objs.size + 1) (Obj.mapSeq fun _ => (#[] : Array Value)), toks := s.toks } :=
    I.laid old1 (Nat.le_succ _) (xo_ok ho1)
  generalize hh1 : (copyHeap s.heap its).update (s.heap.objs.size + 1) (Obj.mapSeq fun _ => (#[] : Array Value)) = h1 at *
  have I2 : Inv X pins σ (upd H (s.heap.objs.size + 1) (XO (s.heap.objs.size + 1) (seqObj "list" #[] e1))) { s with heap := h1.push (seqObj "tuple" its.toArray 0), toks := s.toks } :=
    I1.kept (t' := s.toks) fun b u e => Heap.get?_push_of_some _ e
  have I3 : Inv X pins σ (upd (upd H (s.heap.objs.size + 1) (XO (s.heap.objs.size + 1) (seqObj "list" #[] e1))) (h1.push (seqObj "tuple" its.toArray 0)).objs.size (.lst [])) { s with heap := (h1.push (seqObj "tuple" its.toArray 0)).push (seqObj "list" #[] 0), toks := s.toks } :=
    I2.laid (t' := s.toks) (fun b u e => Heap.get?_push_of_some _ e) (Nat.le_refl _) ⟨Nat.zero_le _, [], 0, .nil, Heap.get?_push_size _ rfl⟩
  have lt1 : s.heap.objs.size + 1 < h1.objs.size := Heap.lt_size ho1
  have hsz : (h1.push (seqObj "tuple" its.toArray 0)).objs.size = h1.objs.size + 1 := size_push' _ _
  have nk0 : H (h1.push (seqObj "tuple" its.toArray 0)).objs.size = none := I.hok.fresh (by rw [hsz]; omega)
  have hne : (h1.push (seqObj "tuple" its.toArray 0)).objs.size ≠ s.heap.objs.size + 1 := by rw [hsz]; omega
  obtain ⟨W, w0, KR⟩ := h (s.heap.objs.size + 1) (h1.push (seqObj "tuple" its.toArray 0)).objs.size (seqObj "list" #[] e1) ⟨_, ho1⟩ ⟨_, rfl⟩ na0 nk0 hne
  unfold ksk_tree
  refine wpAny_bind (listItems_at ho rfl ?_)
  refine wpAny_bind (listUpdate_at ho rfl ?_ (by rw [List.size_toArray]; exact hzl) (Nat.zero_le _))
  show wpAny _ _ _ _ _ { s with heap := (copyHeap s.heap its).update (s.heap.objs.size + 1) (Obj.mapSeq fun _ => (#[] : Array Value)) }
  rw [hh1]
  refine wpAny_bind (seqEpoch_at ho1 rfl ?_)
  refine wpAny_bind (wpAny_newTuple ?_ (by show its.length ≤ _; exact hzl))
  refine wpAny_bind (wpAny_newList ?_ (Nat.zero_le _))
  refine wpAny_holding ?_
  exact key_restI hne KR I3 w0 rx hzl fun s' hq => ⟨rfl, hq⟩
end
end Ev
set_option Elab.async false
set_option linter.all false
set_option maxRecDepth 100000
set_option maxHeartbeats 2000000
/-! EngS2: a lambda of one parameter, made and called. -/
namespace Ev
open PySem L2 PySem.Spec PyProof.Rows LamX
/-- its names: the parameter, captured ones, globals -/
structure LamP (sc scope : Scope) (p : Str) : Prop where
  kind : scope.kind = .function
  co : scope.isCoroutine = false
  gen : scope.isGenerator = false
  par : scope.names.lookup p = some .local
  own : ∀ y ∈ scope.names, y.2 ≠ .cell ∧ (y.2 = .local → y.1 = p)
  free : ∀ y ∈ scope.names, y.2 = .free → sc.names.lookup y.1 = some .cell ∨ sc.names.lookup y.1 = some .free
def lamPB (sc scope : Scope) (p : Str) : Bool :=
  decide (scope.kind = .function) && !scope.isCoroutine && !scope.isGenerator && decide (scope.names.lookup p = some .local) && scope.names.all fun y => !decide (y.2 = .cell) && (!decide (y.2 = .local) || decide (y.1 = p)) && (!decide (y.2 = .free) || decide (sc.names.lookup y.1 = some .cell) || decide (sc.names.lookup y.1 = some .free))
theorem lamP_by {sc scope : Scope} {p : Str} (h : lamPB sc scope p = true) : LamP sc scope p := by
  unfold lamPB at h
  simp only [Bool.and_eq_true, Bool.or_eq_true, Bool.not_eq_true', decide_eq_true_eq, decide_eq_false_iff_not, List.all_eq_true] at h
  obtain ⟨⟨⟨⟨h1, h2⟩, h3⟩, h4⟩, h5⟩ := h
  refine ⟨h1, h2, h3, h4, fun y hy => ⟨(h5 y hy).1.1, fun e => ?_⟩, fun y hy e => ?_⟩
  · rcases (h5 y hy).1.2 with z | z
    · exact absurd e z
    · exact z
  · rcases (h5 y hy).2 with (z | z) | z
    · exact absurd e z
    · exact .inl z
    · exact .inr z
theorem LamP.has {X : Cx} {scope : Scope} {p : Str} (L : LamP X.env.scope scope p) (ok : X.Ok) : ∀ y ∈ scope.names, y.2 = .free → ∃ c, X.env.cells.lookup y.1 = some c := fun y hy e => by
  rcases L.free y hy e with k | k
  · exact ok.has _ (.inl k)
  · exact ok.has _ (.inr k)
section
variable {X : Cx} {pins : List (Addr × Obj)} {σ : L2.St} {H : Hp} {s : Shared}
theorem lam_startP {A : Around} {E : XK} {scope : Scope} {f c' : Addr} {h₁ : Heap} {tk i : Nat} {p : Str} {v : V} {u : Value} (I : Inv X pins σ H s) (L : LamP X.env.scope scope p) (e0 : Env0 X.prog X.w X.K X.mg X.base A X.stack s H) (hd : A.handled = none)
    (hns : h₁.Ns s.heap.objs.size fun y => ([(p, u)] : List (Str × Value)).reverse.lookup y) (kp : ∀ b o, s.heap.get? b = some o → h₁.get? b = some o) (hi : X.N[i]? = some p) (hN : X.N.Nodup) (ru : RelV v u) :
    Inv (lamCx X A X.stack s H E scope f c') [] (σ.set i (some v)) H { s with heap := h₁, toks := tk } := by
  have hfree := L.has I.ok
  have cm : ∀ {y c}, (cloFrom X.env.cells scope.names []).lookup y = some c → X.env.cells.lookup y = some c := fun {y c} e => by
    rcases cloFrom_mem (PySem.mem_of_lookup e) with hm | ⟨h1, h2⟩
    · cases hm
    · obtain ⟨c1, hc⟩ := hfree _ h1 rfl
      have hc : X.env.cells.lookup y = some c1 := hc
      have e2 : c = c1 := by
        rw [h2, hc] <;> rfl
      rw [e2]
      exact hc
  have look : ∀ {y}, scope.names.lookup y = some .free → ∃ c, (cloFrom X.env.cells scope.names []).lookup y = some c := fun {y} hl => by
    have hy : (y, NameKind.free) ∈ scope.names := PySem.mem_of_lookup hl
    exact mem_lookup (cloFrom_has (cells := X.env.cells) (acc := []) hy)
  have noA : ∀ b : Addr, b ∉ (lamCx X A X.stack s H E scope f c').ex := fun b z => absurd (show b ∈ ([] : List Addr) from z) (by simp)
  have il : i < σ.length := by
    rw [I.len]
    exact (List.getElem?_eq_some_iff.mp hi).1
  refine ⟨⟨e0.mod, L.kind, rfl, rfl, Nat.le_refl _, fun y z c e1 e2 => I.ok.inj y z c (cm e1) (cm e2), fun y hy => ?_, fun y c z _ => ?_, fun _ => hd, Around.frames_deeper e0.frames, .inr ⟨rfl, rfl⟩, fun b z => absurd z (noA b), e0.bs, e0.bsz, fun b _ _ => noA b,
      fun b z => absurd z (noA b), e0.funs, e0.frf⟩,
    rfl, e0.bare, Un.kept kp, ⟨_, hns, fun j y w e1 e2 e3 => ?_⟩, fun y c e => ?_, e0.hok.fresh (Nat.le_refl _), fun y c e => ?_, fun q hq => absurd (show q ∈ ([] : List (Addr × Obj)) ++ [] from hq) (by simp), e0.hok.kept kp, by rw [List.length_set]; exact I.len⟩
  · have hy : scope.names.lookup y = some .cell ∨ scope.names.lookup y = some .free := hy
    rcases hy with hy | hy
    · exact absurd rfl (L.own _ (PySem.mem_of_lookup hy)).1
    · exact look hy
  · have z : false = true := z
    cases z
  · have e3 : Vis scope y := e3
    have e1 : X.N[j]? = some y := e1
    rcases e3 with k | k | k
    · have ey : y = p := (L.own _ (PySem.mem_of_lookup k)).2 rfl
      subst ey
      have ej : j = i := nodup_ix hN e1 hi
      subst ej
      rw [List.getElem?_set_self il] at e2
      cases e2
      exact ⟨u, ru, .inl ⟨k, by simp⟩⟩
    · exact absurd rfl (L.own _ (PySem.mem_of_lookup k)).1
    · have ne : j ≠ i := fun z => by
        subst z
        rw [e1] at hi
        cases hi
        rw [L.par] at k
        cases k
      rw [List.getElem?_set_ne (Ne.symm ne)] at e2
      obtain ⟨m, hn, hl⟩ := I.loc
      have hvis : Vis X.env.scope y := (L.free _ (PySem.mem_of_lookup k) rfl).elim (fun k => .inr (.inl k)) (fun k => .inr (.inr k))
      obtain ⟨w', r, q⟩ := hl j y w e1 e2 hvis
      obtain ⟨c2, h2⟩ := look k
      refine ⟨w', r, .inr ⟨.inr k, c2, h2, ?_⟩⟩
      have c1 := cm h2
      rcases q with ⟨k', _⟩ | ⟨_, c3, e', ⟨o, ho, hdd⟩⟩
      · have k' : X.env.scope.names.lookup y = some .local := k'
        rcases L.free _ (PySem.mem_of_lookup k) rfl with k2 | k2 <;> rw [show X.env.scope.names.lookup y = _ from k2] at k' <;> cases k'
      · rw [c1] at e'
        cases e'
        exact ⟨o, kp _ _ ho, hdd⟩
  · obtain ⟨w', o, ho, hdd⟩ := I.cell y c (cm e)
    exact ⟨w', o, kp _ _ ho, hdd⟩
  · exact I.freeC y c (cm e)
/-- the call -/
theorem lam_callP {A : Around} {k i : Nat} {scope : Scope} {f c' : Addr} {p q : Str} {v : V} {u pm ctv : Value} {params : Arguments} {body : Expr} {tb : TE} {Q : VK} {Ex : Value → Shared → Prop} (I : Inv X pins σ H s) (L : LamP X.env.scope scope p) (hr : Room (k + 1) A) (hfr : A.frames = some X.stack)
    (hf : s.heap.get? f = some (PySem.W.kla_obj "<lambda>" q params body scope (cloFrom X.env.cells scope.names []) pm c' ctv)) (hq : q = X.env.qual ++ "<lambda>") (hc : H c' = some (CodeO c' q))
    (hbind : bindArgs (PySem.W.kla_fn "<lambda>" q params body scope (cloFrom X.env.cells scope.names []) pm (.ref c') ctv) ⟨[u], []⟩ = pure [(p, u)]) (hi : X.N[i]? = some p) (hN : X.N.Nodup) (ru : RelV v u)
    (hbody : Room k (A.deeper (lamEnv X scope s.heap.objs.size f c')) → PE (lamCx X A X.stack s H (fun _ _ _ => False) scope f c') body tb) (ht : tb (σ.set i (some v)) H Q) :
    wpAny (model X.prog X.w) A (call (.ref f) [u]) (EP X pins σ Q) Ex s := by
  subst hq
  have e0 : Env0 X.prog X.w X.K X.mg X.base A X.stack s H := ⟨hfr, I.ok.mod, I.bs, Nat.le_trans I.ok.bsz I.sz, I.stack, I.stkFree, I.hok, I.bare⟩
  obtain ⟨⟨oc, vs, t, hoc, hdc, hvc⟩, _, _⟩ := I.hok c' _ hc
  have rc : codeAny (model X.prog X.w) A (.call (.ref f) ⟨[u], []⟩) (CR (L2.CX X.prog X.w) X.stack X.prog X.w H s Q (fun _ _ _ => False)) s := by
    refine PySem.W.kla_callFunE hr.depth hf rfl L.co L.gen rfl ⟨c', oc, vs, t, rfl, hoc, hdc, hvc⟩ ?_
    rw [hbind]
    refine wpAny_pure (wpAny_newFunctionEnv (fun y hy => (L.own y hy).1) (fun y hy => by rw [List.mem_singleton.mp hy]; exact L.par) (fun h₁ hns hsb => ⟨I.nolimit.fresh _ hsb, ?_⟩) L.kind)
    show codeAny _ _ (.expr body (lamEnv X scope s.heap.objs.size f c')) _ _
    have kp : ∀ b o, s.heap.get? b = some o → h₁.get? b = some o := fun b o e => hsb.extBut b o (Nat.ne_of_lt (Heap.lt_size e)) (Heap.get?_push_of_some _ e)
    have J : Inv (lamCx X A X.stack s H (fun _ _ _ => False) scope f c') [] (σ.set i (some v)) H { s with heap := h₁, toks := s.toks + ([(p, u)] : List (Str × Value)).length } := lam_startP I L e0 hr.hd hns kp hi hN ru
    refine PySem.W.kla_codeExpr (wpAny_mono ((hbody (hr.deeper _)).run [] _ _ H Q J ht) (fun v s' hq => ?_) fun e s' hq => hq)
    obtain ⟨w', H', J', rv, q⟩ := hq
    exact ⟨w', H', J'.os, J'.bare, J'.base, J'.hok, rv, q⟩
  refine wpAny_call (codeAny_mono rc fun r s' hq => ?_)
  cases r with
  | error e =>
    obtain ⟨a, B, H', cls, d, _, _, _, _, _, _, _, z⟩ := hq
    exact z.elim
  | ok fl =>
    cases fl with
    | ret u => exact I.after hq
    | next => exact False.elim hq
    | brk => exact False.elim hq
    | cont => exact False.elim hq
end
end Ev
set_option Elab.async false
set_option linter.all false
set_option maxRecDepth 100000
set_option maxHeartbeats 2000000
/-! EngS3: sorted by keys, in the small language. -/
namespace Ev
open PySem L2 PySem.Spec PyProof.Rows LamX
theorem xo_ne_code {a : Addr} {o : Obj} {q : Str} (hx : ∃ h : Heap, h.get? a = some o) (ho : ∃ n, o = seqObj "list" #[] n) : XO a o ≠ CodeO a q := by
  intro z
  obtain ⟨h, e⟩ := hx
  obtain ⟨n, rfl⟩ := ho
  unfold XO CodeO at z
  injection z with z
  have z1 := congrFun z h
  obtain ⟨oc, vs, t, e1, e2, _⟩ := Eq.mp z1 e
  rw [e] at e1
  cases e1
  cases e2
section
variable {K : PySem.W.Frag} {β β' : List Addr} {S S' : Store} {H H' : Hp} {Da : Addr}
theorem tabs_xo {T : List (Addr × Str)} {a : Addr} {o : Obj} {u : HO} (hx : ∃ h : Heap, h.get? a = some o) (ho : ∃ n, o = seqObj "list" #[] n) (ha : H a = some (XO a o)) (t : LamX.Tabs T H) : LamX.Tabs T (upd H a u) := fun p hp => by
  obtain ⟨ps, h1, h2, h3⟩ := t p hp
  refine ⟨ps, by rw [upd_ne (fun z => by rw [z, ha] at h1; cases h1)]; exact h1, h2, fun pos cv hc => ?_⟩
  obtain ⟨c, e1, e2⟩ := h3 pos cv hc
  refine ⟨c, e1, ?_⟩
  rw [upd_ne (fun z => by
    rw [z, ha] at e2
    exact xo_ne_code hx ho (Option.some.inj e2))]
  exact e2
theorem RS.sideG (r : RS K β S H) (nd : Da ∉ β) {w w' : HO} (h : H Da = some w) (h1 : ∀ xs, w ≠ .tup xs) (h2 : ∀ o u, w ≠ .frz o u) (t : LamX.Tabs (tabsOf K) (upd H Da w')) : RS K β S (upd H Da w') := by
  have kt : ∀ b xs, H b = some (.tup xs) → upd H Da w' b = some (.tup xs) := fun b xs q => by
    have : b ≠ Da := fun z => by rw [z, h] at q; exact h1 _ (Option.some.inj q)
    rw [upd_ne this]; exact q
  have kf : ∀ b o u, H b = some (.frz o u) → upd H Da w' b = some (.frz o u) := fun b o u q => by
    have : b ≠ Da := fun z => by rw [z, h] at q; exact h2 _ _ (Option.some.inj q)
    rw [upd_ne this]; exact q
  refine ⟨r.len, r.nd, fun i o a g1 g2 => (r.obj i o a g1 g2).of_keep (fun d v z => RV.of_keep kt kf (fun _ _ q => q) d v z) (fun d v z => RVs.of_keep kt kf (fun _ _ q => q) d v z) fun u q => ?_, t⟩
  have hne : a ≠ Da := fun z => nd (by rw [← z]; exact List.mem_of_getElem? g2)
  rw [upd_ne hne]
  exact q
theorem RVs.sideG {w w' : HO} (h : H Da = some w) (h1 : ∀ xs, w ≠ .tup xs) (h2 : ∀ o u, w ≠ .frz o u) {ds : List D} {xs : List V} (z : RVs K β H ds xs) : RVs K β (upd H Da w') ds xs := by
  refine RVs.of_keep (fun b xs q => ?_) (fun b o u q => ?_) (fun _ _ q => q) ds xs z
  · have : b ≠ Da := fun z => by rw [z, h] at q; exact h1 _ (Option.some.inj q)
    rw [upd_ne this]; exact q
  · have : b ≠ Da := fun z => by rw [z, h] at q; exact h2 _ _ (Option.some.inj q)
    rw [upd_ne this]; exact q
end
/-! ### the order of pairs -/
theorem zipD_keys : ∀ {ks xs : List D}, ks.length = xs.length → (zipD ks xs).map keyOf = ks ∧ (zipD ks xs).map itemOf = xs
  | [], [], _ => ⟨rfl, rfl⟩
  | [], _ :: _, h => by cases h
  | _ :: _, [], h => by cases h
  | k :: ks, x :: xs, h => by
    obtain ⟨h1, h2⟩ := zipD_keys (ks := ks) (xs := xs) (by simpa using h)
    rw [zipD, List.map_cons, List.map_cons, h1, h2]
    exact ⟨rfl, rfl⟩
def kLe : D → D → Bool := PySem.W.dataLe false fun p => toPy (keyOf p)
theorem kLe_eq (a b : D) : kLe a b = pyLe (keyOf a) (keyOf b) := rfl
theorem kLe_total : PySem.W.TotalLe kLe := by
  have t := pyLe_total
  exact ⟨fun a b c h1 h2 => by rw [kLe_eq] at *; exact t.trans _ _ _ h1 h2, fun a b => by rw [kLe_eq, kLe_eq]; exact t.total _ _⟩
theorem le_py {ks ys : List D} (p : D.pureAll ks = true) (h : sortO ks = some ys) : ∀ a ∈ ks, ∀ b ∈ ks, leD a b = pyLe a b := by
  unfold sortO at h
  split at h
  · rename_i hc
    rw [Bool.and_eq_true, Bool.and_eq_true] at hc
    obtain ⟨⟨c1, c2⟩, c3⟩ := hc
    intro a ha b hb
    show (!ltD b a) = !PySem.W.dataLt (toPy b) (toPy a)
    rw [lt_py b a (pureAll_mem p hb) (pureAll_mem p ha) (all_mem (all_mem c1 hb) ha)]
  · cases h
theorem sortK_py {ks xs ys zs : List D} (p : D.pureAll ks = true) (hl : ks.length = xs.length) (h : sortO ks = some zs) : isort (fun a b => leD (keyOf a) (keyOf b)) (zipD ks xs) = (zipD ks xs).mergeSort kLe := by
  have mk : ∀ a ∈ zipD ks xs, keyOf a ∈ ks := fun a ha => by
    have := List.mem_map_of_mem (f := keyOf) ha
    rw [(zipD_keys hl).1] at this
    exact this
  rw [(isort_congr (le' := kLe) fun a ha b hb => ?_).1, isort_eq _ kLe_total]
  exact le_py p h _ (mk a ha) _ (mk b hb)
theorem each_zip {K : PySem.W.Frag} {β : List Addr} {H : Hp} : ∀ {ks xs : List D} {vs : List V}, ks.length = xs.length → RVs K β H xs vs → PySem.W.EachIs (fun v p => RV K β H (itemOf p) v) vs (zipD ks xs)
  | [], [], vs, _, h => by
    rw [RVs] at h; subst h
    exact .nil
  | [], _ :: _, _, h, _ => by cases h
  | _ :: _, [], _, h, _ => by cases h
  | k :: ks, x :: xs, vs, hl, h => by
    rw [RVs] at h
    obtain ⟨v, r, rfl, h1, h2⟩ := h
    rw [zipD]
    exact .cons h1 (each_zip (by simpa using hl) h2)
theorem rvs_items {K : PySem.W.Frag} {β : List Addr} {H : Hp} : ∀ {zs : List V} {bs : List D}, PySem.W.EachIs (fun v p => RV K β H (itemOf p) v) zs bs → RVs K β H (bs.map itemOf) zs
  | _, _, .nil => RVs.nil
  | _, _, .cons h t => RVs.cons h (rvs_items t)
theorem dpAll_map {K : PySem.W.Frag} {H : Hp} {vs : List V} {ds : List D} (h : DpAll K H vs (toPys ds)) : DpAll K H vs (ds.map toPy) := by rw [← toPys_map]; exact h
/-- the loop of the keys -/
theorem loop_all {turn : D → Store → Out (Option D)} (ht : ∀ x S o S', turn x S = .ok o S' → ∃ d, o = some d) : ∀ {xs : List D} {S S' : Store} {ks : List D}, compLoop turn xs S = .ok ks S' → ks.length = xs.length
  | [], S, S', ks, h => by
    rw [compLoop] at h
    cases h
    rfl
  | x :: xs, S, S', ks, h => by
    rw [compLoop] at h
    cases e1 : turn x S with
    | ok o S1 =>
      rw [e1] at h
      simp only [Out.bind] at h
      cases e2 : compLoop turn xs S1 with
      | ok ds S2 =>
        rw [e2] at h
        simp only [Out.bind] at h
        obtain ⟨d, rfl⟩ := ht x S o S1 e1
        cases h
        simp [loop_all ht e2]
      | exc c S2 => rw [e2] at h; cases h
      | bad => rw [e2] at h; cases h
    | exc c S1 => rw [e1] at h; cases h
    | bad => rw [e1] at h; cases h
section
variable {X : Cx} {pins : List (Addr × Obj)} {σ : L2.St} {H : Hp} {s : Shared} {β : List Addr} {S : Store}
/-- what a key's call must do -/
def KeyTurn (X : Cx) (pins : List (Addr × Obj)) (σ : L2.St) (f : Value) (turn : D → Store → Out (Option D)) (β : List Addr) (S : Store) (H : Hp) (x : D) (v : V) : Prop :=
  ∀ β1 S1 H1, Ext β S H β1 S1 H1 → RS X.K β1 S1 H1 → RV X.K β1 H1 x v → ∀ (kd : D) (S2 : Store) (Q : VK), turn x S1 = .ok (some kd) S2 → (∀ β2 H2 k, Ext β1 S1 H1 β2 S2 H2 → RS X.K β2 S2 H2 → RV X.K β2 H2 kd k → Q k H2) →
    ∀ s1 u, Inv X pins σ H1 s1 → RelV v u → wpAny (model X.prog X.w) X.A.in1.in1 (call f [u]) (EP X pins σ Q) (fun _ _ => False) s1
theorem sortK_core {l q : Addr} {xs : List D} {vs : List V} {turn : D → Store → Out (Option D)} {Q : VK} {E0 : Nat → Store → List Addr → Hp → Prop} {Ex : Value → Shared → Prop} {kk : Nat} (hr : Room kk X.A) (I : Inv X pins σ H s) (r : RS X.K β S H) (sq : SqL X.K H l vs) (z : RVs X.K β H xs vs)
    (ht : ∀ x S o S', turn x S = .ok o S' → ∃ d, o = some d ∧ d.pure = true)
    (kt : ∀ (i : Nat) x v, xs[i]? = some x → vs[i]? = some v → KeyTurn X pins σ (.ref q) turn β S H x v)
    (p : Post X.K β S H ((noexc (compLoop turn xs S)).bind fun ks S2 => sortedK ks xs S2) (fun d S' β' H' => ∀ v, RV X.K β' H' d v → Q v H') E0) :
    wpAny (model X.prog X.w) X.A (call (.builtin "sorted") [.ref l] [(Str.ofString "key", .ref q)]) (EP X pins σ Q) Ex s := by
  cases el : compLoop turn xs S with
  | exc c S2 => rw [el] at p; exact p.elim
  | bad => rw [el] at p; exact p.elim
  | ok kall Sn =>
    rw [el] at p
    simp only [noexc, Out.bind] at p
    have hlen := loop_all (fun x S o S' e => (ht x S o S' e).imp fun _ h => h.1) el
    unfold sortedK sortKO at p
    cases es : sortO kall with
    | none => rw [es] at p; exact p.elim
    | some ksd =>
      rw [es] at p
      simp only at p
      refine sortedK_run I sq fun a kS o hx ho na nk hne => ?_
      have nfo : ∀ xs, XO a o ≠ .tup xs := fun xs z => by unfold XO at z; cases z
      have nff : ∀ o' u, XO a o ≠ .frz o' u := fun _ _ z => by unfold XO at z; cases z
      have nlt : ∀ (ks : List V) xs, HO.lst ks ≠ .tup xs := fun _ _ z => by cases z
      have nlf : ∀ (ks : List V) o' u, HO.lst ks ≠ .frz o' u := fun _ _ _ z => by cases z
      refine ⟨fun i ks H1 => ∃ β1 S1 kds, Ext β S H β1 S1 H1 ∧ RS X.K β1 S1 H1 ∧ H1 a = some (XO a o) ∧ H1 kS = some (.lst ks) ∧ a ∉ β1 ∧ kS ∉ β1 ∧ RVs X.K β1 H1 kds ks ∧ D.pureAll kds = true ∧ kds.length = i ∧ ∃ rest, compLoop turn (xs.drop i) S1 = .ok rest Sn ∧ kds ++ rest = kall, ?_, ?_⟩
      · obtain ⟨r1, e1⟩ := r.aside (o := XO a o) na
        have nk1 : upd H a (XO a o) kS = none := by rw [upd_ne hne]; exact nk
        obtain ⟨r2, e2⟩ := r1.aside (o := .lst []) nk1
        have nb : ∀ b, H b = none → b ∉ β := fun b hb hm => by
          obtain ⟨u, q, _⟩ := r.mutB hm
          rw [hb] at q; cases q
        exact ⟨β, S, [], e1.trans e2, r2, by rw [upd_ne (Ne.symm hne), upd_same], upd_same, nb a na, nb kS nk, RVs.nil, rfl, rfl, kall, by simpa using el, rfl⟩
      · refine ⟨fun i ks H1 ⟨β1, S1, kds, _, _, h1, h2, _⟩ => ⟨h1, h2⟩, ?_, ?_⟩
        · rintro i v ks H1 hv hki ⟨β1, S1, kds, e1, r1, ha1, hk1, nab, nkb, zk, pk, kl, rest, er, ea⟩ s1 u I1 ru
          have hvl : i < vs.length := (List.getElem?_eq_some_iff.mp hv).1
          have hxl : i < xs.length := by rw [← z.length]; exact hvl
          obtain ⟨x, hx'⟩ : ∃ x, xs[i]? = some x := ⟨_, List.getElem?_eq_getElem hxl⟩
          obtain ⟨v', hv', rv⟩ := z.get hx'
          rw [hv] at hv'
          cases hv'
          have ed : xs.drop i = x :: xs.drop (i + 1) := by
            rw [List.drop_eq_getElem_cons hxl]
            congr 1
            exact (List.getElem?_eq_some_iff.mp hx').2
          rw [ed, compLoop] at er
          cases et : turn x S1 with
          | exc c S2 => rw [et] at er; cases er
          | bad => rw [et] at er; cases er
          | ok o1 S2 =>
            rw [et] at er
            simp only [Out.bind] at er
            obtain ⟨kd, rfl, pd⟩ := ht x S1 o1 S2 et
            cases e2 : compLoop turn (xs.drop (i + 1)) S2 with
            | exc c S3 => rw [e2] at er; cases er
            | bad => rw [e2] at er; cases er
            | ok rs S3 =>
              rw [e2] at er
              simp only [Out.bind] at er
              cases er
              refine kt i x v hx' hv β1 S1 H1 e1 r1 (rv.mono r e1) kd S2 _ et (fun β2 H2 k e3 r2 rk => ?_) s1 u I1 ru
              have ha2 : H2 a = some (XO a o) := e3.keep a _ ha1 nab rfl
              have hk2 : H2 kS = some (.lst ks) := e3.keep kS _ hk1 nkb rfl
              refine ⟨ha2, hk2, β2, S2, kds ++ [kd], (e1.trans e3).side nk, r2.side (e3.notNew nkb hk1) hk2, by rw [upd_ne (Ne.symm hne)]; exact ha2, upd_same, e3.notNew nab ha1, e3.notNew nkb hk1, ?_, ?_, by simp [kl], rs, e2, by rw [← ea]; simp⟩
              · exact RVs.side hk2 ((zk.mono r1 e3).append (RVs.one rk))
              · refine pureAll_of fun y hy => ?_
                rcases List.mem_append.mp hy with hy | hy
                · exact pureAll_mem pk hy
                · rw [List.mem_singleton.mp hy]; exact pd
        · rintro ks H1 hkl ⟨β1, S1, kds, e1, r1, ha1, hk1, nab, nkb, zk, pk, kl, rest, er, ea⟩
          have ez : xs.drop vs.length = [] := List.drop_eq_nil_of_le (by rw [z.length]; exact Nat.le_refl _)
          rw [ez, compLoop] at er
          cases er
          rw [List.append_nil] at ea
          subst ea
          obtain ⟨ey, al, so, dp⟩ := sortO_py pk es
          have hu := hr.units
          refine ⟨kds.map toPy, dpAll_map (RVs.dp kds ks pk zk), al, so, fun d hd => ?_, fun zs hzl sv => ?_⟩
          · obtain ⟨y, hy, rfl⟩ := List.mem_map.mp hd
            have := dp y hy
            show X.A.units + 1 + 1 + (toPy y).depth < _
            omega
          · have r3 : RS X.K β1 Sn (upd H1 kS (.lst [])) := r1.side nkb hk1
            have ha3 : upd H1 kS (.lst []) a = some (XO a o) := by rw [upd_ne (Ne.symm hne)]; exact ha1
            have r4 : RS X.K β1 Sn (upd (upd H1 kS (.lst [])) a (.lst zs)) := r3.sideG nab ha3 nfo nff (tabs_xo hx ho ha3 r3.tab)
            have e4 : Ext β S H β1 Sn (upd (upd H1 kS (.lst [])) a (.lst zs)) := (e1.side nk).side na
            have zx : RVs X.K β1 (upd (upd H1 kS (.lst [])) a (.lst zs)) xs vs := RVs.sideG ha3 nfo nff (RVs.side hk1 (z.mono r e1))
            have hz := sv D (fun v p => RV X.K β1 (upd (upd H1 kS (.lst [])) a (.lst zs)) (itemOf p) v) (zipD kds xs) (fun p => toPy (keyOf p)) (by
              have t := (zipD_keys hlen).1
              exact (congrArg (List.map toPy) t.symm).trans List.map_map) (each_zip hlen zx)
            have hz2 := rvs_items hz
            have em : isort (fun a b => leD (keyOf a) (keyOf b)) (zipD kds xs) = (zipD kds xs).mergeSort (PySem.W.dataLe false fun p => toPy (keyOf p)) := sortK_py (ys := kds) pk hlen es
            rw [← em] at hz2
            unfold newL at p
            split at p
            · rename_i hp
              rw [Bool.and_eq_true] at hp
              have r5 := r4.adopt nab upd_same hp.1 hz2
              have e5 : Ext β S H (β1 ++ [a]) (Sn ++ [.lst ((isort (fun a b => leD (keyOf a) (keyOf b)) (zipD kds xs)).map itemOf)]) (upd (upd H1 kS (.lst [])) a (.lst zs)) := e4.adopt na
              refine p (β1 ++ [a]) _ e5 r5 _ ?_
              rw [RV]
              exact ⟨a, rfl, by rw [← r4.len]; simp⟩
            · exact p.elim
end
end Ev
set_option Elab.async false
set_option linter.all false
set_option maxRecDepth 100000
set_option maxHeartbeats 2000000
/-! EngS4: sorted(e, key=..) as an expression. -/
namespace Ev
open PySem L2 PySem.Spec PyProof.Rows LamX
theorem bind1 {n q p : Str} {pos : Pos} {body : Expr} {scope : Scope} {cl : List (Str × Addr)} {pm cv ctv u : Value} : bindArgs (PySem.W.kla_fn n q ⟨[], [⟨p, none, pos⟩], none, [], [], none, []⟩ body scope cl pm cv ctv) ⟨[u], []⟩ = pure [(p, u)] := by
  unfold bindArgs
  simp only [List.map_cons, List.map_nil, List.nil_append, List.zip_cons_cons, List.zip_nil_right, List.length_cons, List.length_nil]
  simp [List.lookup, seqItems?]
  rfl
section
variable {X : Cx} {F : FS} {E : XW} {cA : Nat → Addr} {pos p p2 kp : Pos} {e : Expr} {ia : Ex}
/-- the list is there: what is left to do -/
def KeyRest (X : Cx) (E : XW) (xs : List D) (turn : D → Store → Out (Option D)) (σ : L2.St) (Q : VK) (S1 : Store) (β1 : List Addr) (H1 : Hp) : Prop :=
  Post X.K β1 S1 H1 ((noexc (compLoop turn xs S1)).bind fun ks S2 => sortedK ks xs S2) (fun d S' β' H' => ∀ v, RV X.K β' H' d v → Q v H') (fun c _ _ H' => E c σ H')
/-- the call of sorted: e's value is a list; the key's value is that of ke -/
theorem sort_call {ke : Expr} {ρ : Env} {S : Store} {β : List Addr} {pins : List (Addr × Obj)} {s : Shared} {σ : L2.St} {H : Hp} {Q : VK} {turn : D → Store → Out (Option D)} (hg : Gl X "sorted") (hm : X.mg "sorted" = none) (ha : PE X e (tEv X.K F E ia)) (hst : notStar e = true)
    (I : Inv X pins σ H s) (sim : Sim X.K E.pin β H σ ρ) (r : RS X.K β S H)
    (q : Post X.K β S H ((ev F ia ρ S).bind fun x S1 => match listOf S1 x with | some xs => (noexc (compLoop turn xs S1)).bind fun ks S2 => sortedK ks xs S2 | none => .bad) (fun d S' β' H' => ∀ v, RV X.K β' H' d v → Q v H') (fun c _ _ H' => E c σ H'))
    (k : ∀ s1 β1 S1 H1 l xs vs, Inv X pins σ H1 s1 → Ext β S H β1 S1 H1 → Sim X.K E.pin β1 H1 σ ρ → RS X.K β1 S1 H1 → SqL X.K H1 l vs → RVs X.K β1 H1 xs vs → KeyRest X E xs turn σ Q S1 β1 H1 →
      wpAny (model X.prog X.w) X.A (eval ke X.env) (fun u s2 => ∃ f, u = .ref f ∧ ∀ s3, s3 = s2 → wpAny (model X.prog X.w) X.A (call (.builtin "sorted") [.ref l] [(Str.ofString "key", .ref f)]) (EP X pins σ Q) X.xe s3) X.xe s1) :
    wpAny (model X.prog X.w) X.A (eval (.Call (.Name "sorted" p) [e] [⟨some "key", ke, kp⟩] pos) X.env) (EP X pins σ Q) X.xe s := by
  have hA := pa_cons (X := X) ha pa_nil (star_cons hst)
  refine wpAny_Call_Name_kw (ld_blt I hg hm (u := .builtin "sorted") (by decide +kernel) ?_ (by decide) (by decide))
  refine PyProof.Rows.callWith_kw (thn (hA.run pos pins s σ H (fun vs H1 => ∃ v d S1 β1, vs = [v] ∧ RV X.K β1 H1 d v ∧ Ext β S H β1 S1 H1 ∧ Sim X.K E.pin β1 H1 σ ρ ∧ RS X.K β1 S1 H1 ∧ Post X.K β1 S1 H1 (match listOf S1 d with | some xs => (noexc (compLoop turn xs S1)).bind fun ks S2 => sortedK ks xs S2 | none => .bad) (fun d S' β' H' => ∀ v, RV X.K β' H' d v → Q v H') (fun c _ _ H' => E c σ H')) I ?_) fun us s1 ⟨vs, H1, I1, r1, q1⟩ => ?_) ?_ (star_any (by simp [hst])) rfl rfl
  · exact seqE sim r q fun d S1 β1 H1 v e1 sim1 r1 hv p1 => ⟨v, d, S1, β1, rfl, hv, e1, sim1, r1, p1⟩
  · obtain ⟨v, d, S1, β1, rfl, hv, e1, sim1, rs1, p1⟩ := q1
    cases r1 with
    | cons rv rr =>
      cases rr
      cases hl : listOf S1 d with
      | none => rw [hl] at p1; exact p1.elim
      | some xs =>
        rw [hl] at p1
        obtain ⟨l, ws, rfl, sq, z⟩ := rs1.list hv hl
        cases rv
        show wpAny _ _ (evalAll [do let v ← eval ke X.env; standAt pos; pure v]) _ _ s1
        refine wpAny_evalAll_cons (wpAny_bind (thn (k s1 β1 S1 H1 l xs ws I1 e1 sim1 rs1 sq z p1) fun u s2 hu => wpAny_bind (wpAny_standAt (wpAny_pure ?_))))
        refine wpAny_evalAll_nil ?_
        obtain ⟨f, rfl, hk⟩ := hu
        exact hk _ rfl
  · rw [star_cons hst]
    rfl
theorem in1_frames {A : Around} : A.in1.frames = A.frames := rfl
/-- key=f, f a def of one parameter -/
theorem s_sortf {k fid : Nat} {f : Addr} {fd : FuncData} {ps : List Str} {x : Str} (G : FnOk X.prog X.w X.K X.mg X.base (L2.CX X.prog X.w) k f fd ps (spF X.K cA F 1 fid)) (hr : Room (k + 3) X.A) (hg : Gl X "sorted") (hm : X.mg "sorted" = none) (hgx : Gl X x) (hmx : X.mg x = some (.ref f))
    (hb : Binds X.K fd ps []) (ha : PE X e (tEv X.K F E ia)) (hst : notStar e = true) (hdb : (x == ("__debug__" : Str)) = false) :
    PE X (.Call (.Name "sorted" p) [e] [⟨some "key", .Name x p2, kp⟩] pos) (tEv X.K F E (.sortf ia fid)) := by
  refine ⟨fun pins s σ H Q I h => ?_⟩
  obtain ⟨ρ, S, β, sim, r, q⟩ := h
  rw [PV, ev] at q
  refine sort_call hg hm ha hst I sim r q fun s1 β1 S1 H1 l xs vs I1 e1 sim1 r1 sq z p1 => ?_
  refine ld_glob I1 hgx hmx ⟨f, rfl, fun s3 es => ?_⟩ hdb
  subst es
  refine sortK_core hr I1 r1 sq z (fun x S o S' ht => ?_) (fun i x v hx hv => ?_) p1
  · try dsimp only at ht
    cases ec : callF F fid [x] S with
    | ok d S2 =>
      rw [ec] at ht
      simp only [Out.bind] at ht
      split at ht
      · rename_i hp
        cases ht
        exact ⟨d, rfl, hp⟩
      · cases ht
    | exc c S2 => rw [ec] at ht; cases ht
    | bad => rw [ec] at ht; cases ht
  · intro β2 S2 H2 e2 r2 rv kd S3 Qk ht cont s2 u I2 ru
    try dsimp only at ht
    have ec : callF F fid [x] S2 = .ok kd S3 := by
      cases ec : callF F fid [x] S2 with
      | ok d S4 =>
        rw [ec] at ht
        simp only [Out.bind] at ht
        split at ht
        · cases ht; rfl
        · cases ht
      | exc c S4 => rw [ec] at ht; cases ht
      | bad => rw [ec] at ht; cases ht
    have sp : spF X.K cA F 1 fid [v] H2 Qk (WE (wOf cA noX) σ) := callF_sp (E := noX) (σ := σ) rfl r2 (RVs.one rv) (by
      rw [ec]
      exact fun β3 H3 e3 r3 k rk => cont β3 H3 k e3 r3 rk)
    have hr2 : Room k X.A.in1.in1 := (hr.mono (show k + 2 ≤ k + 3 by omega)).in1.in1
    have e0 : Env0 X.prog X.w X.K X.mg X.base X.A.in1.in1 X.stack s2 H2 := ⟨I2.ok.frames, I2.ok.mod, I2.bs, Nat.le_trans I2.ok.bsz I2.sz, I2.stack, I2.stkFree, I2.hok, I2.bare⟩
    have hlen := G.len _ _ _ _ sp
    have rc := G.run X.A.in1.in1 X.stack s2 H2 ⟨[u], []⟩ [u] [v] Qk _ hr2 e0 (by
      have := hb s2 [u] I2.kIn (by simpa using hlen)
      simpa using this) (.cons ru .nil) sp
    refine wpAny_call (codeAny_mono rc fun r s' hq => ?_)
    cases r with
    | error e =>
      obtain ⟨a, B, H', cls, d, _, _, _, _, _, _, _, zz⟩ := hq
      obtain ⟨c, _, _, zz⟩ := zz
      exact zz.elim
    | ok fl =>
      cases fl with
      | ret u => exact I2.after hq
      | next => exact False.elim hq
      | brk => exact False.elim hq
      | cont => exact False.elim hq
/-- a lambda is made: the tables that stood stand still -/
theorem lam_make3 {pins : List (Addr × Obj)} {σ : L2.St} {H : Hp} {s : Shared} {T : List (Addr × Str)} {c P : Addr} {params : Arguments} {body : Expr} {scope : Scope} {lpos : Pos} {q : Str} {Ex : Value → Shared → Prop} {Q : Value → Shared → Prop} (I : Inv X pins σ H s) (TB : TabB X.base X.mg c P) (hcode : X.env.code = .ref c)
    (hq : q = X.env.qual ++ "<lambda>") (hm : (P, q) ∈ T) (hu : ∀ p ∈ T, p.1 = P → p.2 = q) (hT : Tabs T H) (hdef : defaultsOf params X.env = ([], [])) (hfree : ∀ y ∈ scope.names, y.2 = .free → ∃ c, X.env.cells.lookup y.1 = some c)
    (h : ∀ (f c' : Addr) (pm ctv : Value) (H1 : Hp) (s' : Shared), Inv X pins σ H1 s' → ExtN H H1 → (∀ b, H b ≠ none → H1 b ≠ none) → Tabs T H1 →
      s'.heap.get? f = some (PySem.W.kla_obj "<lambda>" q params body scope (cloFrom X.env.cells scope.names []) pm c' ctv) → H1 f = none → f ∉ frs X.stack → H1 c' = some (CodeO c' q) → Q (.ref f) s') :
    wpAny (model X.prog X.w) X.A (eval (.Lambda params body scope lpos) X.env) Q Ex s := by
  subst hq
  obtain ⟨ps, hP, ht, ha⟩ := hT _ hm
  have bP : s.heap.BuiltinsAt X.mg P := TB.bm.keeps I.bk
  have hP' : s.heap.get? P = some { cls := .none, data := .fields ps } := I.hok P _ hP
  have nofr : ∀ f, s.heap.objs.size ≤ f → f ∉ frs X.stack := fun f hf z => (List.mem_cons.mp (I.stkSub _ z)).elim (fun e => by
    have h1 := I.lt
    rw [← e] at h1
    exact Nat.lt_irrefl _ (Nat.lt_of_lt_of_le h1 hf)) fun e => I.nofs hf e
  refine PySem.W.kla_eval hdef ?_
  cases hc : codeAmong lpos ps.toList with
  | some cv =>
    obtain ⟨c', rfl, hco⟩ := ha lpos cv hc
    refine PySem.W.kla_makeFunctionHit (mg := X.mg) (c := c) (P := P) (ps := ps) (closure_ok hfree) I.ok.glob (I.mod.glob.keeps I.bk) hcode (TB.code.keeps I.bk) hP' ht hc bP fun ctv h' tk hx hsz => ?_
    refine h h'.objs.size c' _ ctv H _ (I.kept fun b o e => Heap.get?_push_of_some _ (hx b o e)) (ExtN.refl H) (fun _ z => z) hT (Heap.get?_push_size _ rfl) (I.hok.fresh hsz) (nofr _ hsz) hco
  | none =>
    refine PySem.W.kla_makeFunction (mg := X.mg) (c := c) (P := P) (ps := ps) (closure_ok hfree) I.ok.glob (I.mod.glob.keeps I.bk) hcode (TB.code.keeps I.bk) hP' ht hc TB.gP bP fun c' ctv h' tk hx hge hlt hrec htb => ?_
    obtain ⟨c2, oc, vs, t, e2, hoc, hd, hv⟩ := hrec
    cases e2
    have hsz : s.heap.objs.size ≤ h'.objs.size := Nat.le_trans hge (Nat.le_of_lt hlt)
    have nC : H c' = none := I.hok.fresh hge
    generalize hmore : (#[rawInt lpos.line, rawInt lpos.col, .ref c'] : Array Value) = more at *
    have hE : ExtN H (upd (upd H P (.tbl (ps ++ more))) c' (CodeO c' (X.env.qual ++ "<lambda>"))) := fun b o e n => by
      have n1 : b ≠ P := fun z => by
        rw [z, hP] at e
        exact n ps (Option.some.inj e).symm
      rw [upd_ne (ne_of_none e nC), upd_ne n1]
      exact e
    have eL : (ps ++ more).toList = ps.toList ++ [rawInt lpos.line, rawInt lpos.col, .ref c'] := by rw [← hmore]; simp
    have pP : upd (upd H P (.tbl (ps ++ more))) c' (CodeO c' (X.env.qual ++ "<lambda>")) P = some (.tbl (ps ++ more)) := by rw [upd_ne (ne_of_none hP nC), upd_same]
    have I1 := inv_table (t' := tk) (more := more) (h' := h'.push (PySem.W.kla_obj "<lambda>" (X.env.qual ++ "<lambda>") params body scope (cloFrom X.env.cells scope.names []) ((X.mg "__name__").getD .none) c' ctv)) I hP
      (fun b o hb e => Heap.get?_push_of_some _ (hx b o hb e)) (Heap.get?_push_of_some _ htb) hge ⟨oc, vs, t, Heap.get?_push_of_some _ hoc, hd, hv⟩
    refine h h'.objs.size c' _ ctv _ _ I1 hE (fun b hb => ?_) (fun p hp => ?_) (Heap.get?_push_size _ rfl) ?_ (nofr _ hsz) upd_same
    · by_cases h1 : b = c'
      · rw [h1, upd_same]; exact fun z => nomatch z
      · by_cases h2 : b = P
        · rw [h2, pP]; exact fun z => nomatch z
        · rw [upd_ne h1, upd_ne h2]; exact hb
    · by_cases hb : p.1 = P
      · rw [hu p hp hb, hb]
        refine ⟨_, pP, by rw [eL]; exact PySem.TriplesOk_snoc _ _ _ _ ht, fun p' cv hcv => ?_⟩
        rw [eL] at hcv
        rcases among_app _ ht hcv with z | z
        · obtain ⟨c0, e1, e2⟩ := ha p' cv z
          exact ⟨c0, e1, hE _ _ e2 codeO_ne⟩
        · exact ⟨c', z, upd_same⟩
      · obtain ⟨ps', a1, a2, a3⟩ := hT p hp
        refine ⟨ps', by rw [upd_ne (ne_of_none a1 nC), upd_ne hb]; exact a1, a2, fun p' cv hcv => ?_⟩
        obtain ⟨c0, e1, e2⟩ := a3 p' cv hcv
        exact ⟨c0, e1, hE _ _ e2 codeO_ne⟩
    · rw [upd_ne (Nat.ne_of_gt hlt), upd_ne (Nat.ne_of_gt (Nat.lt_of_lt_of_le (Heap.lt_size hP') hsz))]
      exact I.hok.fresh hsz
/-- key=lambda p: body -/
theorem s_sortl {k i : Nat} {ib : Ex} {body : Expr} {scope : Scope} {x q : Str} {apos lpos : Pos} {cd P : Addr} (hr : Room (k + 3) X.A) (hg : Gl X "sorted") (hm : X.mg "sorted" = none) (ha : PE X e (tEv X.K F E ia)) (hst : notStar e = true)
    (L : LamP X.env.scope scope x) (hi : X.N[i]? = some x) (hN : X.N.Nodup) (hq : q = X.env.qual ++ "<lambda>") (hcode : X.env.code = .ref cd) (TB : TabB X.base X.mg cd P) (hT : (P, q) ∈ tabsOf X.K) (hu : ∀ p ∈ tabsOf X.K, p.1 = P → p.2 = q)
    (hb : ∀ (s : Shared) (H : Hp) (f c' : Addr), Room k (X.A.in1.in1.deeper (lamEnv X scope s.heap.objs.size f c')) → PE (lamCx X X.A.in1.in1 X.stack s H (fun _ _ _ => False) scope f c') body (tEv X.K F noX ib)) :
    PE X (.Call (.Name "sorted" p) [e] [⟨some "key", .Lambda ⟨[], [⟨x, none, apos⟩], none, [], [], none, []⟩ body scope lpos, kp⟩] pos) (tEv X.K F E (.sortl ia i ib)) := by
  refine ⟨fun pins s σ H Q I h => ?_⟩
  obtain ⟨ρ, S, β, sim, r, qq⟩ := h
  rw [PV, ev] at qq
  refine sort_call hg hm ha hst I sim r qq fun s1 β1 S1 H1 l xs vs I1 e1 sim1 r1 sq z p1 => ?_
  refine lam_make3 (T := tabsOf X.K) I1 TB hcode hq hT hu r1.tab rfl (L.has I1.ok) fun f c' pm ctv H2 s2 I2 eN lv hT2 hf nf nfr hc => ?_
  refine ⟨f, rfl, fun s3 es => ?_⟩
  subst es
  have live : ∀ b o, H1 b = some o → noTbl o = true → H2 b = some o := fun b o hb nt => eN b o hb (fun ps z => by rw [z] at nt; cases nt)
  have e2 : Ext β1 S1 H1 β1 S1 H2 := ⟨⟨[], by simp, fun _ h => nomatch h⟩, fun b o hb _ nt => live b o hb nt, lv, fun _ _ h => h, fun _ _ h => h⟩
  have r2 : RS X.K β1 S1 H2 := ⟨r1.len, r1.nd, fun j o a h1 h2 => (r1.obj j o a h1 h2).of_keep (fun _ _ h => h.mono r1 e2) (fun _ _ h => h.mono r1 e2) fun u q => (by
    obtain ⟨w, hw, hmu⟩ := r1.mutB (List.mem_of_getElem? h2)
    rw [q] at hw
    cases hw
    exact live a u q (mut_noTbl hmu)), hT2⟩
  have sq2 : SqL X.K H2 l vs := by
    rcases sq with (h | ⟨o, h⟩) | h
    · exact .inl (.inl (live _ _ h rfl))
    · exact .inl (.inr ⟨o, live _ _ h rfl⟩)
    · exact .inr h
  have hfl : f ≠ X.env.locals := fun zz => by
    obtain ⟨m, ⟨o, es, ep, ho, hd, _⟩, _⟩ := I2.loc
    rw [← zz, hf] at ho
    cases ho
    cases hd
  have I3 : Inv X ((f, PySem.W.kla_obj "<lambda>" q ⟨[], [⟨x, none, apos⟩], none, [], [], none, []⟩ body scope (cloFrom X.env.cells scope.names []) pm c' ctv) :: pins) σ H2 s3 := I2.pins_of fun pp hp => by
    rcases List.mem_cons.mp hp with rfl | hp
    · refine ⟨hf, nf, hfl, fun zz => nfr ?_, fun v zz => nomatch zz⟩
      rcases I2.ok.stk with q1 | ⟨q1, q2⟩
      · rw [q1]; exact zz
      · rw [q1]
        exact List.mem_filterMap.mpr (by
          obtain ⟨en, h1, h2⟩ := List.mem_filterMap.mp zz
          exact ⟨en, List.mem_cons_of_mem _ h1, h2⟩)
    · exact I2.pin pp (List.mem_append_right _ hp)
  have fin := sortK_core (q := f) (turn := fun x S => if i < ρ.length then (gcO S.length (ev F ib (ρ.set i (some x)) S)).bind fun d S2 => (if d.pure then .ok (some d) S2 else .bad) else .bad) (Q := Q) (Ex := X.xe) hr I3 r2 sq2 (z.mono r1 e2) (fun x S o S' ht => ?_) (fun j x' v hx hv => ?_) (p1.from e2)
  · exact thn fin fun u s4 ⟨v, H4, I4, rv, hQ⟩ => ⟨v, H4, I4.pins_of fun pp hp => I4.pin pp (List.mem_append_right _ (List.mem_cons_of_mem _ hp)), rv, hQ⟩
  · try dsimp only at ht
    split at ht
    · cases ec : gcO S.length (ev F ib (ρ.set i (some x)) S) with
      | ok d S2 =>
        rw [ec] at ht
        simp only [Out.bind] at ht
        split at ht
        · rename_i hp
          cases ht
          exact ⟨d, rfl, hp⟩
        · cases ht
      | exc c S2 => rw [ec] at ht; cases ht
      | bad => rw [ec] at ht; cases ht
    · cases ht
  · intro β3 S3 H3 e3 r3 rv kd S4 Qk ht cont s4 u I4 ru
    try dsimp only at ht
    split at ht
    · rename_i hil
      have ec : gcO S3.length (ev F ib (ρ.set i (some x')) S3) = .ok kd S4 := by
        cases ec : gcO S3.length (ev F ib (ρ.set i (some x')) S3) with
        | ok d S5 =>
          rw [ec] at ht
          simp only [Out.bind] at ht
          split at ht
          · cases ht; rfl
          · cases ht
        | exc c S5 => rw [ec] at ht; cases ht
        | bad => rw [ec] at ht; cases ht
      obtain ⟨hfp, _⟩ := I4.pin (f, PySem.W.kla_obj "<lambda>" q ⟨[], [⟨x, none, apos⟩], none, [], [], none, []⟩ body scope (cloFrom X.env.cells scope.names []) pm c' ctv) (List.mem_append_right _ List.mem_cons_self)
      have sim3 : Sim X.K noX.pin β3 H3 (σ.set i (some v)) (ρ.set i (some x')) := (show Sim X.K noX.pin β3 H3 σ ρ from let z := (sim1.mono r1 e2).mono r2 e3; ⟨trivial, z.len, z.rel⟩).set rv trivial
      have hc3 : H3 c' = some (CodeO c' q) := e3.keep c' _ hc (fun hm => by
        obtain ⟨w, hw, hmu⟩ := r2.mutB hm
        rw [hc] at hw
        cases hw
        cases hmu) rfl
      refine lam_callP (k := k) I4 L (hr.mono (show k + 1 + 2 ≤ k + 3 by omega)).in1.in1 I4.ok.frames hfp hq hc3 bind1 hi hN ru (fun hr2 => hb s4 H3 f c' hr2) ⟨_, _, _, sim3, r3, ?_⟩
      show Post X.K β3 S3 H3 (ev F ib (ρ.set i (some x')) S3) _ _
      cases ev1 : ev F ib (ρ.set i (some x')) S3 with
      | ok d0 S5 =>
        rw [ev1] at ec
        intro β5 H5 e5 r5 v5 hv5
        refine gc_post (E := fun _ _ _ _ => False) r3 ?_ e5 r5 v5 hv5
        rw [show gc S3.length d0 S5 = .ok kd S4 from ec]
        exact fun β6 H6 e6 r6 k6 hk6 => cont β6 H6 k6 e6 r6 hk6
      | exc c S5 => rw [ev1] at ec; cases ec
      | bad => rw [ev1] at ec; cases ec
    · cases ht
end
end Ev
set_option Elab.async false
set_option linter.all false
set_option maxRecDepth 100000
set_option maxHeartbeats 1000000
/-! EngM1: count, index, remove, sum. -/
namespace Ev
open PySem L2 PySem.Spec PyProof.Rows
section
variable {X : Cx} {E : XW}
theorem countP_py {x : D} (hx : x.pure = true) : ∀ ys : List D, D.pureAll ys = true → ((toPys ys).countP fun y => PyData.eqv y (toPy x)) = ys.countP fun y => eqD y x
  | [], _ => rfl
  | y :: ys, h => by
    rw [D.pureAll, Bool.and_eq_true] at h
    rw [toPys, List.countP_cons, List.countP_cons, countP_py hx ys h.2, eqD_py y x h.1 hx]
theorem find_py {x : D} (hx : x.pure = true) : ∀ ys : List D, D.pureAll ys = true → (toPys ys).findIdx? (fun y => PyData.eqv y (toPy x)) = ys.findIdx? fun y => eqD y x
  | [], _ => rfl
  | y :: ys, h => by
    rw [D.pureAll, Bool.and_eq_true] at h
    rw [toPys, List.findIdx?_cons, List.findIdx?_cons, find_py hx ys h.2, eqD_py y x h.1 hx]
/-- a list as data -/
theorem list_data {pins : List (Addr × Obj)} {s : Shared} {σ : L2.St} {H : Hp} {β : List Addr} {S : Store} {a : D} {v : V} {u : Value} {ys : List D} (I : Inv X pins σ H s) (r : RS X.K β S H) (h : RV X.K β H a v) (ru : RelV v u) (e : der S a = some (.lit ys)) :
    ∃ l its as, v = .ref l ∧ u = .ref l ∧ s.heap.IsList l its.toArray ∧ ReadsAll s.heap its (toPys ys) as ∧ its.length ≤ sizeLine := by
  have dp := der_dp r h e
  rw [toPy] at dp
  cases dp with
  | lst hs ha =>
    cases ru
    obtain ⟨its, rv, ⟨o, n, ho, hc, hdn, hd⟩, hlen⟩ := I.list hs
    obtain ⟨as, h4⟩ := Dp.readsAll I _ _ its ha rv
    exact ⟨_, its, as, rfl, rfl, ⟨o, ho, hc, n, hd⟩, h4, by rw [← rv.length]; exact hlen⟩
theorem tup_data {pins : List (Addr × Obj)} {s : Shared} {σ : L2.St} {H : Hp} {β : List Addr} {S : Store} {a : D} {v : V} {u : Value} {ys : List D} (I : Inv X pins σ H s) (r : RS X.K β S H) (h : RV X.K β H a v) (ru : RelV v u) (e : der S a = some (.tup ys)) :
    ∃ l its as, v = .ref l ∧ u = .ref l ∧ s.heap.IsTuple l its.toArray ∧ ReadsAll s.heap its (toPys ys) as ∧ its.length ≤ sizeLine := by
  have dp := der_dp r h e
  rw [toPy] at dp
  cases dp with
  | tup hs ha =>
    cases ru
    obtain ⟨its, rv, ht, hlen⟩ := I.tuple hs
    obtain ⟨as, h4⟩ := Dp.readsAll I _ _ its ha rv
    exact ⟨_, its, as, rfl, rfl, ht, h4, by rw [← rv.length]; exact hlen⟩
theorem mt_lcntE (hr : RU X.A) : MtR X "list.count" (rM1 X.K E lcntD) := by
  intro pins s σ H x xs v us Q I rx rv h
  obtain ⟨σ', β, S, a, d, w, r, rfl, h1, h2, q⟩ := h
  obtain ⟨u, rfl, ru⟩ := rv.one
  unfold lcntD at q
  split at q
  · rename_i ys y e1 e2
    split at q
    · rename_i hd
      obtain ⟨l, its, as, rfl, rfl, hl, hR, _⟩ := list_data I r h1 rx e1
      obtain ⟨bs, rb⟩ := Dp.reads I _ w u (der_dp r h2 e2) ru
      have py := der_pure r e1
      rw [D.pure] at py
      have hu := hr.units
      have hdd : (toPy y).depth ≤ 60 := by rw [depth_toPy]; exact of_decide_eq_true hd
      refine SeqAt.count_list_data hl (by simpa using hR) rb (plain_toPys ys) (plain_toPy y) (by omega) ?_
      rw [countP_py (der_pure r e2) ys py]
      exact ⟨.int _, H, I.tok _, ⟨_, rfl⟩, q.now r (by rw [RV])⟩
    · exact q.elim
  · exact q.elim
theorem mt_tcntE (hr : RU X.A) : MtR X "tuple.count" (rM1 X.K E tcntD) := by
  intro pins s σ H x xs v us Q I rx rv h
  obtain ⟨σ', β, S, a, d, w, r, rfl, h1, h2, q⟩ := h
  obtain ⟨u, rfl, ru⟩ := rv.one
  unfold tcntD at q
  split at q
  · rename_i ys y e1 e2
    split at q
    · rename_i hd
      obtain ⟨l, its, as, rfl, rfl, hl, hR, _⟩ := tup_data I r h1 rx e1
      obtain ⟨bs, rb⟩ := Dp.reads I _ w u (der_dp r h2 e2) ru
      have py := der_pure r e1
      rw [D.pure] at py
      have hu := hr.units
      have hdd : (toPy y).depth ≤ 60 := by rw [depth_toPy]; exact of_decide_eq_true hd
      refine SeqAt.count_tuple_data hl (by simpa using hR) rb (plain_toPys ys) (plain_toPy y) (by omega) ?_
      rw [countP_py (der_pure r e2) ys py]
      exact ⟨.int _, H, I.tok _, ⟨_, rfl⟩, q.now r (by rw [RV])⟩
    · exact q.elim
  · exact q.elim
theorem mt_lplE (hr : RU X.A) : MtR X "list.index" (rM1 X.K E lplD) := by
  intro pins s σ H x xs v us Q I rx rv h
  obtain ⟨σ', β, S, a, d, w, r, rfl, h1, h2, q⟩ := h
  obtain ⟨u, rfl, ru⟩ := rv.one
  unfold lplD at q
  split at q
  · rename_i ys y e1 e2
    split at q
    · rename_i j hj
      split at q
      · rename_i hd
        rw [Bool.and_eq_true] at hd
        obtain ⟨l, its, as, rfl, rfl, ⟨⟨cls, dd, data, sl⟩, ho, hc, n, hdt⟩, hR, hz⟩ := list_data I r h1 rx e1
        simp only at hc hdt
        subst hc hdt
        obtain ⟨bs, rb⟩ := Dp.reads I _ w u (der_dp r h2 e2) ru
        have py := der_pure r e1
        rw [D.pure] at py
        have hu := hr.units
        have hdd : (toPy y).depth ≤ 60 := by rw [depth_toPy]; exact of_decide_eq_true hd.1
        have hp : SeqAt.dataPlace (toPys ys) (toPy y) = some j := by
          show (toPys ys).findIdx? _ = some j
          rw [find_py (der_pure r e2) ys py]
          exact hj
        have hR' : ReadsAll s.heap its.toArray.toList (toPys ys) as := by simpa using hR
        obtain ⟨hjv, hit, hno⟩ := SeqAt.hit_at hR' (plain_toPys ys) hp
        have hjl : j < ys.length := (List.findIdx?_eq_some_iff_getElem.mp hj).1
        have hyl := of_decide_eq_true hd.2
        refine call_meets PySem.F.slot_list_index ⟨_, ho, rfl⟩ PySem.F.entry_list_index (PySem.F.args_list_index_2 _ _)
          (SeqAt.list_indexAt l its.toArray n dd sl u (fun u => PyData.eqv (SeqAt.readOf s.heap u) (toPy y)) j hjv (by omega) hit hno) ⟨ho, SeqAt.items_plain hR' rb (plain_toPys ys) (plain_toPy y) (by omega), ?_⟩
        exact ⟨.int (j : Nat), H, I.tok _, ⟨_, rfl⟩, q.now r (by rw [RV])⟩
      · exact q.elim
    · exact q.elim
  · exact q.elim
theorem RVs.erase {K : PySem.W.Frag} {β : List Addr} {H : Hp} : ∀ (j : Nat) {ds : List D} {vs : List V}, RVs K β H ds vs → RVs K β H (ds.eraseIdx j) (vs.eraseIdx j)
  | j, [], vs, h => by rw [RVs] at h; subst h; simpa using RVs.nil
  | 0, d :: ds, vs, h => by
    rw [RVs] at h
    obtain ⟨v, t, rfl, h1, h2⟩ := h
    simpa using h2
  | j + 1, d :: ds, vs, h => by
    rw [RVs] at h
    obtain ⟨v, t, rfl, h1, h2⟩ := h
    simpa using RVs.cons h1 (RVs.erase j h2)
theorem vals_erase : ∀ (j : Nat) {xs : List V} {us : List Value}, Vals xs us → Vals (xs.eraseIdx j) (us.eraseIdx j)
  | j, _, _, .nil => by simpa using Paired.nil
  | 0, _, _, .cons _ t => t
  | j + 1, _, _, .cons r t => .cons r (vals_erase j t)
theorem mt_remE (hr : RU X.A) : MtR X "list.remove" (rM1 X.K E remD) := by
  intro pins s σ H x xs v us Q I rx rv h
  obtain ⟨σ', β, S, a, d, w, r, rfl, h1, h2, q⟩ := h
  obtain ⟨u, rfl, ru⟩ := rv.one
  unfold remD at q
  split at q
  · rename_i n
    split at q
    · rename_i ys y g e2
      split at q
      · rename_i j hj
        split at q
        · rename_i hd
          have e1 : der S (.loc n) = some (.lit ys) := by simp only [der, g]
          obtain ⟨l, its, as, rfl, rfl, hl, hR, hz⟩ := list_data I r h1 rx e1
          obtain ⟨bs, rb⟩ := Dp.reads I _ w u (der_dp r h2 e2) ru
          have py := der_pure r e1
          rw [D.pure] at py
          have hu := hr.units
          have hdd : (toPy y).depth ≤ 60 := by rw [depth_toPy]; exact of_decide_eq_true hd
          have hp : SeqAt.dataPlace (toPys ys) (toPy y) = some j := by
            show (toPys ys).findIdx? _ = some j
            rw [find_py (der_pure r e2) ys py]
            exact hj
          have hjl : j < ys.length := (List.findIdx?_eq_some_iff_getElem.mp hj).1
          rw [RV] at h1
          obtain ⟨p, ep, ha⟩ := h1
          cases ep
          obtain ⟨a', vs, ha', pu, e', z⟩ := r.lst g
          rw [ha] at ha'; cases ha'
          obtain ⟨hln, its2, m, rvv, hg⟩ := I.hok l _ e'
          refine SeqAt.remove_list_data hl (by simpa using hR) rb (plain_toPys ys) (plain_toPy y) (by omega) hp (by rw [List.size_toArray]; exact hz) ?_
          have s1 := Heap.SameBut.update s.heap l (Obj.mapSeq fun ys => ys.eraseIdxIfInBounds j)
          obtain ⟨c1, hc1⟩ : ∃ c1, (s.heap.update l (Obj.mapSeq fun ys => ys.eraseIdxIfInBounds j)).get? l = some (seqObj "list" (its2.toArray.eraseIdxIfInBounds j) c1) := ⟨_, get?_update_seq hg fun ys => ys.eraseIdxIfInBounds j⟩
          have hl2 : its2.length = ys.length := by rw [← rvv.length, z.length]
          have ee : its2.toArray.eraseIdxIfInBounds j = (its2.eraseIdx j).toArray := by simp
          rw [ee] at hc1
          have zz := z.erase j
          have zz2 : RVs X.K β (upd H l (.lst (vs.eraseIdx j))) (ys.eraseIdx j) (vs.eraseIdx j) := RVs.of_keep (fun b t q => by
              rw [upd_ne (fun z => by subst z; rw [e'] at q; cases q)]; exact q) (fun b o t q => by
              rw [upd_ne (fun z => by subst z; rw [e'] at q; cases q)]; exact q) (fun _ _ q => q) _ _ zz
          have pp : D.pureAll (ys.eraseIdx j) = true := pureAll_of fun y hy => pureAll_mem pu (List.mem_of_mem_eraseIdx hy)
          obtain ⟨r2, ex⟩ := r.put (o := .lst (ys.eraseIdx j)) (u := .lst (vs.eraseIdx j)) ha (fun t => by rw [g]; exact (fun z => nomatch z)) (fun t => by rw [g]; exact (fun z => nomatch z)) ⟨pp, _, upd_same, zz2⟩
          refine ⟨.non, _, I.write (x := l) (e := l) (t' := s.toks) (o := .lst (vs.eraseIdx j)) (by rw [e']; trivial) (.inl rfl) (fun b u hb e => (s1.2 b hb).trans e) ⟨_, hc1⟩ ⟨?_, its2.eraseIdx j, c1, vals_erase j rvv, hc1⟩, rfl, q β _ ex r2 _ (by rw [RV])⟩
          have := List.length_eraseIdx_le vs j
          omega
        · exact q.elim
      · exact q.elim
    · exact q.elim
  · exact q.elim
theorem intsOf_map : ∀ {xs : List D} {bs : List Int}, intsOf xs = some bs → xs = bs.map .int
  | [], bs, h => by cases h; rfl
  | x :: xs, bs, h => by
    cases x with
    | int i =>
      rw [intsOf] at h
      obtain ⟨cs, e, rfl⟩ := Option.map_eq_some_iff.mp h
      rw [List.map_cons, ← intsOf_map e]
    | _ => cases h
theorem RVs.ints {K : PySem.W.Frag} {β : List Addr} {H : Hp} : ∀ {bs : List Int} {vs : List V}, RVs K β H (bs.map .int) vs → vs = bs.map V.int
  | [], vs, h => by rw [List.map_nil, RVs] at h; rw [h]; rfl
  | b :: bs, vs, h => by
    rw [List.map_cons, RVs] at h
    obtain ⟨v, r, rfl, h1, h2⟩ := h
    rw [RV] at h1
    rw [h1, RVs.ints h2]; rfl
theorem cr_sumE (hc : X.calm = true) : CallR X (.builtin "sum") (rDs X.K E (biD .sum)) := by
  intro pins s σ H xs us Q I rv h
  obtain ⟨σ', β, S, d, v, r, rfl, h1, q⟩ := rDs_one h
  unfold sumD at q
  split at q
  · rename_i ys hl
    split at q
    · rename_i bs hb
      obtain ⟨a, vs, rfl, sq, z⟩ := r.list h1 hl
      rw [intsOf_map hb] at z
      have hv := z.ints
      subst hv
      exact cr_sum hc pins s σ H _ us Q I rv ⟨a, bs, rfl, sq, q.now r (by rw [RV])⟩
    · exact q.elim
  · exact q.elim
end
end Ev
set_option Elab.async false
set_option linter.all false
set_option maxRecDepth 100000
set_option maxHeartbeats 1000000
/-! EngX1: exceptions: raise, try. -/
namespace Ev
open PySem L2

def clsAll : List (Str × Nat) := [("NoteError", 1), ("NoNote", 2), ("Full", 3), ("NoRules", 4), ("NotTheirs", 5), ("NoDeed", 6), ("NoText", 7)]
def bmV : List Value := [.type "ValueError", .type "Exception", .type "BaseException", .type "object"]
/-- what must be known of the classes -/
structure ExOk (K : PySem.W.Frag) (mg : Str → Option Value) (cA : Nat → Addr) (cs : List (Str × Nat)) : Prop where
  nm : ∀ x n, cs.lookup x = some n → mg x = some (.ref (cA n)) ∧ PySem.W.keepIn K (.ref (cA n)) = true ∧ PySem.W.excIn K (cA n) bmV "ValueError.__new__" = true ∧
    PySem.W.subIn K (.ref (cA n)) (.type "BaseException") = some true ∧ PySem.W.typeIn K (.ref (cA n)) = some (.type "type")
  isc : cs ≠ [] → ∀ n, ExcC K (cA n)
  exm : ∀ x m, cs.lookup x = some m → ∀ n, PySem.W.exmOne K (.ref (cA n)) (.ref (cA m)) = some (subC n m) ∧ PySem.W.kitOne K (.ref (cA n)) (.ref (cA m)) = some (subC n m)
  exv : cs ≠ [] → ∀ n, PySem.W.kitOne K (.ref (cA n)) (.type "ValueError") = some true

section
variable {X : Cx} {F : FS} {E : XW} {cA : Nat → Addr} {cs : List (Str × Nat)}
theorem ss_raise {x m : Str} {n j : Nat} {p p2 pos pos' : Pos} (o : ExOk X.K X.mg cA cs) (hx : cs.lookup x = some n) (hc : X.calm = true) (tk : Takes X (wOf cA E)) (hg : Gl X x) (hdb : (x == ("__debug__" : Str)) = false) :
    PS X (.Raise (some (.Call (.Name x p) [.Constant (.str m) j p2] [] pos)) none pos') (tEx X.K F E (.raise n)) := by
  obtain ⟨h1, h2, h3, h4, h5⟩ := o.nm x n hx
  refine (ps_raise hc tk (pmk_own PySem.F.excBase_ValueError h3 h1 h2 (raises_own h4 h5) hg hdb)).monoE fun N σ H h => ?_
  obtain ⟨ρ, S, β, sim, r, p⟩ := h
  rw [ex] at p
  exact ⟨n, rfl, rfl, p σ β H .refl r sim⟩

/-- within a suite whose exception stands at a, in the i-th slot -/
def hotX (i : Nat) (a : Addr) : XW := ⟨fun _ _ _ => False, fun σ => σ[i]? = some (some (.ref a))⟩
theorem ss_tryAs {x n : Str} {m i : Nat} {body suite : List Stmt} {b₀ : Stmt} {sb sh : Sms} {np pos pos' : Pos} (hs : X.stack = X.env :: X.outer) (hf : X.env.frame = some X.env.locals) (hN : X.N.Nodup) (hi : X.N[i]? = some n)
    (hln : X.env.kindOf n = some .local) (hc : Names X x (.ref (cA m))) (tk : Takes X (wOf cA E)) (hpin : ∀ σ, E.pin σ) (hex : ∀ n, PySem.W.exmOne X.K (.ref (cA n)) (.ref (cA m)) = some (subC n m))
    (hb : ∀ (E' : XW) (pn : List (Addr × Obj)) (xe : Value → Shared → Prop), (∀ σ, E'.pin σ) → Takes (X.tr pn xe) (wOf cA E') → PassesOwn (model X.prog X.w) X.A X.env xe → PSs (X.tr pn xe) body (tExs X.K F E' sb))
    (hsu : ∀ (a : Addr) (oe : Obj) (e : Nat) (pn : List (Addr × Obj)), Zc (.ref (cA e)) none oe → (∃ vs, oe.data = .fields vs) → PSs (X.suite a ((a, oe) :: pn)) (b₀ :: suite) (tExs X.K (hotF e F) (hotX i a) sh)) :
    PS X (.Try body [.ExceptHandler (some (.Name x np)) (some n) (b₀ :: suite) pos'] [] [] pos) (tEx X.K F E (.tryAs sb m i sh)) := by
  have key := ps_try_as (np := np) (pos := pos) (pos' := pos') (ts := fun a cls d N σ H => ∃ e, cls = .ref (cA e) ∧ d = none ∧ tExs X.K (hotF e F) (hotX i a) sh N σ H) (tb := fun W => tExs X.K F ⟨fun c σ H => W (.ref (cA c)) none σ H, fun _ => True⟩ sb) (Wout := wOf cA E) hs hf hN hi hln hc tk
    (fun W pn xe tkW po => hb _ pn xe (fun _ => trivial) (tkW.imp fun c d σ H ⟨c', e1, e2, e3⟩ => by subst e1; subst e2; exact e3) po)
    (fun a oe cls d pn hz hd => ⟨fun pins s σ H D I h => by
      obtain ⟨e, rfl, rfl, h⟩ := h
      exact (hsu a oe e pn hz hd).run pins s σ H D I h⟩)
  refine key.monoE fun N σ H h => ?_
  obtain ⟨ρ, S, β, sim, r, p⟩ := h
  rw [ex] at p
  refine ⟨ρ, S, β, ⟨trivial, sim.len, sim.rel⟩, r, ?_⟩
  cases eo : exs F sb ρ S with
  | nx ρ1 S1 =>
    rw [eo] at p
    intro σ1 β1 H1 e1 r1 s1
    exact p σ1 β1 H1 e1 r1 ⟨hpin _, s1.len, s1.rel⟩
  | rt d S1 =>
    rw [eo] at p
    exact p
  | bad =>
    rw [eo] at p
    exact p
  | exc e ρ1 S1 =>
    rw [eo] at p
    dsimp only at p
    intro σ1 β1 H1 e1 r1 s1
    refine ⟨subC e m, hex e, fun ht a ha => ?_, fun hfa => ⟨e, rfl, rfl, ?_⟩⟩
    · rw [if_pos ht] at p
      by_cases hi' : i < ρ1.length
      · rw [if_pos hi'] at p
        refine ⟨e, rfl, rfl, ρ1.set i none, S1, β1, ⟨?_, by simp [s1.len], fun j d q => ?_⟩, r1, ?_⟩
        · show (σ1.set i (some (.ref a)))[i]? = some (some (.ref a))
          exact List.getElem?_set_self (by rw [s1.len]; exact hi')
        · by_cases hj : i = j
          · subst hj
            rw [List.getElem?_set_self hi'] at q
            cases q
          · rw [List.getElem?_set_ne hj] at q ⊢
            exact s1.rel j d q
        · cases eh : exs (hotF e F) sh (ρ1.set i none) S1 with
          | nx ρ2 S2 =>
            rw [eh] at p
            intro σ2 β2 H2 e2 r2 s2
            refine p (σ2.set i none) β2 H2 (e1.trans e2) r2 ⟨hpin _, by simp [s2.len], fun j d q => ?_⟩
            by_cases hj : i = j
            · subst hj
              by_cases hl : i < ρ2.length
              · rw [List.getElem?_set_self hl] at q
                cases q
              · rw [List.getElem?_eq_none (by simpa using hl)] at q
                cases q
            · rw [List.getElem?_set_ne hj] at q ⊢
              exact s2.rel j d q
          | rt d S2 =>
            rw [eh] at p
            intro v β2 H2 e2 r2 hv
            exact p v β2 H2 (e1.trans e2) r2 hv
          | exc c ρ2 S2 => rw [eh] at p; exact p.elim
          | bad => rw [eh] at p; exact p.elim
      · rw [if_neg hi'] at p; exact p.elim
    · rw [if_neg (by rw [hfa]; exact Bool.false_ne_true)] at p
      exact p σ1 β1 H1 e1 r1 ⟨hpin _, s1.len, s1.rel⟩

/-! several clauses, without a name -/
def hdl (K : PySem.W.Frag) (F : FS) (cA : Nat → Addr) : Hds → List (Value × (Addr → Value → Option Addr → TS))
  | .nil => []
  | .cons m sh r => (.ref (cA m), fun _ cls d N σ H => ∃ e, cls = .ref (cA e) ∧ d = none ∧ tExs K (hotF e F) noX sh N σ H) :: hdl K F cA r
def HdEx (K : PySem.W.Frag) (cA : Nat → Addr) : Hds → Prop
  | .nil => True
  | .cons m _ r => (∀ n, PySem.W.exmOne K (.ref (cA n)) (.ref (cA m)) = some (subC n m)) ∧ HdEx K cA r
theorem many_read {N : Ends} {β β1 : List Addr} {S S1 : Store} {H H1 : Hp} {σ1 : L2.St} {ρ1 : Env} {e : Nat} (hpin : ∀ σ, E.pin σ) (e1 : Ext β S H β1 S1 H1) (r1 : RS X.K β1 S1 H1) (s1 : Sim X.K (fun _ => True) β1 H1 σ1 ρ1) :
    ∀ hs : Hds, HdEx X.K cA hs → SPost X.K E β S H (hands F hs e ρ1 S1) N → wMany X.K (wOf cA E) N (hdl X.K F cA hs) (.ref (cA e)) none σ1 H1
  | .nil, _, p => by
    rw [hands] at p
    exact ⟨e, rfl, rfl, p σ1 β1 H1 e1 r1 ⟨hpin _, s1.len, s1.rel⟩⟩
  | .cons m sh r, hx, p => by
    rw [hands] at p
    refine ⟨subC e m, hx.1 e, fun ht a ha => ?_, fun hfa => ?_⟩
    · rw [if_pos ht] at p
      refine ⟨e, rfl, rfl, ρ1, S1, β1, s1, r1, ?_⟩
      cases eh : exs (hotF e F) sh ρ1 S1 with
      | nx ρ2 S2 =>
        rw [eh] at p
        intro σ2 β2 H2 e2 r2 s2
        exact p σ2 β2 H2 (e1.trans e2) r2 ⟨hpin _, s2.len, s2.rel⟩
      | rt d S2 =>
        rw [eh] at p
        intro v β2 H2 e2 r2 hv
        exact p v β2 H2 (e1.trans e2) r2 hv
      | exc c ρ2 S2 => rw [eh] at p; exact p.elim
      | bad => rw [eh] at p; exact p.elim
    · rw [if_neg (by rw [hfa]; exact Bool.false_ne_true)] at p
      exact many_read hpin e1 r1 s1 r hx.2 p
theorem ss_tryMany {body : List Stmt} {h₀ : ExceptHandler} {hds : List ExceptHandler} {sb : Sms} {hs : Hds} {pos : Pos} (hst : X.stack = X.env :: X.outer) (hf : X.env.frame = some X.env.locals) (tk : Takes X (wOf cA E)) (hpin : ∀ σ, E.pin σ) (hx : HdEx X.K cA hs)
    (hb : ∀ (E' : XW) (pn : List (Addr × Obj)) (xe : Value → Shared → Prop), (∀ σ, E'.pin σ) → Takes (X.tr pn xe) (wOf cA E') → PassesOwn (model X.prog X.w) X.A X.env xe → PSs (X.tr pn xe) body (tExs X.K F E' sb))
    (hh : HdsOk X (h₀ :: hds) (hdl X.K F cA hs)) : PS X (.Try body (h₀ :: hds) [] [] pos) (tEx X.K F E (.tryMany sb hs)) := by
  have key := ps_try_many (pos := pos) (tb := fun W => tExs X.K F ⟨fun c σ H => W (.ref (cA c)) none σ H, fun _ => True⟩ sb) (Wout := wOf cA E) hst hf tk
    (fun W pn xe tkW po => hb _ pn xe (fun _ => trivial) (tkW.imp fun c d σ H ⟨c', e1, e2, e3⟩ => by subst e1; subst e2; exact e3) po) hh
  refine key.monoE fun N σ H h => ?_
  obtain ⟨ρ, S, β, sim, r, p⟩ := h
  rw [ex] at p
  refine ⟨ρ, S, β, ⟨trivial, sim.len, sim.rel⟩, r, ?_⟩
  cases eo : exs F sb ρ S with
  | nx ρ1 S1 =>
    rw [eo] at p
    intro σ1 β1 H1 e1 r1 s1
    exact p σ1 β1 H1 e1 r1 ⟨hpin _, s1.len, s1.rel⟩
  | rt d S1 =>
    rw [eo] at p
    exact p
  | bad =>
    rw [eo] at p
    exact p
  | exc e ρ1 S1 =>
    rw [eo] at p
    dsimp only at p
    intro σ1 β1 H1 e1 r1 s1
    exact many_read hpin e1 r1 s1 hs hx p
end
end Ev
set_option Elab.async false
set_option linter.all false
set_option maxRecDepth 100000
set_option maxHeartbeats 1000000
/-! EngX2: a caught exception: isinstance, defs that are called with it alone. -/
namespace Ev
open PySem L2 PySem.Spec PyProof.Rows

section
variable {X : Cx} {F : FS} {E : XW} {cA : Nat → Addr}
/-- isinstance(e, c), e pinned -/
theorem call_isP {a D : Addr} {oe : Obj} (C : ExcC X.K D) (hm : (a, oe) ∈ X.pn) (hz : Zc (.ref D) none oe) (hf : ∃ vs, oe.data = .fields vs) : CallR X (.builtin "isinstance") (rIsE X.K D a) := by
  intro pins s σ H xs us Q I r h
  obtain ⟨c, cv, b, rfl, hcv, e, q⟩ := h
  cases r with
  | cons rx rr =>
    cases rr with
    | cons rt rr =>
      cases rr
      cases rx
      have ec := hcv _ rt
      subst ec
      obtain ⟨hget, _⟩ := I.pin (a, oe) (List.mem_append_left _ hm)
      obtain ⟨vs, hv⟩ := hf
      have J : PySem.W.InstAt s.heap a oe D none := by
        obtain ⟨oc, od, oda, osl⟩ := oe
        obtain ⟨h1, h2⟩ := hz
        dsimp only at h1 h2 hv
        subst h1 h2 hv
        exact ⟨hget, rfl, rfl, trivial⟩
      exact PySem.W.kia_one (PySem.W.handS_kitx_exc C.hg C.hk C.hs C.hd C.ha C.hn C.ht C.hm) I.kIn J e (fun z => nomatch z) fun tk => ⟨.bl b, H, I.kept (t' := tk) fun _ _ z => z, rfl, q⟩

/-- what is known within a suite -/
structure Hot (X : Cx) (F0 : FS) (E : XW) (cA : Nat → Addr) (i e : Nat) (a : Addr) (oe : Obj) : Prop where
  mem : (a, oe) ∈ X.pn
  z : Zc (.ref (cA e)) none oe
  f : ∃ vs, oe.data = .fields vs
  pin : ∀ σ, E.pin σ → σ[i]? = some (some (.ref a))
  no : ∀ c σ H, ¬ E c σ H

variable {F0 : FS} {i e : Nat} {a : Addr} {oe : Obj} {cs : List (Str × Nat)}
theorem s_isx {xn y : Str} {m : Nat} {p p1 p2 pos : Pos} (h0 : Hot X F0 E cA i e a oe) (o : ExOk X.K X.mg cA cs) (hx : cs.lookup y = some m) (hm1 : m < 1000) (hi : X.N[i]? = some xn) (hv : Vis X.env.scope xn) (d1 : (xn == ("__debug__" : Str)) = false) (d2 : (xn == ("__classdict__" : Str)) = false)
    (hg : Gl X "isinstance") (hm : X.mg "isinstance" = none) (hgy : Gl X y) (d3 : (y == ("__debug__" : Str)) = false) : PE X (.Call (.Name "isinstance" p) [.Name xn p1, .Name y p2] [] pos) (tEv X.K (hotF e F0) E (.isx m)) := by
  have hne : cs ≠ [] := fun z => by rw [z] at hx; cases hx
  refine (pe_callB (call_isP (o.isc hne e) h0.mem h0.z h0.f) hg hm PyProof.Rows.boot_isinstance (pa_cons (pe_var hi hv d1 d2) (pa_cons (pe_glob (v := .ref (cA m)) hgy (o.nm y m hx).1 rfl d3) pa_nil)) (by decide) (by decide) rfl rfl).monoE fun σ H Q h => ?_
  obtain ⟨ρ, S, β, sim, r, p⟩ := h
  unfold PV at p
  rw [ev] at p
  have e1 : hotF e F0 (1000 + m) [] S = .ok (.bl (subC e m)) S := by
    unfold hotF
    rw [if_neg (by omega), if_pos (by omega), Nat.add_sub_cancel_left]
  rw [e1] at p
  refine ⟨.ref a, h0.pin σ sim.pin, .ref (cA m), .ref (cA m), subC e m, rfl, fun u hu => hu, (o.exm y m hx e).2, ?_⟩
  exact p β H .refl r (.bl _) (by rw [RV])
theorem s_isv {xn : Str} {p p1 p2 pos : Pos} (h0 : Hot X F0 E cA i e a oe) (o : ExOk X.K X.mg cA cs) (hne : cs ≠ []) (hi : X.N[i]? = some xn) (hv : Vis X.env.scope xn) (d1 : (xn == ("__debug__" : Str)) = false) (d2 : (xn == ("__classdict__" : Str)) = false)
    (hg : Gl X "isinstance") (hm : X.mg "isinstance" = none) (hgy : Gl X "ValueError") (hmy : X.mg "ValueError" = none) : PE X (.Call (.Name "isinstance" p) [.Name xn p1, .Name "ValueError" p2] [] pos) (tEv X.K (hotF e F0) E (.isx 0)) := by
  refine (pe_callB (call_isP (o.isc hne e) h0.mem h0.z h0.f) hg hm PyProof.Rows.boot_isinstance (pa_cons (pe_var hi hv d1 d2) (pa_cons (pe_bltn (v := .ty "ValueError") hgy hmy (by decide +kernel) rfl (by decide) (by decide)) pa_nil)) (by decide) (by decide) rfl rfl).monoE fun σ H Q h => ?_
  obtain ⟨ρ, S, β, sim, r, p⟩ := h
  unfold PV at p
  rw [ev] at p
  have e1 : hotF e F0 (1000 + 0) [] S = .ok (.bl (subC e 0)) S := by
    unfold hotF
    rw [if_neg (by omega), if_pos (by omega)]
  rw [e1] at p
  refine ⟨.ref a, h0.pin σ sim.pin, .ty "ValueError", .type "ValueError", true, rfl, fun u hu => hu, o.exv hne e, ?_⟩
  exact p β H .refl r (.bl _) (by rw [RV]; rfl)

/-! ### a def, called with a caught exception alone -/
structure FnW (P : Program) (w : World) (K : PySem.W.Frag) (mg : Str → Option Value) (base : Heap) (k : Nat) (f : Addr) (fd : FuncData) (ps : List Str) (c : Addr) (o : Out D) : Prop where
  len : ps.length = 1
  run : ∀ (A : Around) (outer : List PySem.Env) (s : Shared) (H : Hp) (args : Args) (us : List Value) (Q : VK) (E : XK) (p : Addr × Obj), L2H.RoomH k A → L2H.PinOk outer H s p → Zc (.ref c) none p.2 → (∃ vs, p.2.data = .fields vs) → Env0 P w K mg base A outer s H →
    BindsTo s fd args (ps.zip us) → Vals [.ref p.1] us → LamX.Tabs (tabsOf K) H → Post K [] [] H o (fun d _ β' H' => ∀ v, RV K β' H' d v → Q v H') (fun _ _ _ _ => False) →
    codeAny (model P w) A (.call (.ref f) args) (CR (L2.CX P w) outer P w H s Q E) s
theorem fn_ofW {P : Program} {w : World} {K : PySem.W.Frag} {mg : Str → Option Value} {base : Heap} {k : Nat} {f c : Addr} {name qual : Str} {params : Arguments} {body : List Stmt} {scope : Scope} {dV kV doc pm cdv ct oc : Value} {an od : Option Addr}
    {osl : Array (Option Value)} {N ps : List Str} {o : Out D} (lk : K.lookup f = some ⟨oc, od, .func (PySem.W.fnOf name qual params body scope dV kV doc pm an cdv ct), osl⟩) (hcd : PySem.W.codeIn K cdv qual = true) (S : FnScope N ps scope)
    (len : ps.length = 1)
    (hbody : ∀ (A : Around) (outer : List PySem.Env) (s : Shared) (H : Hp) (Q : VK) (E : XK) (p : Addr × Obj), L2H.RoomH k (A.deeper (envOfC qual scope s.heap.objs.size f cdv)) → Zc (.ref c) none p.2 → (∃ vs, p.2.data = .fields vs) → LamX.Tabs (tabsOf K) H → Post K [] [] H o (fun d _ β' H' => ∀ v, RV K β' H' d v → Q v H') (fun _ _ _ _ => False) →
      ∃ t, PSs (L2H.cxH (L2.CX P w) P w K mg base N qual scope f cdv A outer s H E p) body t ∧ t { nx := fun _ H' => Q .non H', rt := Q } (L2.start N [.ref p.1]) H) :
    FnW P w K mg base (k + 1) f (PySem.W.fnOf name qual params body scope dV kV doc pm an cdv ct) ps c o := by
  refine ⟨len, fun A outer s H args us Q E p hr hpin hz hfl e0 hb r hT hsp => ?_⟩
  have KX : K.In s.heap := e0.mod.kin.keeps fun b o e => (e0.bs b o e).1
  have lim : s.heap.NoLimit := e0.mod.nolimit.keeps fun b o e => (e0.bs b o e).1
  have hkind : ∀ y ∈ ps.zip us, scope.names.lookup y.1 = some .local ∨ (scope.names.lookup y.1 = some .cell ∧ ((cellsFrom (s.heap.objs.size + 1) scope.names []).lookup y.1).isSome = true) := fun ⟨n, v⟩ hy => by
    rcases S.par n (List.of_mem_zip hy).1 with q | q
    · exact .inl q
    · exact .inr ⟨q, PySem.W.cellsFrom_some _ _ _ (.inl q)⟩
  refine codeAny_call_function hr.depth (KX _ _ lk) rfl S.co S.gen rfl (PySem.W.codeRec_of KX hcd) (hb _ _ _ _ ?_)
  refine wpAny_newFunctionEnv_cells S.kind hkind fun env he s1 x => ?_
  subst he
  refine ⟨lim.keeps x.toInCall.keep, codeAny_func ?_⟩
  obtain ⟨t, ht, hq⟩ := hbody A outer s H Q E p (hr.deeper _) hz hfl hT hsp
  have I : Inv (L2H.cxH (L2.CX P w) P w K mg base N qual scope f cdv A outer s H E p) [] (L2.start N [.ref p.1]) H s1 := L2H.inv_startH S hpin e0 len.symm r x
  refine wpAny_mono (ht.run [] s1 (L2.start N [.ref p.1]) H _ I hq) (fun fl s' hs => ?_) fun e s' hs => hs
  have fin : ∀ {σ' : L2.St} {H' : Hp} {v : V} {u : Value}, Inv (L2H.cxH (L2.CX P w) P w K mg base N qual scope f cdv A outer s H E p) [] σ' H' s' → RelV v u → Q v H' → CE outer P w H s Q u s' :=
    fun {σ' H' v u} J rv q => ⟨v, H', J.os, J.bare, J.base, J.hok, rv, q⟩
  cases fl with
  | ret u =>
    obtain ⟨v, σ', H', J, rv, q⟩ := hs
    exact fin J rv q
  | next =>
    obtain ⟨σ', H', J, q⟩ := hs
    exact fin (v := V.non) (u := Value.none) J rfl q
  | brk =>
    obtain ⟨_, _, _, q⟩ := hs
    exact False.elim q
  | cont =>
    obtain ⟨_, _, _, q⟩ := hs
    exact False.elim q
theorem s_callx {x xn : Str} {k fid : Nat} {f : Addr} {fd : FuncData} {ps : List Str} {p p1 pos : Pos} (h0 : Hot X F0 E cA i e a oe) (G : FnW X.prog X.w X.K X.mg X.base k f fd ps (cA e) (F0 (2000 + 100 * e + fid) [] [])) (hr : L2H.RoomH k X.A) (hg : Gl X x) (hm : X.mg x = some (.ref f))
    (hk : PySem.W.keepIn X.K (.ref f) = true) (hb : Binds X.K fd ps []) (hi : X.N[i]? = some xn) (hv : Vis X.env.scope xn) (d1 : (xn == ("__debug__" : Str)) = false) (d2 : (xn == ("__classdict__" : Str)) = false) (hdb : (x == ("__debug__" : Str)) = false) :
    PE X (.Call (.Name x p) [.Name xn p1] [] pos) (tEv X.K (hotF e F0) E (.callx fid)) := by
  refine ⟨fun pins s σ H Q I h => ?_⟩
  obtain ⟨ρ, S, β, sim, r, q⟩ := h
  unfold PV at q
  rw [ev] at q
  refine wpAny_Call_Name_kw (ld_glob I hg hm ?_ hdb)
  have ha : PA X [.Name xn p1] (tCons (tVar i) tNil) := pa_cons (pe_var hi hv d1 d2) pa_nil
  refine PySem.W.callWith_K (h₀ := X.base) I.ok.mod.kin hk (thn (ha.run pos pins s σ H (fun vs H1 => vs = [V.ref a] ∧ H = H1) I ⟨.ref a, h0.pin σ sim.pin, rfl, rfl⟩) fun us s1 hh => ?_)
  obtain ⟨vs, H1, I1, rv, rfl, rfl⟩ := hh
  refine ⟨I1.kIn, ?_⟩
  have hl : us.length = ps.length := by rw [← rv.length, G.len]; rfl
  have b := hb s1 us I1.kIn (by rw [List.append_nil]; exact hl)
  rw [List.append_nil] at b
  have P1 := I1.pin (a, oe) (List.mem_append_left _ h0.mem)
  have hpin : L2H.PinOk X.stack H s1 (a, oe) := ⟨P1.1, P1.2.1, fun hm => (List.mem_cons.mp (I1.stkSub a hm)).elim P1.2.2.1 P1.2.2.2.1, P1.2.2.2.2⟩
  have e1 : hotF e F0 (2000 + fid) [] [] = F0 (2000 + 100 * e + fid) [] [] := by
    unfold hotF
    rw [if_neg (by omega), if_neg (by omega), Nat.add_sub_cancel_left]
  unfold callF at q
  rw [if_pos (by rw [D.pureAll])] at q
  rw [e1] at q
  refine wpAny_call (codeAny_mono (G.run X.A X.stack s1 H ⟨us, []⟩ us Q (fun _ _ _ => False) (a, oe) hr hpin h0.z h0.f I1.env0 b rv r.tab ?_) fun r' s' hq => ?_)
  · cases eo : F0 (2000 + 100 * e + fid) [] [] with
    | bad => rw [eo] at q; exact q.elim
    | exc c S' =>
      rw [eo] at q
      intro β' H' ex r'
      obtain ⟨r1, e1⟩ := Ext.own r ex r'
      exact h0.no _ _ _ (q β H' e1 r1)
    | ok d S' =>
      rw [eo] at q
      dsimp only at q
      unfold impD at q
      intro β' H' ex r' v h
      split at q
      · rename_i hd
        obtain ⟨r1, e1⟩ := Ext.own r ex r'
        exact q β H' e1 r1 v (RV.pureB d v hd h)
      · split at q
        · rename_i j
          split at q
          · rename_i xs g
            rw [RV] at h
            obtain ⟨a, rfl, ha⟩ := h
            obtain ⟨r1, e1⟩ := Ext.ownL r ex r' g ha
            refine q _ H' e1 r1 _ ?_
            rw [RV]
            refine ⟨a, rfl, ?_⟩
            rw [← r.len]
            simp
          · exact q.elim
        · exact q.elim
  · cases r' with
    | error e =>
      obtain ⟨_, _, _, _, _, _, _, _, _, _, _, _, zz⟩ := hq
      exact zz.elim
    | ok fl =>
      cases fl with
      | ret u => exact I1.after hq
      | next => exact False.elim hq
      | brk => exact False.elim hq
      | cont => exact False.elim hq
end
end Ev
set_option Elab.async false
set_option linter.all false
set_option maxRecDepth 100000
set_option maxHeartbeats 1000000
/-! EngC1: instances: made, read, stored, their methods; list.pop(). -/
namespace Ev
open PySem L2 PySem.Spec PyProof.Rows

def metL : List Str := ["__init__", "become", "take", "ask", "pass_on", "notes", "time", "rules", "change", "undo", "log", "do", "deeds", "unlike", "back", "forth", "steps", "twin"]
def metN (j : Nat) : Str := metL.getD j "log"
theorem fld_met (f j : Nat) : fldN f ≠ metN j := by
  have h1 : fldN f ∈ fldL := by
    unfold fldN
    rw [List.getD_eq_getElem?_getD]
    cases e : fldL[f]? with
    | none => decide +kernel
    | some x => exact List.mem_of_getElem? e
  have h2 : metN j ∈ metL := by
    unfold metN
    rw [List.getD_eq_getElem?_getD]
    cases e : metL[j]? with
    | none => decide +kernel
    | some x => exact List.mem_of_getElem? e
  have h3 : ∀ x ∈ fldL, ∀ y ∈ metL, x ≠ y := by decide +kernel
  exact h3 _ h1 _ h2
theorem fld_inj {f g : Nat} (hf : f < 8) (hg : g < 8) (h : fldN f = fldN g) : f = g := by
  have h3 : ∀ f : Fin 8, ∀ g : Fin 8, fldN f.val = fldN g.val → f = g := by decide +kernel
  exact congrArg Fin.val (h3 ⟨f, hf⟩ ⟨g, hg⟩ h)

section
variable {K : PySem.W.Frag} {β β' : List Addr} {S S' : Store} {H H' : Hp}
theorem RFs.lt : ∀ {fs : List (Nat × D)} {gs : List (Str × V)}, RFs K β H fs gs → ∀ {f : Nat} {d : D}, fs.lookup f = some d → f < 8
  | [], gs, h, f, d, e => by cases e
  | (g, d0) :: r, gs, h, f, d, e => by
    rw [RFs] at h
    obtain ⟨v, t, rfl, hg, h1, h2⟩ := h
    rw [List.lookup_cons] at e
    cases q : (f == g) with
    | true => rw [eq_of_beq q]; exact hg
    | false => rw [q] at e; exact RFs.lt h2 e
theorem RFs.get : ∀ {fs : List (Nat × D)} {gs : List (Str × V)}, RFs K β H fs gs → ∀ {f : Nat} {d : D}, fs.lookup f = some d → ∃ v, gs.lookup (fldN f) = some v ∧ RV K β H d v
  | [], gs, h, f, d, e => by cases e
  | (g, d0) :: r, gs, h, f, d, e => by
    rw [RFs] at h
    obtain ⟨v, t, rfl, hg, h1, h2⟩ := h
    rw [List.lookup_cons] at e ⊢
    cases q : (f == g) with
    | true =>
      rw [q] at e
      cases e
      rw [eq_of_beq q, beq_self_eq_true]
      exact ⟨v, rfl, h1⟩
    | false =>
      rw [q] at e
      cases q2 : (fldN f == fldN g) with
      | false => exact RFs.get h2 e
      | true =>
        exfalso
        have hf : f < 8 := RFs.lt h2 e
        have := fld_inj hf hg (eq_of_beq q2)
        rw [this, beq_self_eq_true] at q
        cases q
theorem RFs.no {m : Str} (hm : ∀ f, fldN f ≠ m) : ∀ {fs : List (Nat × D)} {gs : List (Str × V)}, RFs K β H fs gs → gs.lookup m = none
  | [], gs, h => by rw [RFs] at h; subst h; rfl
  | (g, d0) :: r, gs, h => by
    rw [RFs] at h
    obtain ⟨v, t, rfl, hg, h1, h2⟩ := h
    rw [List.lookup_cons, show (m == fldN g) = false from beq_eq_false_iff_ne.mpr fun z => hm g z.symm]
    exact RFs.no hm h2
theorem RFs.length : ∀ {fs : List (Nat × D)} {gs : List (Str × V)}, RFs K β H fs gs → gs.length = fs.length
  | [], gs, h => by rw [RFs] at h; subst h; rfl
  | (g, d0) :: r, gs, h => by
    rw [RFs] at h
    obtain ⟨v, t, rfl, hg, h1, h2⟩ := h
    rw [List.length_cons, List.length_cons, RFs.length h2]
theorem RFs.put {f : Nat} {d : D} {v : V} (hf : f < 8) (hv : RV K β H d v) : ∀ {fs : List (Nat × D)} {gs : List (Str × V)}, RFs K β H fs gs → RFs K β H (putFd f d fs) (putF (fldN f) v gs)
  | [], gs, h => by
    rw [RFs] at h
    subst h
    rw [putFd, RFs]
    exact ⟨v, [], rfl, hf, hv, by rw [RFs]⟩
  | (g, d0) :: r, gs, h => by
    rw [RFs] at h
    obtain ⟨v0, t, rfl, hg, h1, h2⟩ := h
    rw [putFd, show putF (fldN f) v ((fldN g, v0) :: t) = (if fldN g = fldN f then (fldN g, v) :: t else (fldN g, v0) :: putF (fldN f) v t) from rfl]
    by_cases q : g = f
    · rw [if_pos q, if_pos (by rw [q]), RFs]
      exact ⟨v, t, rfl, hg, hv, h2⟩
    · rw [if_neg q, if_neg (fun z => q (fld_inj hg hf z)), RFs]
      exact ⟨v0, _, rfl, hg, h1, RFs.put hf hv h2⟩
theorem insOf_some {d : D} {c : Nat} {fs : List (Nat × D)} (h : insOf S d = some (c, fs)) : ∃ n, d = .loc n ∧ S[n]? = some (.ins c fs) := by
  cases d with
  | loc n =>
    simp only [insOf] at h
    split at h
    · rename_i c' fs' e
      cases h
      exact ⟨n, rfl, e⟩
    · cases h
  | _ => exact nomatch h
theorem RS.ins (r : RS K β S H) {n c : Nat} {fs : List (Nat × D)} {a : Addr} (h : S[n]? = some (.ins c fs)) (ha : β[n]? = some a) : ∃ dx gs, H a = some (.ins (iA K c) dx gs) ∧ RFs K β H fs gs := r.obj n _ a h ha
/-- a field is stored -/
theorem RS.fput (r : RS K β S H) {n c f : Nat} {fs : List (Nat × D)} {a dx : Addr} {gs : List (Str × V)} {d : D} {v : V} (h : S[n]? = some (.ins c fs)) (ha : β[n]? = some a) (hH : H a = some (.ins (iA K c) dx gs)) (hg : RFs K β H fs gs) (hf : f < 8) (hv : RV K β H d v) :
    RS K β (S.set n (.ins c (putFd f d fs))) (upd H a (.ins (iA K c) dx (putF (fldN f) v gs))) ∧ Ext β S H β (S.set n (.ins c (putFd f d fs))) (upd H a (.ins (iA K c) dx (putF (fldN f) v gs))) := by
  refine r.put ha (fun t => by rw [h]; exact (fun z => nomatch z)) (fun t => by rw [h]; exact (fun z => nomatch z)) ⟨dx, _, upd_same, ?_⟩
  refine RFs.of_keep (fun d v' h => RV.of_keep (fun b xs q => ?_) (fun b o u q => ?_) (fun _ _ q => q) d v' h) _ _ (hg.put hf hv)
  · have : b ≠ a := fun zz => by rw [zz, hH] at q; cases q
    rw [upd_ne this]; exact q
  · have : b ≠ a := fun zz => by rw [zz, hH] at q; cases q
    rw [upd_ne this]; exact q
end

/-- what is asked of the classes cs for a field -/
abbrev FldOk (K : PySem.W.Frag) (cs : List Nat) (x : Str) : Prop := ∀ c, cs.contains c = true → Cls K (iA K c) ∧ NoAttr K (iA K c) x
section
variable {X : Cx} {F : FS} {E : XW} {cA : Nat → Addr} {pos apos p : Pos} {o e : Expr} {io ie : Ex} {x : Str} {f : Nat} {cs : List Nat}
theorem s_fld (hc : FldOk X.K cs (fldN f)) (ho : PE X o (tEv X.K F E io)) (hn : notCall o = true) : PE X (.Attribute o (fldN f) pos) (tEv X.K F E (.fld cs f io)) := by
  refine (pe_fld ho (attr_base hn _)).monoE fun σ H Q h => ?_
  obtain ⟨ρ, S, β, sim, r, p⟩ := h
  unfold PV at p
  rw [ev] at p
  refine seqE sim r p fun d1 S1 β1 H1 v1 e1 sim1 r1 h1 p1 => ?_
  unfold fldD at p1
  cases ei : insOf S1 d1 with
  | none => rw [ei] at p1; exact p1.elim
  | some cf =>
    obtain ⟨c, fs⟩ := cf
    obtain ⟨n, rfl, hs⟩ := insOf_some ei
    rw [RV] at h1
    obtain ⟨a, rfl, ha⟩ := h1
    obtain ⟨dx, gs, hH, rf⟩ := r1.ins hs ha
    rw [ei] at p1
    dsimp only at p1
    split at p1
    · rename_i hcs
      cases el : fs.lookup f with
      | none => rw [el] at p1; exact p1.elim
      | some d =>
        rw [el] at p1
        obtain ⟨v, g1, g2⟩ := rf.get el
        obtain ⟨k1, k2⟩ := hc c hcs
        exact ⟨a, _, dx, gs, v, rfl, hH, k1, k2, g1, p1 β1 H1 .refl r1 v g2⟩
    · exact p1.elim
theorem mcall_eq {m : Str} {args : List Expr} {env : PySem.Env} (hn : notCall o = true) (hst : args.all notStar = true) (hl : args.length < 29) (hline : (apos.endLine == pos.line) = true) : eval (.Call (.Attribute o m apos) args [] pos) env = (do
      let ov ← eval o env
      standAt apos.atName
      let (f, first) ← holding [ov] (getMethod ov m (do return (← importBound o env).getD true))
      callWith pos f first (backTo pos (starEach args env)) (backToKw pos (keywordEach [] env))) := by
  refine mcall_of (attr_base hn _) fun ov => ?_
  have e1 : methodCallForm (args.length + ([] : List Keyword).length) (backTo pos (starEach args env)) (backToKw pos (keywordEach [] env)) = true := by
    unfold methodCallForm
    rw [star_all hst]
    have : args.length < 30 := by omega
    show (true && true && decide (args.length + 0 + 0 < 30)) = true
    simp [this]
  have e2 : methodCallPos true o env apos pos = pure pos := by
    unfold methodCallPos
    rw [hline]
    rfl
  unfold methodCall
  rw [e1, e2]
  rfl
/-- what is asked of the classes cs for a method -/
abbrev MetOk (X : Cx) (cA : Nat → Addr) (F : FS) (k : Nat) (cs : List Nat) (j ar : Nat) : Prop := ∀ c, cs.contains c = true → Cls X.K (iA X.K c) ∧
  ∃ f fd ps, Meth X.K (iA X.K c) (metN j) f ∧ Binds X.K fd ps [] ∧ FnOk X.prog X.w X.K X.mg X.base (L2.CX X.prog X.w) k f fd ps (spF X.K cA F ar (mid c j))
theorem s_mcall {j k ar : Nat} {args : List Expr} {ies : Exs} (hc : MetOk X cA F k cs j ar) (hr : Room k X.A) (tk : Takes X (wOf cA E)) (ho : PE X o (tEv X.K F E io)) (ha : PA X args (tEvs X.K F E ies)) (hl : ies.len + 1 = ar) (hnil : args = [] → ies = .nil)
    (hn : notCall o = true) (hst : args.all notStar = true) (hlen : args.length < 29) (hline : (apos.endLine == pos.line) = true) : PE X (.Call (.Attribute o (metN j) apos) args [] pos) (tEv X.K F E (.mcall cs j io ies)) := by
  refine ⟨fun pins s σ H Q I h => ?_⟩
  obtain ⟨ρ, S, β, sim, r, p⟩ := h
  unfold PV at p
  rw [ev] at p
  refine PySem.W.methodCall_KW (thn (ho.run pins s σ H (fun v1 H1 => ∃ S1 β1 d1, Sim X.K E.pin β1 H1 σ ρ ∧ RS X.K β1 S1 H1 ∧ RV X.K β1 H1 d1 v1 ∧ Post X.K β1 S1 H1 (match insOf S1 d1 with
    | some (c, _) => if cs.contains c then (evs F ies ρ S1).bind fun ds S => callF F (mid c j) (d1 :: ds) S else .bad
    | none => .bad) (fun d S' β' H' => ∀ v, RV X.K β' H' d v → Q v H') (fun c _ _ H' => E c σ H')) I (seqE sim r p fun d1 S1 β1 H1 v1 e1 sim1 r1 h1 p1 => ⟨S1, β1, d1, sim1, r1, h1, p1⟩)) fun u s1 ⟨x, H1, I1, rx, S1, β1, d1, sim1, r1, h1, p1⟩ => ?_) (mcall_eq hn hst hlen hline)
  cases ei : insOf S1 d1 with
  | none => rw [ei] at p1; exact p1.elim
  | some cf =>
    obtain ⟨c, fs⟩ := cf
    obtain ⟨n, rfl, hs⟩ := insOf_some ei
    have h1' := h1
    rw [RV] at h1
    obtain ⟨a, rfl, hb⟩ := h1
    obtain ⟨dx, gs, hH, rf⟩ := r1.ins hs hb
    rw [ei] at p1
    dsimp only at p1
    split at p1
    · rename_i hcs
      obtain ⟨cl, g, fd, ps, mt, bd, G⟩ := hc c hcs
      obtain rfl : u = Value.ref a := rx
      refine getmeth_ok I1 hH cl mt (rf.no fun f => fld_met f j) ?_
      cases args with
      | nil =>
        obtain rfl := hnil rfl
        rw [evs] at p1
        refine PySem.W.callWith_K0 (first := [.ref a]) I1.kIn mt.kp (run_fnS (us := [.ref a]) (vs := [.ref a]) G hr bd (passAt tk σ) I1 (.cons rfl .nil) ?_)
        exact callF_sp (by rw [← hl]; rfl) r1 (.one h1') p1
      | cons e es =>
        rw [List.all_cons, Bool.and_eq_true] at hst
        refine PySem.W.callWith_K (first := [.ref a]) (h₀ := X.base) I.ok.mod.kin mt.kp (thn (ha.run pos pins s1 σ H1 (fun vs H2 => spF X.K cA F ar (mid c j) (.ref a :: vs) H2 Q (WE (wOf cA E) σ)) I1 (seqEsL sim1 r1 p1 fun ds S2 β2 H2 vs hd e2 sim2 r2 hvs p2 => ?_)) fun us s2 ⟨vs, H2, I2, rv, q2⟩ => ⟨I2.kIn, ?_⟩) (star_cons hst.1) (star_any hst.2)
        · exact callF_sp (by rw [List.length_cons, hvs.length, hd, hl]) r2 (.cons (h1'.mono r1 e2) hvs) p2
        · exact run_fnS (us := .ref a :: us) (vs := .ref a :: vs) G hr bd (passAt tk σ) I2 (.cons rfl rv) q2
    · exact p1.elim
theorem pass_no : Passes (L2.CX X.prog X.w) X (fun _ _ _ => False) := fun pins σ H s e s' I h => by
  obtain ⟨a, B, H', cls, d, _, _, _, _, _, _, _, f⟩ := h
  exact f.elim
theorem s_make {c k ar : Nat} {g : Addr} {fd : FuncData} {ps : List Str} {es : List Expr} {ies : Exs} (hm : X.mg x = some (.ref (iA X.K c))) (M : Mk X.K (iA X.K c) g) (G : FnOk X.prog X.w X.K X.mg X.base (L2.CX X.prog X.w) k g fd ps (spF X.K cA F ar (mid c 0))) (hb : Binds X.K fd ps []) (hr : Room (k + 1) X.A)
    (hg : Gl X x) (hdb : (x == ("__debug__" : Str)) = false) (ha : PA X (e :: es) (tEvs X.K F E ies)) (hst : (e :: es).all notStar = true) (hl : ies.len + 1 = ar) : PE X (.Call (.Name x p) (e :: es) [] pos) (tEv X.K F E (.make c ies)) := by
  rw [List.all_cons, Bool.and_eq_true] at hst
  refine (pe_make (E := fun _ _ _ => False) (dvs := []) M G hr hg hm hb .nil pass_no ha hdb (star_cons hst.1) (star_any hst.2)).monoE fun σ H Q h => ?_
  obtain ⟨ρ, S, β, sim, r, p⟩ := h
  unfold PV at p
  rw [ev] at p
  refine seqEsL sim r p fun ds S1 β1 H1 vs hd e1 sim1 r1 hvs p1 => ?_
  intro y dx hy hdx hne
  rw [List.append_nil]
  obtain ⟨r2, e2⟩ := r1.aside (o := .own y) hdx
  have hy2 : upd H1 dx (.own y) y = none := by rw [upd_ne (Ne.symm hne)]; exact hy
  obtain ⟨r3, e3⟩ := r2.push (o := .ins c []) (u := .ins (iA X.K c) dx []) hy2 ⟨dx, [], upd_same, by rw [RFs]⟩
  have hy3 : (β1 ++ [y])[S1.length]? = some y := by rw [← r1.len]; simp
  refine ⟨by rw [List.length_cons, hvs.length, hd, hl], .loc S1.length :: ds, S1 ++ [.ins c []], β1 ++ [y], .cons (by rw [RV]; exact ⟨y, rfl, hy3⟩) ((hvs.mono r1 e2).mono r2 e3), r3, ?_⟩
  unfold makeF at p1
  cases eo : F (mid c 0) (.loc S1.length :: ds) (S1 ++ [.ins c []]) with
  | bad => rw [eo] at p1; exact p1.elim
  | exc c S' => rw [eo] at p1; exact p1.elim
  | ok d S' =>
    rw [eo] at p1
    cases d with
    | non =>
      intro β' H' e r' v hv
      rw [RV] at hv
      refine ⟨hv, p1 β' H' ((e2.trans e3).trans e) r' (.ref y) ?_⟩
      rw [RV]
      refine ⟨y, rfl, ?_⟩
      obtain ⟨new, eb, _⟩ := e.pre
      rw [eb, List.getElem?_append_left (List.getElem?_eq_some_iff.mp hy3).1]
      exact hy3
    | _ => exact p1.elim
/-! ### stores -/
theorem ss_setF {p2 : Pos} (hc : FldOk X.K cs (fldN f)) (ho : PE X o (tEv X.K F E io)) (he : PE X e (tEv X.K F E ie)) (hs : swapsWith e (some (.Attribute o (fldN f) p2)) pos.line X.env = pure false) :
    PS X (.Assign [.Attribute o (fldN f) p2] e pos) (tEx X.K F E (.setF cs f io ie)) := by
  refine (ps_fld ho he hs).monoE fun N σ H h => ?_
  obtain ⟨ρ, S, β, sim, r, p⟩ := h
  rw [ex] at p
  refine seqS sim r p fun dv S1 β1 H1 v e1 sim1 r1 hv p1 => ?_
  refine seqB sim1 r1 e1 p1 fun da S2 β2 H2 va e2 sim2 r2 hva p2 => ?_
  have hv2 := hv.mono r1 e2
  unfold setFD at p2
  split at p2
  · rename_i n
    split at p2
    · rename_i c fs g
      split at p2
      · rename_i hcc
        rw [Bool.and_eq_true, Bool.and_eq_true] at hcc
        obtain ⟨⟨hcs, hl⟩, hf⟩ := hcc
        rw [RV] at hva
        obtain ⟨a, rfl, ha⟩ := hva
        obtain ⟨dx, gs, hH, rf⟩ := r2.ins g ha
        obtain ⟨k1, k2⟩ := hc c hcs
        have hl' := of_decide_eq_true hl
        obtain ⟨r3, e3⟩ := r2.fput g ha hH rf (of_decide_eq_true hf) hv2
        refine ⟨a, _, dx, gs, rfl, hH, k1, k2, by rw [rf.length]; omega, ?_⟩
        obtain ⟨d', S5, β5, eg, r5, e5, h5⟩ := gc_out (d := .non) (v := .non) r ((e1.trans e2).trans e3) r3 (by rw [RV])
        dsimp only [gcO] at p2
        rw [eg] at p2
        exact p2 σ β5 _ e5 r5 (sim.mono r e5)
      · exact p2.elim
    · exact p2.elim
  · exact p2.elim
def gFld (K : PySem.W.Frag) (ta : TE) (f : Str) : TG := fun v σ H Q => ta σ H fun x H1 => ∃ a C dx fs, x = .ref a ∧ H1 a = some (.ins C dx fs) ∧ Cls K C ∧ NoAttr K C f ∧ fs.length < 1000 ∧ Q σ (upd H1 a (.ins C dx (putF f v fs)))
theorem pg_fld {ta : TE} (ho : PE X o ta) : PG X (.Attribute o x pos) (gFld X.K ta x) := by
  refine ⟨fun pins s σ H v u Q I r h => ?_⟩
  show wpAny _ _ (do
    let ov ← holding [u] (eval o X.env)
    standAt pos.atName
    holding [u, ov] (setAttr ov x u)
    release [u, ov] []) _ _ _
  refine wpAny_bind (wpAny_holding (thn (ho.run pins s σ H _ I h) fun ov s1 ⟨x, H1, I1, r1, a, C, dx, fs, ex, ea, c, n, l, q1⟩ => ?_))
  subst ex
  obtain rfl : ov = Value.ref a := r1
  refine wpAny_bind (wpAny_standAt (wpAny_bind (wpAny_holding (setattr_ok I1 ea c n l r fun s3 I3 => ?_))))
  exact wpAny_release ⟨σ, _, I3, q1⟩
def gFs (K : PySem.W.Frag) (i : Nat) : List Nat → TGs
  | [] => gNil
  | f :: fs => gCons (gFld K (tVar i) (fldN f)) (gFs K i fs)
theorem gFs_ok {i : Nat} {σ : L2.St} {a : Addr} {n : Nat} {Q : L2.St → Hp → Prop} (hσ : σ[i]? = some (some (.ref a))) : ∀ {fs : List Nat} {ds : List D} {vs : List V} {β : List Addr} {S S' : Store} {H : Hp} {d : D}, (∀ f ∈ fs, FldOk X.K cs (fldN f)) → RS X.K β S H → β[n]? = some a → RVs X.K β H ds vs → setFDs cs fs ds (.loc n) S = .ok d S' →
    (∀ H', Ext β S H β S' H' → RS X.K β S' H' → Q σ H') → gFs X.K i fs vs σ H Q
  | [], ds, vs, β, S, S', H, d, hc, r, ha, hv, e, q => by
    cases ds with
    | nil =>
      rw [setFDs] at e
      cases e
      rw [RVs] at hv
      exact ⟨hv, q H .refl r⟩
    | cons d ds => exact nomatch e
  | f :: fs, ds, vs, β, S, S', H, d, hc, r, ha, hv, e, q => by
    cases ds with
    | nil => exact nomatch e
    | cons d0 ds =>
      rw [setFDs] at e
      rw [RVs] at hv
      obtain ⟨v, vr, rfl, h1, h2⟩ := hv
      unfold setFD at e
      dsimp only at e
      cases g : S[n]? with
      | none => rw [g] at e; cases e
      | some o =>
        rw [g] at e
        cases o with
        | ins c fs0 =>
          dsimp only at e
          split at e
          · rename_i hcc
            rw [Bool.and_eq_true, Bool.and_eq_true] at hcc
            obtain ⟨⟨hcs, hl⟩, hf⟩ := hcc
            obtain ⟨dx, gs, hH, rf⟩ := r.ins g ha
            obtain ⟨k1, k2⟩ := hc f List.mem_cons_self c hcs
            have hl' := of_decide_eq_true hl
            obtain ⟨r3, e3⟩ := r.fput g ha hH rf (of_decide_eq_true hf) h1
            refine ⟨v, vr, rfl, .ref a, hσ, a, _, dx, gs, rfl, hH, k1, k2, by rw [rf.length]; omega, ?_⟩
            exact gFs_ok hσ (fun f hf => hc f (List.mem_cons_of_mem _ hf)) r3 ha (h2.mono r e3) e fun H' e4 r4 => q H' (e3.trans e4) r4
          · cases e
        | _ => cases e
theorem setFDs_out {x : D} : ∀ {fs : List Nat} {ds : List D} {S : Store}, match setFDs cs fs ds x S with
    | .ok d _ => d = .non ∧ ds.length = fs.length
    | .exc _ _ => False
    | .bad => True
  | [], [], S => ⟨rfl, rfl⟩
  | [], _ :: _, S => trivial
  | _ :: _, [], S => trivial
  | f :: fs, d :: ds, S => by
    rw [setFDs]
    cases eo : setFD cs f x d S with
    | bad => exact trivial
    | exc c S2 =>
      exfalso
      unfold setFD at eo
      split at eo
      · split at eo
        · split at eo <;> cases eo
        · cases eo
      · cases eo
    | ok u S2 =>
      have ih := setFDs_out (x := x) (fs := fs) (ds := ds) (S := S2)
      dsimp only [Out.bind]
      revert ih
      cases setFDs cs fs ds x S2 with
      | ok d' S' => exact fun h => ⟨h.1, by rw [List.length_cons, List.length_cons, h.2]⟩
      | exc c S' => exact fun h => h
      | bad => exact fun h => h
theorem ss_setFs {i : Nat} {fs : List Nat} {es : List Expr} {k : Nat} {p2 : Pos} (hc : ∀ f ∈ fs, FldOk X.K cs (fldN f)) (hg : PG X (.Tuple es k p2) (gTup X.K fs.length (gFs X.K i fs))) (he : PE X e (tEv X.K F E ie)) (hs : swapsWithSole [.Tuple es k p2] e pos.line X.env = pure false) (hw : swappedStores [.Tuple es k p2] e X.env = pure none) :
    PS X (.Assign [.Tuple es k p2] e pos) (tEx X.K F E (.setFs cs fs i ie)) := by
  refine (ps_asg he hg hs hw rfl).monoE fun N σ H h => ?_
  obtain ⟨ρ, S, β, sim, r, p⟩ := h
  rw [ex] at p
  refine seqS sim r p fun dv S1 β1 H1 v e1 sim1 r1 hv p1 => ?_
  split at p1
  · rename_i ds
    have hx : ∃ n, varOf ρ i = .loc n := by
      cases e : varOf ρ i with
      | loc n => exact ⟨n, rfl⟩
      | _ => rw [e] at p1; exact p1.elim
    obtain ⟨n, hx⟩ := hx
    rw [hx] at p1
    dsimp only at p1
    replace hx : ρ[i]? = some (some (.loc n)) := by
      unfold varOf at hx
      split at hx
      · rename_i e; rw [e, hx]
      · cases hx
    rw [RV] at hv
    obtain ⟨t, vs, rfl, hq, hvs⟩ := hv
    obtain ⟨vx, g1, g2⟩ := sim1.rel i _ hx
    rw [RV] at g2
    obtain ⟨a, rfl, ha⟩ := g2
    have ho := setFDs_out (cs := cs) (x := .loc n) (fs := fs) (ds := ds) (S := S1)
    cases eo : setFDs cs fs ds (.loc n) S1 with
    | bad => rw [eo] at p1; exact p1.elim
    | exc c S2 => rw [eo] at ho; exact ho.elim
    | ok d S2 =>
      rw [eo] at ho p1
      obtain ⟨rfl, hlen⟩ := ho
      refine ⟨t, vs, rfl, hq, by rw [hvs.length, hlen], gFs_ok (n := n) g1 hc r1 ha hvs eo fun H' e2 r2 => ?_⟩
      obtain ⟨d', S5, β5, eg, r5, e5, h5⟩ := gc_out (d := .non) (v := .non) r (e1.trans e2) r2 (by rw [RV])
      dsimp only [gcO] at p1
      rw [eg] at p1
      exact p1 σ β5 _ e5 r5 (sim.mono r e5)
  · exact p1.elim
/-- a, b = a list -/
theorem ss_asgU {is : List Nat} {es : List Expr} {k : Nat} {p2 : Pos} (hg : PG X (.Tuple es k p2) (gUnl X.K is.length (gNames is))) (he : PE X e (tEv X.K F E ie)) (hs : swapsWithSole [.Tuple es k p2] e pos.line X.env = pure false) (hw : swappedStores [.Tuple es k p2] e X.env = pure none) (hpin : ∀ σ, E.pin σ) :
    PS X (.Assign [.Tuple es k p2] e pos) (tEx X.K F E (.asgU is ie)) := by
  refine (ps_asg he hg hs hw rfl).monoE fun N σ H h => ?_
  obtain ⟨ρ, S, β, sim, r, p⟩ := h
  rw [ex] at p
  refine seqS sim r p fun d S1 β1 H1 v e1 sim1 r1 hv p1 => ?_
  split at p1
  · rename_i xs hl
    split at p1
    · rename_i ρ' es'
      obtain ⟨a, vs, rfl, sq, z⟩ := r1.list hv hl
      exact ⟨a, vs, rfl, sq, by rw [z.length, setAll_len es'], gNames_ok (p := fun _ => False) z es' sim1.P fun σ' s' _ => p1 σ' β1 H1 e1 r1 (s'.all (fun _ z => z.1) (hpin _))⟩
    · exact p1.elim
  · exact p1.elim
/-! ### list.pop() -/
theorem mt_popE : MtR X "list.pop" (fun x xs H Q => ∃ σ β S a, xs = [] ∧ RS X.K β S H ∧ RV X.K β H a x ∧ PV X.K E σ β S H (popD a S) Q) := by
  intro pins s σ H x xs v us Q I rx rv h
  obtain ⟨σ', β, S, a, rfl, r, h1, q⟩ := h
  unfold popD at q
  split at q
  · rename_i n
    split at q
    · rename_i ys g
      rw [RV] at h1
      obtain ⟨b, rfl, ha⟩ := h1
      obtain ⟨b', vs, ha', pp, e', z⟩ := r.lst g
      rw [ha] at ha'; cases ha'
      split at q
      · rename_i d hd
        have hlen := z.length
        have hne : ys.length - 1 < ys.length := by
          cases ys with
          | nil => cases hd
          | cons y ys => simp
        rw [List.getLast?_eq_getElem?] at hd
        obtain ⟨w, g1, g2⟩ := z.get hd
        refine mt_pop pins s σ H _ _ v us Q I rx rv ⟨b, vs, w, rfl, rfl, e', by rw [hlen]; exact g1, ?_⟩
        have pd : D.pureAll ys.dropLast = true := by
          rw [List.dropLast_eq_take]
          clear hd g1 hne z hlen g q
          generalize ys.length - 1 = m
          induction ys generalizing m with
          | nil => simp [D.pureAll]
          | cons y ys ih =>
            rw [D.pureAll, Bool.and_eq_true] at pp
            cases m with
            | zero => rfl
            | succ m => rw [List.take_succ_cons, D.pureAll, pp.1, ih pp.2]; rfl
        have zd : RVs X.K β H ys.dropLast vs.dropLast := by
          rw [List.dropLast_eq_take, List.dropLast_eq_take, hlen]
          exact z.take _
        have keep : ∀ d v', RV X.K β H d v' → RV X.K β (upd H b (.lst vs.dropLast)) d v' := fun d v' h => RV.of_keep (fun b' xs q => by
          have : b' ≠ b := fun zz => by rw [zz, e'] at q; cases q
          rw [upd_ne this]; exact q) (fun b' o u q => by
          have : b' ≠ b := fun zz => by rw [zz, e'] at q; cases q
          rw [upd_ne this]; exact q) (fun _ _ q => q) d v' h
        have keeps : RVs X.K β (upd H b (.lst vs.dropLast)) ys.dropLast vs.dropLast := RVs.of_keep (fun b' xs q => by
          have : b' ≠ b := fun zz => by rw [zz, e'] at q; cases q
          rw [upd_ne this]; exact q) (fun b' o u q => by
          have : b' ≠ b := fun zz => by rw [zz, e'] at q; cases q
          rw [upd_ne this]; exact q) (fun _ _ q => q) _ _ zd
        obtain ⟨r3, e3⟩ := r.put (o := .lst ys.dropLast) (u := .lst vs.dropLast) ha (fun t => by rw [g]; exact (fun z => nomatch z)) (fun t => by rw [g]; exact (fun z => nomatch z)) ⟨pd, _, upd_same, keeps⟩
        exact q β _ e3 r3 w (keep _ _ g2)
      · exact q.elim
    · exact q.elim
  · exact q.elim
theorem s_pop (ty : ∀ {β : List Addr} {S : Store} {H : Hp} {a : D} {v : V}, RS X.K β S H → RV X.K β H a v → tyOk .pop S a = true → tyV X.K "list" v H) (ho : PE X o (tEv X.K F E io)) (hn : notCall o = true) (hline : (apos.endLine == pos.line) = true) :
    PE X (.Call (.Attribute o "pop" apos) [] [] pos) (tEv X.K F E (.meth .pop io .nil)) := by
  refine (pe_bm0 PySem.F.plainAttrs_list PySem.F.slot_list_pop PySem.F.type_list_pop (mt_popE (E := E)) ho (attr_base hn _) hline).monoE fun σ H Q h => ?_
  obtain ⟨ρ, S, β, sim, r, p⟩ := h
  unfold PV at p
  rw [ev] at p
  refine seqE sim r p fun a S1 β1 H1 v e1 sim1 r1 hv p1 => ?_
  split at p1
  · rename_i ht
    rw [evs] at p1
    exact ⟨ty r1 hv ht, σ, β1, S1, a, rfl, r1, hv, p1⟩
  · exact p1.elim
end
end Ev
set_option Elab.async false
set_option linter.all false
set_option maxRecDepth 100000
/-! Eng14: from Python's syntax to the small language. -/
namespace Ev
open PySem L2

/-- classes with fields and methods: fields (number, classes), methods (number, arity, classes), classes (number, arity of __init__) -/
structure OC where
  flds : List (Str × Nat × List Nat)
  mets : List (Str × Nat × Nat × List Nat)
  mks : List (Str × Nat × Nat)
structure CC where
  N : List Str
  sc : Scope
  fns : List (Str × Nat × Nat)
  dats : List (Str × D)
  blts : List Str
  lines : List Nat
  /-- the def's name; none in a comprehension, in a lambda -/
  nm : Str
  /-- classes of exceptions; defs that are called with a caught one -/
  cls : List (Str × Nat)
  hfn : List (Str × Nat)
  obj : OC

def ixOf (x : Str) : List Str → Option Nat
  | [] => none
  | y :: r => if y = x then some 0 else (ixOf x r).map (· + 1)
def okName (x : Str) : Bool := decide (x ≠ "__debug__") && decide (x ≠ "__classdict__") && decide (x ≠ "__name__")
def isLoc (sc : Scope) (x : Str) : Bool := match sc.names.lookup x with
  | some .local => true | some .cell => true
  | _ => false
def isVis (sc : Scope) (x : Str) : Bool := match sc.names.lookup x with
  | some .local => true | some .cell => true | some .free => true
  | _ => false
def isGl (sc : Scope) (x : Str) : Bool := match sc.names.lookup x with
  | some .globalImplicit => true
  | _ => false
def cName (c : CC) (x : Str) : Option Ex :=
  if okName x then
    (if isVis c.sc x then (ixOf x c.N).map .var
     else if isGl c.sc x then (c.dats.lookup x).map .dat else none)
  else none
def cConst : Const → Option D
  | .int i => some (.int i)
  | .bool b => some (.bl b)
  | .none => some .non
  | .str s => some (.str s.cps.toList)
  | _ => none
abbrev CE := Expr → Option Ex
def noIf : Expr → Bool
  | .IfExp .. => false
  | _ => true
/-- a test -/
def cT (f : CE) (e : Expr) : Option Ex := if noIf e then f e else none
def cUn (f : CE) (op : UnaryOp) (a : Expr) : Option Ex := match op with
  | .Not => (cT f a).map .not
  | .USub => (match a with
    | .Constant (.int i) _ _ => some (.dat (.int (-i)))
    | _ => none)
  | _ => none
def cList (f : CE) : List Expr → Option Exs
  | [] => some .nil
  | e :: es => if notStar e then (match f e, cList f es with
    | some a, some b => some (.cons a b)
    | _, _ => none) else none
def bopI : Operator → Option Bop
  | .Add => some .add | .Sub => some .sub | .Mult => some .mul | .Mod => some .mod | .FloorDiv => some .fdiv
  | _ => none
def copI : CmpOp → Option Cop
  | .Eq => some .eq | .NotEq => some .ne | .Lt => some .lt | .LtE => some .le | .Gt => some .gt | .GtE => some .ge
  | .In => some .isin | .NotIn => some .notin | .Is => some .is | .IsNot => some .isnot
def cBool (f : CE) (op : BoolOp) : List Expr → Option Ex
  | [] => none
  | [a] => cT f a
  | a :: b :: r => match cT f a, cBool f op (b :: r) with
    | some x, some y => some (match op with | .And => .and x y | .Or => .or x y)
    | _, _ => none
def notSet : Expr → Bool
  | .Set .. => false
  | _ => true
def cCmp (f : CE) (a : Expr) : List CmpOp → List Expr → Option Ex
  | [op], [b] => (match copI op, f a, f b with
    | some o, some x, some y => if notSet b then some (.cmp o x y) else none
    | _, _, _ => none)
  | [o1, o2], [b, d] => (match copI o1, copI o2, f a, f b, f d with
    | some p, some q, some x, some y, some z => if notSet d then some (.chain p q x y z) else none
    | _, _, _, _, _ => none)
  | _, _ => none
def cPart (f : CE) : Option Expr → Option Ex
  | none => some (.dat .non)
  | some e => f e
def cSub (f : CE) (a i : Expr) : Option Ex := match i with
  | .Slice lo hi none _ => (match f a, cPart f lo, cPart f hi with
    | some x, some l, some h => some (.slc x l h)
    | _, _, _ => none)
  | .Slice none none (some (.UnaryOp .USub (.Constant (.int 1) _ _) _)) _ => (f a).map .rev
  | .Slice _ _ (some _) _ => none
  | i => (match f a, f i with
    | some x, some y => some (.idx x y)
    | _, _ => none)
def biOf (x : Str) (n : Nat) : Option Bi :=
  if x = "len" then some .len else if x = "tuple" then some .tuple else if x = "list" then some .list else if x = "sorted" then some .sorted else if x = "all" then some .all
  else if x = "min" then (if n = 2 then some .min2 else none) else if x = "max" then (if n = 2 then some .max2 else none) else if x = "sum" then some .sum else none
def tyOf (x : Str) : Option Ty :=
  if x = "tuple" then some .tTuple else if x = "str" then some .tStr else if x = "int" then some .tInt else if x = "bool" then some .tBool else if x = "list" then some .tList else none
def isB (c : CC) (x : Str) : Bool := okName x && isGl c.sc x && c.blts.contains x
/-- isinstance(a, T) -/
def cIsi (c : CC) (f : CE) : List Expr → Option Ex
  | [a, .Name n _] => if notStar a && isB c n then (match f a, tyOf n with
    | some x, some t => some (.isi x [t])
    | _, _ => none) else none
  | [a, .Tuple [.Name n _, .Name m _] _ _] => if notStar a && isB c n && isB c m then (match f a, tyOf n, tyOf m with
    | some x, some t, some u => some (.isi x [t, u])
    | _, _, _ => none) else none
  | _ => none
def cCallN (c : CC) (f : CE) (x : Str) (args : List Expr) : Option Ex :=
  if okName x && isGl c.sc x then (match c.fns.lookup x with
    | some (fid, ar) => (match cList f args with
      | some ies => if ies.len = ar then some (.call fid ies) else none
      | none => none)
    | none => if c.blts.contains x then (if x = "isinstance" then cIsi c f args else if args.isEmpty then none else match biOf x args.length, cList f args with
      | some b, some ies => some (.bi b ies)
      | _, _ => none) else match c.obj.mks.lookup x with
      | some (cl, ar) => (match cList f args with
        | some ies => if ies.len + 1 = ar ∧ c.nm ≠ "" ∧ args ≠ [] then some (.make cl ies) else none
        | none => none)
      | none => none)
  else none
def meOf (x : Str) : Option Me :=
  if x = "split" then some .split else if x = "join" then some .join else if x = "endswith" then some .endswith else if x = "startswith" then some .startswith
  else if x = "append" then some .append else if x = "extend" then some .extend
  else if x = "count" then some .lcount else if x = "index" then some .index else if x = "remove" then some .remove else none
def cMethB (f : CE) (o : Expr) (m : Str) (apos pos : Pos) (args : List Expr) : Option Ex :=
  if notCall o && (apos.endLine == pos.line) then (match args with
    | [e] => if notStar e then (match meOf m, f o, f e with
      | some me, some x, some y => some (.meth me x (.cons y .nil))
      | _, _, _ => none) else none
    | [e, g] => if notStar e && notStar g && decide (m = "get") then (match f o, f e, f g with
      | some x, some y, some z => some (.meth .get x (.cons y (.cons z .nil)))
      | _, _, _ => none) else none
    | [] => if m = "pop" then (f o).map fun x => .meth .pop x .nil else none
    | _ => none) else none
def cMeth (c : CC) (f : CE) (o : Expr) (m : Str) (apos pos : Pos) (args : List Expr) : Option Ex := match c.obj.mets.lookup m with
  | some (j, ar, cs) => if notCall o && (apos.endLine == pos.line) then (match f o, cList f args with
    | some io, some ies => if ies.len + 1 = ar ∧ args.length < 29 then some (.mcall cs j io ies) else none
    | _, _ => none) else none
  | none => cMethB f o m apos pos args
def cCall (c : CC) (f : CE) (g : Expr) (args : List Expr) (kws : List Keyword) (pos : Pos) : Option Ex := match g, kws with
  | .Name x _, [] => cCallN c f x args
  | .Attribute o m apos, [] => cMeth c f o m apos pos args
  | _, _ => none
/-- targets -/
def cNames (c : CC) (sc : Scope) : List Expr → Option (List (Str × Nat))
  | [] => some []
  | .Name x _ :: r => if isLoc sc x then (match ixOf x c.N, cNames c sc r with
    | some i, some is => some ((x, i) :: is)
    | _, _ => none) else none
  | _ :: _ => none
def cTg (c : CC) (sc : Scope) : Expr → Option (List (Str × Nat) × Tg)
  | .Name x _ => if isLoc sc x then (ixOf x c.N).map fun i => ([(x, i)], .one i) else none
  | .Tuple [.Name x _, .Tuple es _ _] _ _ => if isLoc sc x then (match ixOf x c.N, cNames c sc es with
    | some i, some ns => some ((x, i) :: ns, .pair i (ns.map (·.2)))
    | _, _ => none) else none
  | .Tuple es _ _ => (cNames c sc es).map fun ns => (ns, .many (ns.map (·.2)))
  | _ => none
def isTupE : Expr → Bool
  | .Tuple .. => true
  | _ => false
def cIter (c : CC) (f : CE) (tg iter : Expr) : Option It := match iter with
  | .Call (.Name x p) [a] [] pos => if decide (x = "range") && isB c x && notStar a then (f a).map .range1 else if decide (x = "enumerate") && isB c x && notStar a && isTupE tg then (f a).map .enum else (f (.Call (.Name x p) [a] [] pos)).map .of
  | .Call (.Name x p) [a, b] [] pos => if decide (x = "range") && isB c x && notStar a && notStar b then (match f a, f b with
      | some u, some v => some (.range2 u v)
      | _, _ => none)
    else if decide (x = "zip") && isB c x && notStar a && notStar b && isTupE tg then (match f a, f b with
      | some u, some v => some (.zip u v)
      | _, _ => none)
    else (f (.Call (.Name x p) [a, b] [] pos)).map .of
  | .Call (.Name x p) [a, b, d] [] pos => if decide (x = "range") && isB c x && notStar a && notStar b && notStar d then (match f a, f b, f d with
      | some u, some v, some w => some (.range3 u v w)
      | _, _, _ => none)
    else (f (.Call (.Name x p) [a, b, d] [] pos)).map .of
  | e => if notSet e then (f e).map .of else none
def cIfs (f : CE) : List Expr → Option Ex
  | [] => some (.dat (.bl true))
  | [e] => cT f e
  | _ => none
def cComp (c : CC) (F : CC → CE) (elt : Expr) (gs : List Comprehension) (scope : Scope) : Option Ex := match gs with
  | [⟨tg, iter, ifs, 0⟩] => (match cTg c scope tg, cIter c (F c) tg iter with
    | some (own, t), some it => if blkC c.N c.sc scope own then (match F { c with sc := relS scope c.sc, nm := "" } elt, cIfs (F { c with sc := relS scope c.sc, nm := "" }) ifs with
      | some ie, some ic => some (.comp ie t it ic)
      | _, _ => none) else none
    | _, _ => none)
  | _ => none
def lamPar : Arguments → Option Str
  | ⟨[], [⟨p, none, _⟩], none, [], [], none, []⟩ => some p
  | _ => none
/-- sorted(e, key=..) -/
def cSort (c : CC) (F : CC → CE) (g : Expr) (args : List Expr) (kw : Keyword) : Option Ex := match g, args, kw with
  | .Name x _, [e], ⟨some k, .Lambda ps body scope _, _⟩ =>
    if decide (x = "sorted") && decide (k = "key") && isB c x && notStar e && lamDefs.contains c.nm then (match lamPar ps with
      | some p => if lamPB c.sc scope p then (match F c e, ixOf p c.N, F { c with sc := scope, nm := "" } body with
        | some a, some i, some b => some (.sortl a i b)
        | _, _, _ => none) else none
      | none => none) else none
  | .Name x _, [e], ⟨some k, .Name f _, _⟩ =>
    if decide (x = "sorted") && decide (k = "key") && isB c x && notStar e && okName f && isGl c.sc f && decide (c.nm ≠ "") then (match F c e, c.fns.lookup f with
      | some a, some (fid, ar) => if ar = 1 then some (.sortf a fid) else none
      | _, _ => none) else none
  | _, _, _ => none
def cFld (c : CC) (f : CE) (o : Expr) (x : Str) : Option Ex := if notCall o then (match c.obj.flds.lookup x, f o with
  | some (n, cs), some io => some (.fld cs n io)
  | _, _ => none) else none
def cExpr : Nat → CC → CE
  | 0, _, _ => none
  | n + 1, c, .Name x _ => cName c x
  | n + 1, c, .Constant v _ _ => (cConst v).map .dat
  | n + 1, c, .UnaryOp op a _ => cUn (cExpr n c) op a
  | n + 1, c, .Tuple es _ _ => (cList (cExpr n c) es).map .tup
  | n + 1, c, .List es _ => (cList (cExpr n c) es).map .lst
  | n + 1, c, .Dict ks vs _ => if ks.isEmpty && vs.isEmpty then some .dnew else none
  | n + 1, c, .BinOp a op b _ => (match bopI op, cExpr n c a, cExpr n c b with
    | some o, some x, some y => some (.bin o x y)
    | _, _, _ => none)
  | n + 1, c, .BoolOp op es _ => cBool (cExpr n c) op es
  | n + 1, c, .IfExp t a b _ => (match cT (cExpr n c) t, cExpr n c a, cExpr n c b with
    | some x, some y, some z => some (.ife x y z)
    | _, _, _ => none)
  | n + 1, c, .Compare a ops bs _ => cCmp (cExpr n c) a ops bs
  | n + 1, c, .Subscript a i _ => cSub (cExpr n c) a i
  | n + 1, c, .Call g args kws pos => (match kws with
    | [kw] => cSort c (cExpr n) g args kw
    | _ => cCall c (cExpr n c) g args kws pos)
  | n + 1, c, .ListComp elt gs scope _ => cComp c (cExpr n) elt gs scope
  | n + 1, c, .Attribute o x _ => cFld c (cExpr n c) o x
  | _ + 1, _, _ => none
def isComp : Expr → Bool
  | .ListComp .. => true | .SetComp .. => true | .DictComp .. => true
  | _ => false
/-- [y = a comprehension]: whether its store is exchanged -/
def swB (sc : Scope) (y : Str) (py : Pos) : Expr → Option Bool
  | .ListComp _ _ s pos => some (decide (sc.names.lookup y = some .local) && (py.line == pos.line) && !(s.names.any fun (n, k) => n == y && (k == .local || k == .cell)))
  | e => if isComp e then none else some false
/-- a, b = x, y: stored from the right -/
def swapB (sc : Scope) (ts vs : List Expr) : Bool :=
  let line := (ts.head?.map (·.pos.line)).getD 0
  let names := ts.filterMap fun
    | .Name id pos => if sc.names.lookup id == some .local && pos.line == line then some id else none
    | _ => none
  (ts.length == 2 || ts.length == 3) && (vs.length == ts.length) && vs.all notStar && (names.length == ts.length) && (names.eraseDups.length == names.length) && !(vs.all (foldedForSure 8)) && !(vs.all (constantsAlone 8))
/-- .. and where they are not -/
def noSwapB (sc : Scope) (ts vs : List Expr) : Bool :=
  let line := (ts.head?.map (·.pos.line)).getD 0
  let names := ts.filterMap fun
    | .Name id pos => if sc.names.lookup id == some .local && pos.line == line then some id else none
    | _ => none
  vs.all (foldedForSure 8) || names.length != ts.length
def isL (sc : Scope) (x : Str) : Bool := decide (sc.names.lookup x = some .local)
def cPar (c : CC) (f : CE) (ts vs : List Expr) : Option Sm := match ts, vs with
  | [.Name x px, .Name y py], [a, b] => if swapB c.sc [.Name x px, .Name y py] [a, b] && isL c.sc x && isL c.sc y && (py.line == px.line) then (match ixOf x c.N, ixOf y c.N, cList f [a, b] with
    | some i, some j, some ies => if i = j then none else some (.par [i, j] ies)
    | _, _, _ => none) else none
  | [.Name x px, .Name y py, .Name z pz], [a, b, d] => if swapB c.sc [.Name x px, .Name y py, .Name z pz] [a, b, d] && isL c.sc x && isL c.sc y && isL c.sc z && (py.line == px.line) && (pz.line == px.line) then (match ixOf x c.N, ixOf y c.N, ixOf z c.N, cList f [a, b, d] with
    | some i, some j, some l, some ies => if i = j ∨ i = l ∨ j = l then none else some (.par [i, j, l] ies)
    | _, _, _, _ => none) else none
  | _, _ => none
/-- s.x, s.y, .. -/
def cAttrs (c : CC) (s : Str) (cs : List Nat) : List Expr → Option (List Nat)
  | [] => some []
  | .Attribute (.Name s' _) x _ :: r => if s' = s then (match c.obj.flds.lookup x, cAttrs c s cs r with
    | some (f, cs'), some fs => if cs' = cs then some (f :: fs) else none
    | _, _ => none) else none
  | _ :: _ => none
def cAtts (c : CC) (ts : List Expr) : Option (List Nat × List Nat × Nat) := match ts with
  | .Attribute (.Name s _) x _ :: _ => if okName s && isVis c.sc s then (match ixOf s c.N, c.obj.flds.lookup x with
    | some i, some (_, cs) => (cAttrs c s cs ts).map fun fs => (cs, fs, i)
    | _, _ => none) else none
  | _ => none
def cAsg (c : CC) (f : CE) (t e : Expr) : Option Sm := match t with
  | .Name x p => if isLoc c.sc x then (match ixOf x c.N, f e, swB c.sc x p e with
    | some i, some ie, some _ => some (.asg i ie)
    | _, _, _ => none) else none
  | .Tuple ts _ _ => (match e with
    | .Tuple vs j p => if noSwapB c.sc ts vs then (match cNames c c.sc ts with
      | some ns => (f (.Tuple vs j p)).map (.asgT (ns.map (·.2)))
      | none => none) else cPar c f ts vs
    | e => if isComp e then (match cNames c c.sc ts with
      | some ns => (f e).map (.asgU (ns.map (·.2)))
      | none => none) else (match cNames c c.sc ts with
      | some ns => (f e).map (.asgT (ns.map (·.2)))
      | none => (match cAtts c ts, f e with
        | some (cs, fs, i), some ie => some (.setFs cs fs i ie)
        | _, _ => none)))
  | .Attribute o x _ => if isComp e || !notCall o then none else (match c.obj.flds.lookup x, f o, f e with
    | some (n, cs), some io, some ie => some (.setF cs n io ie)
    | _, _, _ => none)
  | .Subscript a i _ => if isComp e then none else (match f a, f i, f e with
    | some x, some y, some z => some (.setIx x y z)
    | _, _, _ => none)
  | _ => none
def cStmts (f : Stmt → Option Sm) : List Stmt → Option Sms
  | [] => some .nil
  | s :: r => match f s, cStmts f r with
    | some a, some b => some (.cons a b)
    | _, _ => none
/-! within an except suite: xn names the exception (slot i) -/
def hIs (c : CC) (xn : Str) : List Expr → Option Ex
  | [.Name z _, .Name y _] => if decide (z = xn) && okName y && isGl c.sc y then (match c.cls.lookup y with
    | some m => if m < 1000 then some (.isx m) else none
    | none => if decide (y = "ValueError") && c.blts.contains y && !c.cls.isEmpty then some (.isx 0) else none) else none
  | _ => none
def hCallN (c : CC) (xn : Str) (x : Str) (args : List Expr) : Option Ex :=
  if okName x && isGl c.sc x && decide (xn ≠ "") then (match c.hfn.lookup x with
    | some fid => (match args with
      | [.Name z _] => if z = xn then some (.callx fid) else none
      | _ => none)
    | none => if decide (x = "isinstance") && c.blts.contains x then hIs c xn args else none) else none
def hCall (c : CC) (xn : Str) (f : CE) (g : Expr) (args : List Expr) (kws : List Keyword) (pos : Pos) : Option Ex := match g, kws with
  | .Name x _, [] => hCallN c xn x args
  | .Attribute o m apos, [] => cMethB f o m apos pos args
  | _, _ => none
def hExpr (c : CC) (xn : Str) : Nat → CE
  | 0, _ => none
  | n + 1, .Name x _ => if x = xn then none else cName c x
  | n + 1, .Constant v _ _ => (cConst v).map .dat
  | n + 1, .UnaryOp op a _ => cUn (hExpr c xn n) op a
  | n + 1, .Tuple es _ _ => (cList (hExpr c xn n) es).map .tup
  | n + 1, .List es _ => (cList (hExpr c xn n) es).map .lst
  | n + 1, .BinOp a op b _ => (match bopI op, hExpr c xn n a, hExpr c xn n b with
    | some o, some x, some y => some (.bin o x y)
    | _, _, _ => none)
  | n + 1, .BoolOp op es _ => cBool (hExpr c xn n) op es
  | n + 1, .IfExp t a b _ => (match cT (hExpr c xn n) t, hExpr c xn n a, hExpr c xn n b with
    | some x, some y, some z => some (.ife x y z)
    | _, _, _ => none)
  | n + 1, .Compare a ops bs _ => cCmp (hExpr c xn n) a ops bs
  | n + 1, .Subscript a i _ => cSub (hExpr c xn n) a i
  | n + 1, .Call g args kws pos => hCall c xn (hExpr c xn n) g args kws pos
  | _ + 1, _ => none
def hStmt (c : CC) (xn : Str) (i : Nat) : Nat → Stmt → Option Sm
  | 0, _ => none
  | n + 1, .Assign [.Name x _] e _ => if isLoc c.sc x && !isComp e then (match ixOf x c.N, hExpr c xn n e with
    | some j, some ie => if j = i then none else some (.asg j ie)
    | _, _ => none) else none
  | n + 1, .Expr e _ => if isComp e then none else (hExpr c xn n e).map .expr
  | n + 1, .Return (some e) _ => (hExpr c xn n e).map .ret
  | n + 1, .If t a b _ => (match cT (hExpr c xn n) t, cStmts (hStmt c xn i n) a, cStmts (hStmt c xn i n) b with
    | some x, some y, some z => some (.ife x y z)
    | _, _, _ => none)
  | n + 1, .Pass _ => some .pass
  | _ + 1, _ => none
def cHds (c : CC) (n : Nat) : List ExceptHandler → Option Hds
  | [] => some .nil
  | .ExceptHandler (some (.Name x _)) none (b :: bs) _ :: r => if okName x && isGl c.sc x then (match c.cls.lookup x, cStmts (hStmt c "" 1000000 n) (b :: bs), cHds c n r with
    | some m, some sh, some hs => some (.cons m sh hs)
    | _, _, _ => none) else none
  | _ :: _ => none
def cTryAs (c : CC) (n : Nat) (sb : Sms) (x nm : Str) (hb : List Stmt) : Option Sm :=
  if okName x && isGl c.sc x && isL c.sc nm && okName nm && decide (nm ≠ "") then (match c.cls.lookup x, ixOf nm c.N with
    | some m, some i => (cStmts (hStmt c nm i n) hb).map (.tryAs sb m i)
    | _, _ => none) else none
def cTry (c : CC) (n : Nat) (sb : Sms) (hds : List ExceptHandler) : Option Sm := match hds with
  | [.ExceptHandler (some (.Name x _)) (some nm) (b :: bs) _] => cTryAs c n sb x nm (b :: bs)
  | [] => none
  | hds => (cHds c n hds).map (.tryMany sb)
def cRaise (c : CC) : Option Expr → Option Expr → Option Sm
  | some (.Call (.Name x _) [.Constant (.str _) _ _] [] _), none => if okName x && isGl c.sc x then (match c.cls.lookup x with
    | some m => some (.raise m)
    | none => some .stuck) else some .stuck
  | _, _ => some .stuck
def cStmt : Nat → CC → Stmt → Option Sm
  | 0, _, _ => none
  | n + 1, c, .Assign [t] e _ => cAsg c (cExpr n c) t e
  | n + 1, c, .Expr e _ => if isComp e then none else (cExpr n c e).map .expr
  | n + 1, c, .Return (some e) _ => (cExpr n c e).map .ret
  | n + 1, c, .If t a b _ => (match cT (cExpr n c) t, cStmts (cStmt n c) a, cStmts (cStmt n c) b with
    | some x, some y, some z => some (.ife x y z)
    | _, _, _ => none)
  | n + 1, c, .For tg iter body [] pos => (match cTg c c.sc tg, cIter c (cExpr n c) tg iter, cStmts (cStmt n c) body with
    | some (_, t), some it, some sb => some (.loop t it sb (c.lines.contains pos.line))
    | _, _, _ => none)
  | n + 1, _, .Pass _ => some .pass
  | n + 1, c, .Raise a b _ => cRaise c a b
  | n + 1, c, .Try body hds [] [] _ => if decide (c.nm ≠ "") then (match cStmts (cStmt n c) body with
    | some sb => cTry c n sb hds
    | none => none) else none
  | _ + 1, _, _ => none
end Ev
set_option Elab.async false
set_option linter.all false
set_option maxRecDepth 100000
/-! Eng15: the translation is sound: expressions. -/
namespace Ev
open PySem L2

structure CtxOk (k : Nat) (F : FS) (cA : Nat → Addr) (c : CC) (X : Cx) (E : XW) : Prop where
  N : X.N = c.N
  sc : X.env.scope = c.sc
  nd : X.N.Nodup
  kind : c.sc.kind = .function
  calm : X.calm = true
  room : Room k X.A
  room2 : c.nm ≠ "" → Room (k + 3) X.A
  lam : lamDefs.contains c.nm = true → ∃ cd P, X.env.qual = c.nm ++ ".<locals>." ∧ X.env.code = .ref cd ∧ LamX.TabB X.base X.mg cd P ∧ (P, c.nm ++ ".<locals>." ++ "<lambda>") ∈ tabsOf X.K ∧ ∀ p ∈ tabsOf X.K, p.1 = P → p.2 = c.nm ++ ".<locals>." ++ "<lambda>"
  own : PassesOwn (model X.prog X.w) X.A X.env X.xe
  tk : Takes X (wOf cA E)
  pinT : ∀ σ, E.pin σ
  fns : ∀ x fid ar, c.fns.lookup x = some (fid, ar) → ∃ f fd ps, X.mg x = some (.ref f) ∧ PySem.W.keepIn X.K (.ref f) = true ∧ Binds X.K fd ps [] ∧ FnOk X.prog X.w X.K X.mg X.base (L2.CX X.prog X.w) k f fd ps (spF X.K cA F ar fid)
  dats : ∀ x d, c.dats.lookup x = some d → ∃ u v, X.mg x = some u ∧ RelV v u ∧ ∀ β H, RV X.K β H d v
  blts : ∀ x, c.blts.contains x = true → X.mg x = none
  cls : ExOk X.K X.mg cA c.cls
  hfn : ∀ x fid, c.hfn.lookup x = some fid → ∀ e, ∃ f fd ps, X.mg x = some (.ref f) ∧ PySem.W.keepIn X.K (.ref f) = true ∧ Binds X.K fd ps [] ∧ FnW X.prog X.w X.K X.mg X.base k f fd ps (cA e) (F (2000 + 100 * e + fid) [] [])
  flds : ∀ x f cs, c.obj.flds.lookup x = some (f, cs) → fldN f = x ∧ FldOk X.K cs x
  mets : ∀ x j ar cs, c.obj.mets.lookup x = some (j, ar, cs) → metN j = x ∧ MetOk X cA F k cs j ar
  mks : ∀ x cl ar, c.obj.mks.lookup x = some (cl, ar) → X.mg x = some (.ref (iA X.K cl)) ∧ ∃ f fd ps, Mk X.K (iA X.K cl) f ∧ Binds X.K fd ps [] ∧ FnOk X.prog X.w X.K X.mg X.base (L2.CX X.prog X.w) k f fd ps (spF X.K cA F ar (mid cl 0))
  fr : c.nm ≠ "" → X.stack = X.env :: X.outer ∧ X.env.frame = some X.env.locals

theorem ixOf_get {x : Str} : ∀ {N : List Str} {i : Nat}, ixOf x N = some i → N[i]? = some x
  | [], i, h => by cases h
  | y :: r, i, h => by
    rw [ixOf] at h
    split at h
    · rename_i e
      cases h
      rw [e]; rfl
    · obtain ⟨j, e, rfl⟩ := Option.map_eq_some_iff.mp h
      simpa using ixOf_get e
theorem okName_of {x : Str} (h : okName x = true) : (x == ("__debug__" : Str)) = false ∧ (x == ("__classdict__" : Str)) = false ∧ x ≠ "__name__" := by
  unfold okName at h
  rw [Bool.and_eq_true, Bool.and_eq_true] at h
  exact ⟨beq_eq_false_iff_ne.mpr (of_decide_eq_true h.1.1), beq_eq_false_iff_ne.mpr (of_decide_eq_true h.1.2), of_decide_eq_true h.2⟩
theorem isVis_of {sc : Scope} {x : Str} (h : isVis sc x = true) : Vis sc x := by
  unfold isVis at h
  split at h
  · rename_i e; exact .inl e
  · rename_i e; exact .inr (.inl e)
  · rename_i e; exact .inr (.inr e)
  · cases h
theorem isLoc_of {sc : Scope} {x : Str} (h : isLoc sc x = true) : sc.names.lookup x = some .local ∨ sc.names.lookup x = some .cell := by
  unfold isLoc at h
  split at h
  · rename_i e; exact .inl e
  · rename_i e; exact .inr e
  · cases h
theorem isGl_of {sc : Scope} {x : Str} (h : isGl sc x = true) : sc.names.lookup x = some .globalImplicit := by
  unfold isGl at h
  split at h
  · assumption
  · cases h
section
variable {k : Nat} {F : FS} {cA : Nat → Addr} {c : CC} {X : Cx} {E : XW} {pos : Pos}
theorem CtxOk.gl (o : CtxOk k F cA c X E) {x : Str} (h : isGl c.sc x = true) : Gl X x := by
  show X.env.scope.names.lookup x = _
  rw [o.sc]
  exact isGl_of h
theorem CtxOk.ru (o : CtxOk k F cA c X E) : RU X.A := o.room.units
theorem isB_of (o : CtxOk k F cA c X E) {x : Str} (h : isB c x = true) : Gl X x ∧ X.mg x = none ∧ (x == ("__debug__" : Str)) = false ∧ x ≠ "__name__" := by
  unfold isB at h
  rw [Bool.and_eq_true, Bool.and_eq_true] at h
  obtain ⟨h1, h2, h3⟩ := okName_of h.1.1
  exact ⟨o.gl h.1.2, o.blts x h.2, h1, h3⟩
theorem name_ok (o : CtxOk k F cA c X E) {x : Str} {ie : Ex} (h : cName c x = some ie) : PE X (.Name x pos) (tEv X.K F E ie) := by
  unfold cName at h
  split at h
  · rename_i hn
    obtain ⟨h1, h2, h3⟩ := okName_of hn
    split at h
    · rename_i hv
      obtain ⟨i, e, rfl⟩ := Option.map_eq_some_iff.mp h
      exact s_var (by rw [o.N]; exact ixOf_get e) (by rw [o.sc]; exact isVis_of hv) h1 h2
    · split at h
      · rename_i hg
        obtain ⟨d, e, rfl⟩ := Option.map_eq_some_iff.mp h
        obtain ⟨u, v, m, rv, hr⟩ := o.dats x d e
        exact s_dat (pe_glob (o.gl hg) m rv h1) hr
      · cases h
  · cases h
theorem const_ok {v : Const} {j : Nat} {d : D} (h : cConst v = some d) : PE X (.Constant v j pos) (tEv X.K F E (.dat d)) := by
  unfold cConst at h
  split at h
  · cases h; exact s_dat pe_int fun _ _ => by rw [RV]
  · cases h; exact s_dat pe_bl fun _ _ => by rw [RV]
  · cases h; exact s_dat pe_non fun _ _ => by rw [RV]
  · cases h; exact s_dat pe_str fun _ _ => by rw [RV]
  · cases h
/-- what is known of the operands -/
abbrev Ok1 (X : Cx) (F : FS) (E : XW) (f : CE) : Prop := ∀ e ie, f e = some ie → PE X e (tEv X.K F E ie) ∧ (noIf e = true → PT X e (tEvT X.K F E ie))
theorem cT_ok {f : CE} (o : Ok1 X F E f) {e : Expr} {ie : Ex} (h : cT f e = some ie) : PT X e (tEvT X.K F E ie) := by
  unfold cT at h
  split at h
  · rename_i hn; exact (o e ie h).2 hn
  · cases h
theorem cT_val {f : CE} {e : Expr} {ie : Ex} (h : cT f e = some ie) : f e = some ie := by
  unfold cT at h
  split at h
  · exact h
  · cases h
theorem list_ok {f : CE} (o : Ok1 X F E f) : ∀ {es : List Expr} {ies : Exs}, cList f es = some ies → PA X es (tEvs X.K F E ies) ∧ es.all notStar = true
  | [], ies, h => by cases h; exact ⟨s_nil, rfl⟩
  | e :: es, ies, h => by
    rw [cList] at h
    split at h
    · rename_i hs
      split at h
      · rename_i a b e1 e2
        cases h
        obtain ⟨h1, h2⟩ := list_ok o e2
        exact ⟨s_cons (o e a e1).1 h1 hs, by rw [List.all_cons, hs, h2]; rfl⟩
      · cases h
    · cases h
theorem un_ok {f : CE} (o : Ok1 X F E f) {op : UnaryOp} {a : Expr} {ie : Ex} (h : cUn f op a = some ie) : PE X (.UnaryOp op a pos) (tEv X.K F E ie) ∧ PT X (.UnaryOp op a pos) (tEvT X.K F E ie) := by
  unfold cUn at h
  split at h
  · obtain ⟨ia, e, rfl⟩ := Option.map_eq_some_iff.mp h
    exact ⟨s_not (o a ia (cT_val e)).1, t_not (cT_ok o e)⟩
  · split at h
    · rename_i i j p
      cases h
      have pe : PE X (.UnaryOp .USub (.Constant (.int i) j p) pos) (tC (.int (-i))) := (pe_un un_neg pe_int).monoE fun σ H Q q => ⟨i, rfl, q⟩
      have s : PE X (.UnaryOp .USub (.Constant (.int i) j p) pos) (tEv X.K F E (.dat (.int (-i)))) := s_dat pe fun _ _ => by rw [RV]
      refine ⟨s, ?_⟩
      refine (pt_truth s fun wh => rfl).monoE fun σ H Q h => ?_
      obtain ⟨ρ, S, β, sim, r, p⟩ := h
      refine seqE sim r p fun d1 S1 β1 H1 v1 e1 sim1 r1 h1 p1 => ?_
      cases ec : truth S1 d1 with
      | none => rw [ec] at p1; exact p1.elim
      | some t =>
        rw [ec] at p1
        exact ⟨t, truth_run r1 h1 ec, p1 β1 H1 .refl r1⟩
    · cases h
  · cases h
theorem bopI_of {op : Operator} {b : Bop} (h : bopI op = some b) : op = bopOf b := by
  cases op <;> cases h <;> rfl
theorem copI_of {op : CmpOp} {b : Cop} (h : copI op = some b) : op = copOf b := by
  cases op <;> cases h <;> rfl
theorem bool_ok {f : CE} (o : Ok1 X F E f) {op : BoolOp} : ∀ {es : List Expr} {ie : Ex}, cBool f op es = some ie → PE X (.BoolOp op es pos) (tEv X.K F E ie) ∧ PW X (.BoolOp op es pos) (tEvT X.K F E ie)
  | [], ie, h => by cases h
  | [a], ie, h => by
    rw [cBool] at h
    exact ⟨pe_one (o a ie (cT_val h)).1, t_and1 (cT_ok o h)⟩
  | a :: b :: r, ie, h => by
    rw [cBool] at h
    split at h
    · rename_i x y e1 e2
      obtain ⟨h1, h2⟩ := bool_ok o e2
      cases op with
      | And => cases h; exact ⟨s_and (o a x (cT_val e1)).1 h1, t_and (cT_ok o e1) h2⟩
      | Or => cases h; exact ⟨s_or (o a x (cT_val e1)).1 h1, t_or (cT_ok o e1) h2⟩
    · cases h
theorem marks_of {op : CmpOp} {b : Expr} (h : notSet b = true) : behindInMarks op b = false := by
  cases b <;> first | rfl | (exact nomatch h)
theorem cmp_ok (hr : RU X.A) {f : CE} (o : Ok1 X F E f) {a : Expr} {ops : List CmpOp} {bs : List Expr} {ie : Ex} (h : cCmp f a ops bs = some ie) : PE X (.Compare a ops bs pos) (tEv X.K F E ie) ∧ PT X (.Compare a ops bs pos) (tEvT X.K F E ie) := by
  unfold cCmp at h
  split at h
  · split at h
    · rename_i p x y e1 e2 e3
      split at h
      · rename_i hs
        cases h
        rw [copI_of e1]
        exact ⟨s_cmp hr p (o _ _ e2).1 (o _ _ e3).1 (marks_of hs), t_cmp hr p (o _ _ e2).1 (o _ _ e3).1 (marks_of hs)⟩
      · cases h
    · cases h
  · split at h
    · rename_i p q x y z e1 e2 e3 e4 e5
      split at h
      · rename_i hs
        cases h
        rw [copI_of e1, copI_of e2]
        exact ⟨s_chain hr p q (o _ _ e3).1 (o _ _ e4).1 (o _ _ e5).1 (marks_of hs), t_chain hr p q (o _ _ e3).1 (o _ _ e4).1 (o _ _ e5).1 (marks_of hs)⟩
      · cases h
    · cases h
  · cases h
theorem part_ok {f : CE} (o : Ok1 X F E f) {e : Option Expr} {ie : Ex} (h : cPart f e = some ie) : PO X e (tEvO X.K F E ie) := by
  unfold cPart at h
  split at h
  · cases h; exact o_none
  · exact o_some (o _ _ h).1
theorem sub_ok (hr : RU X.A) {f : CE} (o : Ok1 X F E f) {a i : Expr} {ie : Ex} (h : cSub f a i = some ie) : PE X (.Subscript a i pos) (tEv X.K F E ie) := by
  unfold cSub at h
  split at h
  · split at h
    · rename_i x l h' e1 e2 e3
      cases h
      exact s_slc (o _ _ e1).1 (part_ok o e2) (part_ok o e3)
    · cases h
  · obtain ⟨ia, e1, rfl⟩ := Option.map_eq_some_iff.mp h
    exact s_rev (o _ _ e1).1
  · cases h
  · rename_i hn1 hn1' hn2
    split at h
    · rename_i x y e1 e2
      cases h
      refine s_idx hr (o _ _ e1).1 (o _ _ e2).1 ?_
      cases i with
      | Slice lo hi st p =>
        cases st with
        | none => exact absurd rfl (hn1 lo hi p)
        | some s => exact absurd rfl (hn2 lo hi s p)
      | _ => rfl
    · cases h
theorem bi_ok (o : CtxOk k F cA c X E) {x : Str} {n : Nat} {b : Bi} (hb : biOf x n = some b) {e : Expr} {es : List Expr} {ies : Exs} (hg : Gl X x) (hm : X.mg x = none) (hd : (x == ("__debug__" : Str)) = false) (hn : x ≠ "__name__") (ha : PA X (e :: es) (tEvs X.K F E ies))
    (hst : (e :: es).all notStar = true) {p : Pos} : PE X (.Call (.Name x p) (e :: es) [] pos) (tEv X.K F E (.bi b ies)) := by
  unfold biOf at hb
  split at hb
  · rename_i hx; subst hx; cases hb; exact s_biB cr_len hg hm (by decide +kernel) ha hn hd hst
  split at hb
  · rename_i hx; subst hx; cases hb; exact s_biT cr_tuple hg hm (by decide +kernel) ha hn hd hst
  split at hb
  · rename_i hx; subst hx; cases hb; exact s_biT cr_list hg hm (by decide +kernel) ha hn hd hst
  split at hb
  · rename_i hx; subst hx; cases hb; exact s_biB (cr_sortedE o.ru o.calm) hg hm (by decide +kernel) ha hn hd hst
  split at hb
  · rename_i hx; subst hx; cases hb; exact s_biB (cr_allE o.calm) hg hm (by decide +kernel) ha hn hd hst
  split at hb
  · rename_i hx
    split at hb
    · subst hx; cases hb; exact s_biB (cr_min2 o.calm) hg hm (by decide +kernel) ha hn hd hst
    · cases hb
  split at hb
  · rename_i hx
    split at hb
    · subst hx; cases hb; exact s_biB (cr_max2 o.calm) hg hm (by decide +kernel) ha hn hd hst
    · cases hb
  split at hb
  · rename_i hx; subst hx; cases hb; exact s_biB (cr_sumE o.calm) hg hm (by decide +kernel) ha hn hd hst
  · cases hb
theorem tyOf_of {x : Str} {t : Ty} (h : tyOf x = some t) : bootBuiltins x = some (.type (tyN t)) := by
  unfold tyOf at h
  split at h
  · rename_i hx; subst hx; cases h; decide +kernel
  split at h
  · rename_i hx; subst hx; cases h; decide +kernel
  split at h
  · rename_i hx; subst hx; cases h; decide +kernel
  split at h
  · rename_i hx; subst hx; cases h; decide +kernel
  split at h
  · rename_i hx; subst hx; cases h; decide +kernel
  · cases h
theorem isi_ok (o : CtxOk k F cA c X E) {f : CE} (of : Ok1 X F E f) (hg : Gl X "isinstance") (hm : X.mg "isinstance" = none) {args : List Expr} {ie : Ex} {p : Pos} (h : cIsi c f args = some ie) : PE X (.Call (.Name "isinstance" p) args [] pos) (tEv X.K F E ie) := by
  unfold cIsi at h
  split at h
  · split at h
    · rename_i hc
      rw [Bool.and_eq_true] at hc
      obtain ⟨g1, g2, g3, g4⟩ := isB_of o hc.2
      split at h
      · rename_i x t e1 e2
        cases h
        exact s_isi1 (of _ _ e1).1 hc.1 hg hm g1 g2 (tyOf_of e2) g4 g3
      · cases h
    · cases h
  · split at h
    · rename_i hc
      rw [Bool.and_eq_true, Bool.and_eq_true] at hc
      obtain ⟨g1, g2, g3, g4⟩ := isB_of o hc.1.2
      obtain ⟨k1, k2, k3, k4⟩ := isB_of o hc.2
      split at h
      · rename_i x t u e1 e2 e3
        cases h
        exact s_isi2 (of _ _ e1).1 hc.1.1 hg hm g1 g2 (tyOf_of e2) g4 g3 k1 k2 (tyOf_of e3) k4 k3
      · cases h
    · cases h
  · cases h
theorem callN_ok (o : CtxOk k F cA c X E) {f : CE} (of : Ok1 X F E f) {x : Str} {args : List Expr} {ie : Ex} {p : Pos} (h : cCallN c f x args = some ie) : PE X (.Call (.Name x p) args [] pos) (tEv X.K F E ie) := by
  unfold cCallN at h
  split at h
  · rename_i hc
    rw [Bool.and_eq_true] at hc
    obtain ⟨h1, h2, h3⟩ := okName_of hc.1
    have hg := o.gl hc.2
    split at h
    · rename_i fid ar el
      split at h
      · rename_i ies e1
        split at h
        · rename_i hl
          cases h
          obtain ⟨fa, fd, ps, m, kp, hb, G⟩ := o.fns x fid ar el
          obtain ⟨pa, hst⟩ := list_ok of e1
          cases args with
          | nil =>
            cases e1
            subst hl
            exact s_call0 G o.room hg m kp hb o.tk h1
          | cons e es => exact s_call G o.room hg m kp hb o.tk pa h1 hst hl
        · cases h
      · cases h
    · split at h
      · rename_i hb
        have hm := o.blts x hb
        split at h
        · rename_i hx
          subst hx
          exact isi_ok o of hg hm h
        · split at h
          · cases h
          · rename_i hne
            split at h
            · rename_i b ies e1 e2
              cases h
              obtain ⟨pa, hst⟩ := list_ok of e2
              cases args with
              | nil => exact absurd rfl hne
              | cons e es => exact bi_ok o e1 hg hm h1 h3 pa hst
            · cases h
      · split at h
        · rename_i cl ar em
          split at h
          · rename_i ies e2
            split at h
            · rename_i hl
              cases h
              obtain ⟨pa, hst⟩ := list_ok of e2
              obtain ⟨mg, g, fd, ps, M, hb, G⟩ := o.mks x cl ar em
              cases args with
              | nil => exact absurd rfl hl.2.2
              | cons e es => exact s_make mg M G hb ((o.room2 hl.2.1).mono (by omega)) hg h1 pa hst hl.1
            · cases h
          · cases h
        · cases h
  · cases h
theorem methB_ok (hr : RU X.A) {f : CE} (of : Ok1 X F E f) {ob : Expr} {m : Str} {apos : Pos} {args : List Expr} {ie : Ex} (h : cMethB f ob m apos pos args = some ie) : PE X (.Call (.Attribute ob m apos) args [] pos) (tEv X.K F E ie) := by
  unfold cMethB at h
  split at h
  · rename_i hc
    rw [Bool.and_eq_true] at hc
    split at h
    · split at h
      · rename_i hs
        split at h
        · rename_i me x y e1 e2 e3
          cases h
          have ho := (of _ _ e2).1
          have he := (of _ _ e3).1
          unfold meOf at e1
          split at e1
          · rename_i hx; subst hx; cases e1
            exact s_m1 PySem.F.plainAttrs_str PySem.F.slot_str_split PySem.F.type_str_split mt_splitE (fun _ => rfl) (ty_str fun _ _ => rfl) ho he hc.1 hc.2 hs
          split at e1
          · rename_i hx; subst hx; cases e1
            exact s_m1 PySem.F.plainAttrs_str PySem.F.slot_str_join PySem.F.type_str_join mt_joinE (fun _ => rfl) (ty_str fun _ _ => rfl) ho he hc.1 hc.2 hs
          split at e1
          · rename_i hx; subst hx; cases e1
            exact s_m1 PySem.F.plainAttrs_str PySem.F.slot_str_endswith PySem.F.type_str_endswith mt_endsE (fun _ => rfl) (ty_str fun _ _ => rfl) ho he hc.1 hc.2 hs
          split at e1
          · rename_i hx; subst hx; cases e1
            exact s_m1 PySem.F.plainAttrs_str PySem.F.slot_str_startswith PySem.F.type_str_startswith mt_startsE (fun _ => rfl) (ty_str fun _ _ => rfl) ho he hc.1 hc.2 hs
          split at e1
          · rename_i hx; subst hx; cases e1
            exact s_m1 PySem.F.plainAttrs_list PySem.F.slot_list_append PySem.F.type_list_append mt_appendE (fun _ => rfl) (ty_list fun _ _ => rfl) ho he hc.1 hc.2 hs
          split at e1
          · rename_i hx; subst hx; cases e1
            exact s_m1 PySem.F.plainAttrs_list PySem.F.slot_list_extend PySem.F.type_list_extend mt_extendE (fun _ => rfl) (ty_list fun _ _ => rfl) ho he hc.1 hc.2 hs
          split at e1
          · rename_i hx; subst hx; cases e1
            exact s_m1 PySem.F.plainAttrs_list PySem.F.slot_list_count PySem.F.type_list_count (mt_lcntE hr) (fun _ => rfl) (ty_list fun _ _ => rfl) ho he hc.1 hc.2 hs
          split at e1
          · rename_i hx; subst hx; cases e1
            exact s_m1 PySem.F.plainAttrs_list PySem.F.slot_list_index PySem.F.type_list_index (mt_lplE hr) (fun _ => rfl) (ty_list fun _ _ => rfl) ho he hc.1 hc.2 hs
          split at e1
          · rename_i hx; subst hx; cases e1
            exact s_m1 PySem.F.plainAttrs_list PySem.F.slot_list_remove PySem.F.type_list_remove (mt_remE hr) (fun _ => rfl) (ty_list fun _ _ => rfl) ho he hc.1 hc.2 hs
          · cases e1
        · cases h
      · cases h
    · split at h
      · rename_i hs
        rw [Bool.and_eq_true, Bool.and_eq_true] at hs
        have hx := of_decide_eq_true hs.2
        subst hx
        split at h
        · rename_i x y z e1 e2 e3
          cases h
          exact s_m2 PySem.F.plainAttrs_dict PySem.F.slot_dict_get PySem.F.type_dict_get (mt_getE hr) (fun _ => rfl) (ty_dict fun _ _ => rfl) (of _ _ e1).1 (of _ _ e2).1 (of _ _ e3).1 hc.1 hc.2 hs.1.1 hs.1.2
        · cases h
      · cases h
    · split at h
      · rename_i hm
        subst hm
        obtain ⟨x, e1, rfl⟩ := Option.map_eq_some_iff.mp h
        exact s_pop (ty_list fun _ _ => rfl) (of _ _ e1).1 hc.1 hc.2
      · cases h
    · cases h
  · cases h
theorem cnil {f : CE} {ies : Exs} (h : cList f [] = some ies) : ies = .nil := by cases h; rfl
theorem meth_ok (o : CtxOk k F cA c X E) {f : CE} (of : Ok1 X F E f) {ob : Expr} {m : Str} {apos : Pos} {args : List Expr} {ie : Ex} (h : cMeth c f ob m apos pos args = some ie) : PE X (.Call (.Attribute ob m apos) args [] pos) (tEv X.K F E ie) := by
  unfold cMeth at h
  split at h
  · rename_i j ar cs em
    split at h
    · rename_i hc
      rw [Bool.and_eq_true] at hc
      split at h
      · rename_i io ies e1 e2
        split at h
        · rename_i hl
          cases h
          obtain ⟨rfl, mo⟩ := o.mets m j ar cs em
          obtain ⟨pa, hst⟩ := list_ok of e2
          exact s_mcall mo o.room o.tk (of _ _ e1).1 pa hl.1 (fun z => by subst z; exact cnil e2) hc.1 hst hl.2 hc.2
        · cases h
      · cases h
    · cases h
  · exact methB_ok o.ru of h
theorem cfld_ok (o : CtxOk k F cA c X E) {f : CE} (of : Ok1 X F E f) {ob : Expr} {x : Str} {ie : Ex} (h : cFld c f ob x = some ie) : PE X (.Attribute ob x pos) (tEv X.K F E ie) := by
  unfold cFld at h
  split at h
  · rename_i hn
    split at h
    · rename_i n cs io em e1
      cases h
      obtain ⟨rfl, fo⟩ := o.flds x n cs em
      exact s_fld fo (of _ _ e1).1 hn
    · cases h
  · cases h
theorem call_ok (o : CtxOk k F cA c X E) {f : CE} (of : Ok1 X F E f) {g : Expr} {args : List Expr} {kws : List Keyword} {ie : Ex} (h : cCall c f g args kws pos = some ie) : PE X (.Call g args kws pos) (tEv X.K F E ie) := by
  unfold cCall at h
  split at h
  · exact callN_ok o of h
  · exact meth_ok o of h
  · cases h
end
end Ev
set_option Elab.async false
set_option linter.all false
set_option maxRecDepth 100000
/-! Eng16: the translation is sound: targets, walks, comprehensions; expressions in all. -/
namespace Ev
open PySem L2

section
variable {k : Nat} {F : FS} {cA : Nat → Addr} {c : CC} {X : Cx} {E : XW} {pos : Pos}
/-- names that may be stored -/
abbrev Stores (X : Cx) (sc : Scope) : Prop := ∀ x, isLoc sc x = true → Loc X.env.scope x ∧ (X.fn x = true ∨ X.env.scope.names.lookup x = some .local)
theorem names_ok {sc : Scope} (hN : X.N = c.N) (nd : X.N.Nodup) (hl : Stores X sc) : ∀ {es : List Expr} {ns : List (Str × Nat)}, cNames c sc es = some ns →
    PGs X es (gNames (ns.map (·.2))) ∧ (assignEach es X.env).length = ns.length ∧ (assignEach es X.env).findIdx? (·.1) = none
  | [], ns, h => by cases h; exact ⟨pgs_nil, rfl, rfl⟩
  | e :: es, ns, h => by
    cases e with
    | Name x p =>
      rw [cNames] at h
      split at h
      · rename_i hx
        split at h
        · rename_i i is e1 e2
          cases h
          obtain ⟨h1, h2, h3⟩ := names_ok hN nd hl e2
          obtain ⟨l1, l2⟩ := hl x hx
          refine ⟨pgs_cons (pg_name (i := i) nd (by rw [hN]; exact ixOf_get e1) l1 l2) h1 rfl, ?_, ?_⟩
          · show (assignEach es X.env).length + 1 = _
            rw [h2]; rfl
          · show ((false, assign (.Name x p) X.env) :: assignEach es X.env).findIdx? (·.1) = none
            rw [List.findIdx?_cons, h3]
            rfl
        · cases h
      · cases h
    | _ => exact nomatch h
theorem tg_ok {sc : Scope} (hN : X.N = c.N) (nd : X.N.Nodup) (hc : X.calm = true) (hl : Stores X sc) {e : Expr} {own : List (Str × Nat)} {t : Tg} (h : cTg c sc e = some (own, t)) : PG X e (gOf X.K t) ∧ own.map (·.2) = t.ixs := by
  unfold cTg at h
  split at h
  · split at h
    · rename_i x p hx
      obtain ⟨i, e1, e2⟩ := Option.map_eq_some_iff.mp h
      cases e2
      obtain ⟨l1, l2⟩ := hl x hx
      exact ⟨pg_name (i := i) nd (by rw [hN]; exact ixOf_get e1) l1 l2, rfl⟩
    · cases h
  · split at h
    · rename_i x px es j p j2 p2 hx
      split at h
      · rename_i i ns e1 e2
        cases h
        obtain ⟨l1, l2⟩ := hl x hx
        obtain ⟨h1, h2, h3⟩ := names_ok hN nd hl e2
        exact ⟨pg_tup hc (pgs_cons (pg_name (i := i) nd (by rw [hN]; exact ixOf_get e1) l1 l2) (pgs_cons (pg_tup hc h1 (by rw [h2, List.length_map]) h3) pgs_nil rfl) rfl) rfl rfl, rfl⟩
      · cases h
    · cases h
  · obtain ⟨ns, e1, e2⟩ := Option.map_eq_some_iff.mp h
    cases e2
    obtain ⟨h1, h2, h3⟩ := names_ok hN nd hl e1
    exact ⟨pg_tup hc h1 (by rw [h2, List.length_map]) h3, rfl⟩
  · cases h
theorem tg_own {sc : Scope} {e : Expr} {own : List (Str × Nat)} {t : Tg} (h : cTg c sc e = some (own, t)) : own.map (·.2) = t.ixs := by
  unfold cTg at h
  split at h
  · split at h
    · obtain ⟨i, e1, e2⟩ := Option.map_eq_some_iff.mp h
      cases e2
      rfl
    · cases h
  · split at h
    · split at h
      · cases h; rfl
      · cases h
    · cases h
  · obtain ⟨ns, e1, e2⟩ := Option.map_eq_some_iff.mp h
    cases e2
    rfl
  · cases h
theorem folded_of {e : Expr} {env : PySem.Env} (h : notSet e = true) (x : Value) : foldedSetIterable e env x = pure x := by
  cases e <;> first | rfl | (exact nomatch h)
theorem iter_ok (o : CtxOk k F cA c X E) {f : CE} (of : Ok1 X F E f) {tg iter : Expr} {it : It} (h : cIter c f tg iter = some it) : PI X tg iter (tEvI X.K F E it) ∧ ∀ x, foldedSetIterable iter X.env x = pure x := by
  unfold cIter at h
  split at h
  · refine ⟨?_, fun x => rfl⟩
    split at h
    · rename_i hc
      rw [Bool.and_eq_true, Bool.and_eq_true] at hc
      obtain ⟨ia, e1, rfl⟩ := Option.map_eq_some_iff.mp h
      have hx := of_decide_eq_true hc.1.1
      subst hx
      obtain ⟨g1, g2, _, _⟩ := isB_of o hc.1.2
      exact i_range1 g1 g2 (of _ _ e1).1 hc.2
    · split at h
      · rename_i hc
        rw [Bool.and_eq_true, Bool.and_eq_true, Bool.and_eq_true] at hc
        obtain ⟨ia, e1, rfl⟩ := Option.map_eq_some_iff.mp h
        have hx := of_decide_eq_true hc.1.1.1
        subst hx
        obtain ⟨g1, g2, _, _⟩ := isB_of o hc.1.1.2
        cases tg with
        | Tuple elts kk tpos => exact i_enum g1 g2 (of _ _ e1).1 hc.1.2
        | _ => exact nomatch hc.2
      obtain ⟨ia, e1, rfl⟩ := Option.map_eq_some_iff.mp h
      exact i_of (of _ _ e1).1
  · refine ⟨?_, fun x => rfl⟩
    split at h
    · rename_i hc
      rw [Bool.and_eq_true, Bool.and_eq_true, Bool.and_eq_true] at hc
      split at h
      · rename_i u v e1 e2
        cases h
        have hx := of_decide_eq_true hc.1.1.1
        subst hx
        obtain ⟨g1, g2, _, _⟩ := isB_of o hc.1.1.2
        exact i_range2 g1 g2 (of _ _ e1).1 (of _ _ e2).1 hc.1.2 hc.2
      · cases h
    · split at h
      · rename_i hc
        rw [Bool.and_eq_true, Bool.and_eq_true, Bool.and_eq_true, Bool.and_eq_true] at hc
        split at h
        · rename_i u v e1 e2
          cases h
          have hx := of_decide_eq_true hc.1.1.1.1
          subst hx
          obtain ⟨g1, g2, _, _⟩ := isB_of o hc.1.1.1.2
          cases tg with
          | Tuple elts kk tpos => exact i_zip g1 g2 (of _ _ e1).1 (of _ _ e2).1 hc.1.1.2 hc.1.2
          | _ => exact nomatch hc.2
        · cases h
      · obtain ⟨ia, e1, rfl⟩ := Option.map_eq_some_iff.mp h
        exact i_of (of _ _ e1).1
  · refine ⟨?_, fun x => rfl⟩
    split at h
    · rename_i hc
      rw [Bool.and_eq_true, Bool.and_eq_true, Bool.and_eq_true, Bool.and_eq_true] at hc
      split at h
      · rename_i u v w e1 e2 e3
        cases h
        have hx := of_decide_eq_true hc.1.1.1.1
        subst hx
        obtain ⟨g1, g2, _, _⟩ := isB_of o hc.1.1.1.2
        exact i_range3 g1 g2 (of _ _ e1).1 (of _ _ e2).1 (of _ _ e3).1 hc.1.1.2 hc.1.2 hc.2
      · cases h
    · obtain ⟨ia, e1, rfl⟩ := Option.map_eq_some_iff.mp h
      exact i_of (of _ _ e1).1
  · split at h
    · rename_i hs
      obtain ⟨ia, e1, rfl⟩ := Option.map_eq_some_iff.mp h
      exact ⟨i_of (of _ _ e1).1, folded_of hs⟩
    · cases h
theorem ifs_ok {f : CE} (of : Ok1 X F E f) {ifs : List Expr} {ic : Ex} (h : cIfs f ifs = some ic) : PTs X ifs (tEvT X.K F E ic) := by
  unfold cIfs at h
  split at h
  · cases h
    refine ⟨fun pins s σ H Q I q => pts_nil.run pins s σ H Q I ?_⟩
    obtain ⟨ρ, S, β, sim, r, p⟩ := q
    rw [ev] at p
    exact p β H .refl r
  · exact pts_one (cT_ok of h)
  · cases h
theorem relabel_relS (scope : Scope) (env : PySem.Env) : relabel scope env = relS scope env.scope := rfl
theorem lam_empty : lamDefs.contains ("" : Str) = false := by decide +kernel
/-- a comprehension's block is a context as well -/
theorem CtxOk.blk (o : CtxOk k F cA c X E) {scope : Scope} (hk : scope.kind = .function) (s : Shared) (H : Hp) (C : Addr) (cl : List (Str × Addr)) (fp : List Addr) :
    CtxOk k F cA { c with sc := relS scope c.sc, nm := "" } (X.blk s H scope (compEnvC scope cl C X.env) fp) noX where
  N := o.N
  sc := by
    show relabel scope X.env = relS scope c.sc
    rw [relabel_relS, o.sc]
  nd := o.nd
  kind := hk
  calm := o.calm
  room := o.room
  room2 := fun h => absurd rfl h
  lam := fun h => absurd (show lamDefs.contains ("" : Str) = true from h) (by rw [lam_empty]; exact fun z => nomatch z)
  own := PassesOwn.never
  tk := takes0.imp fun _ _ _ _ ⟨_, _, _, h⟩ => h
  pinT := fun _ => trivial
  fns := o.fns
  dats := o.dats
  blts := o.blts
  cls := o.cls
  hfn := o.hfn
  flds := o.flds
  mets := o.mets
  mks := o.mks
  fr := fun h => absurd rfl h
theorem blk_stores {scope : Scope} (s : Shared) (H : Hp) (C : Addr) (cl : List (Str × Addr)) (fp : List Addr) : Stores (X.blk s H scope (compEnvC scope cl C X.env) fp) scope := by
  intro x hx
  rcases isLoc_of hx with h | h
  · have h' : (relS scope X.env.scope).names.lookup x = some .local := lookup_relS_keep (by decide) h
    exact ⟨.inl h', .inr h'⟩
  · have h' : (relS scope X.env.scope).names.lookup x = some .cell := lookup_relS_keep (by decide) h
    refine ⟨.inr h', .inl ?_⟩
    show (scope.names.lookup x == some .cell) = true
    rw [h]; rfl
theorem comp_ok {n : Nat} (o : CtxOk k F cA c X E) (ih : ∀ c X E, CtxOk k F cA c X E → Ok1 X F E (cExpr n c)) {elt : Expr} {gs : List Comprehension} {scope : Scope} {ie : Ex} (h : cComp c (cExpr n) elt gs scope = some ie) :
    PE X (.ListComp elt gs scope pos) (tEv X.K F E ie) ∧ ∀ (i : Nat) (y : Str) (py spos : Pos), X.N[i]? = some y → X.env.scope.names.lookup y = some .local → swapsWith (.ListComp elt gs scope pos) (some (.Name y py)) spos.line X.env = pure true →
      PS X (.Assign [.Name y py] (.ListComp elt gs scope pos) spos) (tEx X.K F E (.asg i ie)) := by
  unfold cComp at h
  split at h
  · split at h
    · rename_i own t it e1 e2
      split at h
      · rename_i hb
        split at h
        · rename_i ie' ic e3 e4
          cases h
          have ok : BlkOk X.N X.env.scope scope own := by
            rw [o.N, o.sc]
            exact blkOk_by hb
          obtain ⟨hi, hs⟩ := iter_ok o (ih c X E o) e2
          have ob := fun s H C cl fp => o.blk ok.kind s H C cl fp
          have hg := fun (s : Shared) (H : Hp) (C : Addr) (cl : List (Str × Addr)) (fp : List Addr) => tg_ok (c := c) (X := X.blk s H scope (compEnvC scope cl C X.env) fp) o.N o.nd o.calm (blk_stores s H C cl fp) e1
          have hown : own.map (·.2) = t.ixs := tg_own e1
          have ht := fun (s : Shared) (H : Hp) (C : Addr) (cl : List (Str × Addr)) (fp : List Addr) => ifs_ok (ih _ _ _ (ob s H C cl fp)) e4
          have he := fun (s : Shared) (H : Hp) (C : Addr) (cl : List (Str × Addr)) (fp : List Addr) => (ih _ _ _ (ob s H C cl fp) _ _ e3).1
          refine ⟨s_comp o.calm o.nd hi ok (fun s H C cl fp => (hg s H C cl fp).1) ht he hs hown, fun i y py spos hy hyl hsw => ?_⟩
          exact (ps_setLc o.calm o.nd hy hyl hsw hi ok (fun s H C cl fp => (hg s H C cl fp).1) ht he hs).monoE fun N σ H h => asg_read (comp_read hown) (fun _ _ _ => o.pinT _) h
        · cases h
      · cases h
    · cases h
  · cases h
end
/-- a lambda's body is a context as well -/
theorem CtxOk.lamC {k : Nat} {F : FS} {cA : Nat → Addr} {c : CC} {X : Cx} {E : XW} (o : CtxOk k F cA c X E) {scope : Scope} (hk : scope.kind = .function) {A : Around} (s : Shared) (H : Hp) (f c' : Addr) (hr : Room k (A.deeper (LamX.lamEnv X scope s.heap.objs.size f c'))) :
    CtxOk k F cA { c with sc := scope, nm := "" } (LamX.lamCx X A X.stack s H (fun _ _ _ => False) scope f c') noX where
  N := o.N
  sc := rfl
  nd := o.nd
  kind := hk
  calm := rfl
  room := hr
  room2 := fun h => absurd rfl h
  lam := fun h => absurd (show lamDefs.contains ("" : Str) = true from h) (by rw [lam_empty]; exact fun z => nomatch z)
  own := passes_of rfl
  tk := takes0.imp fun _ _ _ _ ⟨_, _, _, h⟩ => h
  pinT := fun _ => trivial
  fns := o.fns
  dats := o.dats
  blts := o.blts
  cls := o.cls
  hfn := o.hfn
  flds := o.flds
  mets := o.mets
  mks := o.mks
  fr := fun h => absurd rfl h
theorem lamPar_of {ps : Arguments} {p : Str} (h : lamPar ps = some p) : ∃ pos, ps = ⟨[], [⟨p, none, pos⟩], none, [], [], none, []⟩ := by
  unfold lamPar at h
  split at h
  · cases h; exact ⟨_, rfl⟩
  · cases h
theorem sort_ok {k n : Nat} {F : FS} {cA : Nat → Addr} {c : CC} {X : Cx} {E : XW} {pos : Pos} (o : CtxOk k F cA c X E) (ih : ∀ c X E, CtxOk k F cA c X E → Ok1 X F E (cExpr n c)) {g : Expr} {args : List Expr} {kw : Keyword} {ie : Ex} (h : cSort c (cExpr n) g args kw = some ie) : PE X (.Call g args [kw] pos) (tEv X.K F E ie) := by
  unfold cSort at h
  split at h
  · split at h
    · rename_i x p e kk ps body scope lp kp hc
      rw [Bool.and_eq_true, Bool.and_eq_true, Bool.and_eq_true, Bool.and_eq_true] at hc
      obtain ⟨⟨⟨⟨c1, c2⟩, c3⟩, c4⟩, c5⟩ := hc
      have hx := of_decide_eq_true c1
      have hk := of_decide_eq_true c2
      subst hx hk
      split at h
      · rename_i q eq
        split at h
        · rename_i hl
          split at h
          · rename_i a i b e1 e2 e3
            cases h
            obtain ⟨g1, g2, _, _⟩ := isB_of o c3
            obtain ⟨cd, P, w1, w2, w3, w4, w5⟩ := o.lam c5
            obtain ⟨ap, rfl⟩ := lamPar_of eq
            have L : LamP X.env.scope scope q := by rw [o.sc]; exact lamP_by hl
            have hnm : c.nm ≠ "" := fun z => by rw [z] at c5; exact absurd c5 (by decide +kernel)
            refine s_sortl (k := k) (q := c.nm ++ ".<locals>." ++ "<lambda>") (o.room2 hnm) g1 g2 (ih c X E o _ _ e1).1 c4 L (by rw [o.N]; exact ixOf_get e2) o.nd (by rw [w1]) w2 w3 w4 w5 fun s H f c' hr => ?_
            exact (ih _ _ _ (o.lamC L.kind s H f c' hr) _ _ e3).1
          · cases h
        · cases h
      · cases h
    · cases h
  · split at h
    · rename_i x p e kk f fp kp hc
      rw [Bool.and_eq_true, Bool.and_eq_true, Bool.and_eq_true, Bool.and_eq_true, Bool.and_eq_true, Bool.and_eq_true] at hc
      obtain ⟨⟨⟨⟨⟨⟨c1, c2⟩, c3⟩, c4⟩, c5⟩, c6⟩, c7⟩ := hc
      have hx := of_decide_eq_true c1
      have hk := of_decide_eq_true c2
      subst hx hk
      split at h
      · rename_i a fid ar e1 e2
        split at h
        · rename_i har
          cases h
          subst har
          obtain ⟨g1, g2, _, _⟩ := isB_of o c3
          obtain ⟨fa, fd, ps, m, kpp, hb, G⟩ := o.fns f fid 1 e2
          exact s_sortf G (o.room2 (of_decide_eq_true c7)) g1 g2 (o.gl c6) m hb (ih c X E o _ _ e1).1 c4 (okName_of c5).1
        · cases h
      · cases h
    · cases h
  · cases h
theorem expr_ok {k : Nat} {F : FS} {cA : Nat → Addr} : ∀ n c X E, CtxOk k F cA c X E → Ok1 X F E (cExpr n c)
  | 0, c, X, E, o, e, ie, h => by cases h
  | n + 1, c, X, E, o, e, ie, h => by
    have ih := expr_ok (k := k) (F := F) (cA := cA) n
    have of := ih c X E o
    have plain : plainT e = true → PE X e (tEv X.K F E ie) → PE X e (tEv X.K F E ie) ∧ (noIf e = true → PT X e (tEvT X.K F E ie)) := fun hp he => ⟨he, fun _ => t_plain he hp⟩
    cases e with
    | Name x p => exact plain rfl (name_ok o h)
    | Constant v j p =>
      obtain ⟨d, e1, rfl⟩ := Option.map_eq_some_iff.mp h
      exact plain rfl (const_ok e1)
    | UnaryOp op a p => exact ⟨(un_ok of h).1, fun _ => (un_ok of h).2⟩
    | Tuple es j p =>
      obtain ⟨ies, e1, rfl⟩ := Option.map_eq_some_iff.mp h
      exact plain rfl (s_tup (list_ok of e1).1)
    | List es p =>
      obtain ⟨ies, e1, rfl⟩ := Option.map_eq_some_iff.mp h
      exact plain rfl (s_lst (list_ok of e1).1)
    | Dict ks vs p =>
      rw [cExpr] at h
      split at h
      · rename_i hc
        rw [Bool.and_eq_true] at hc
        cases h
        cases ks with
        | cons _ _ => exact nomatch hc.1
        | nil =>
          cases vs with
          | cons _ _ => exact nomatch hc.2
          | nil => exact plain rfl s_dnew
      · cases h
    | BinOp a op b p =>
      rw [cExpr] at h
      split at h
      · rename_i bo x y e1 e2 e3
        cases h
        rw [bopI_of e1]
        exact ⟨s_bin bo (of _ _ e2).1 (of _ _ e3).1, fun _ => t_plain (s_bin bo (of _ _ e2).1 (of _ _ e3).1) rfl⟩
      · cases h
    | BoolOp op es p => exact ⟨(bool_ok of h).1, fun _ => (bool_ok of h).2.pt⟩
    | IfExp t a b p =>
      rw [cExpr] at h
      split at h
      · rename_i x y z e1 e2 e3
        cases h
        exact ⟨s_ife (cT_ok of e1) (of _ _ e2).1 (of _ _ e3).1, fun hn => nomatch hn⟩
      · cases h
    | Compare a ops bs p => exact ⟨(cmp_ok o.ru of h).1, fun _ => (cmp_ok o.ru of h).2⟩
    | Subscript a i p => exact plain rfl (sub_ok o.ru of h)
    | Call g args kws p =>
      match kws, h with
      | [], h => exact plain rfl (call_ok o of h)
      | [kw], h => exact plain rfl (sort_ok o ih h)
      | _ :: _ :: _, h => exact plain rfl (call_ok o of h)
    | ListComp elt gs scope p => exact plain rfl (comp_ok o ih h).1
    | Attribute a x p => exact plain rfl (cfld_ok o of h)
    | _ => exact nomatch h
end Ev
set_option Elab.async false
set_option linter.all false
set_option maxRecDepth 100000
/-! Eng17: the translation is sound: statements, defs. -/
namespace Ev
open PySem L2

section
variable {k : Nat} {F : FS} {cA : Nat → Addr} {c : CC} {X : Cx} {E : XW} {pos : Pos}
theorem noswap {e : Expr} {t : Option Expr} {l : Nat} {env : PySem.Env} (h : isComp e = false) : swapsWith e t l env = pure false := by
  cases e <;> first | rfl | (exact nomatch h)
theorem noswapS {e t : Expr} {l : Nat} {env : PySem.Env} (h : isComp e = false) : swapsWithSole [t] e l env = pure false := noswap h
theorem sw_eq {elt : Expr} {gs : List Comprehension} {s : Scope} {p py : Pos} {y : Str} {l : Nat} {env : PySem.Env} (hk : env.scope.kind = .function) :
    swapsWith (.ListComp elt gs s p) (some (.Name y py)) l env = pure (decide (env.scope.names.lookup y = some .local) && (py.line == p.line) && !(s.names.any fun (n, k) => n == y && (k == .local || k == .cell))) := by
  have hb : env.blockKind = .function := by
    unfold PySem.Env.blockKind
    rw [hk]; rfl
  show (pure (env.blockKind == .function && env.kindOf y == some .local && py.line == p.line && !(s.names.any fun (n, k) => n == y && (k == .local || k == .cell))) : Sem Bool) = _
  rw [hb]
  have e1 : (env.kindOf y == some .local) = decide (env.scope.names.lookup y = some .local) := by
    unfold PySem.Env.kindOf
    by_cases h : env.scope.names.lookup y = some .local
    · rw [h]; rfl
    · rw [decide_eq_false h]; exact beq_eq_false_iff_ne.mpr h
  rw [e1]
  rfl
theorem notTup_swapped {ts : List Expr} {j : Nat} {p : Pos} {e : Expr} {env : PySem.Env} (h : isTupE e = false) : swappedStores [.Tuple ts j p] e env = pure none := by
  cases e <;> first | rfl | (exact nomatch h)
theorem starred_any : ∀ {vs : List Expr}, vs.all notStar = true → (vs.any fun | .Starred .. => true | _ => false) = false
  | [], _ => rfl
  | v :: vs, h => by
    rw [List.all_cons, Bool.and_eq_true] at h
    rw [List.any_cons, starred_any h.2]
    cases v <;> first | rfl | (exact nomatch h.1)
theorem swapped_eq {ts vs : List Expr} {j j2 : Nat} {p p2 : Pos} {env : PySem.Env} (hk : env.scope.kind = .function) (h : swapB env.scope ts vs = true) :
    swappedStores [.Tuple ts j p] (.Tuple vs j2 p2) env = pure (some (ts.filterMap fun
      | .Name id pos => if env.kindOf id == some .local && pos.line == (ts.head?.map (·.pos.line)).getD 0 then some id else none
      | _ => none)) := by
  have hb : env.blockKind = .function := by
    unfold PySem.Env.blockKind
    rw [hk]; rfl
  unfold swapB at h
  obtain ⟨h, h7⟩ := Bool.and_eq_true_iff.mp h
  obtain ⟨h, h6⟩ := Bool.and_eq_true_iff.mp h
  obtain ⟨h, h5⟩ := Bool.and_eq_true_iff.mp h
  obtain ⟨h, h4⟩ := Bool.and_eq_true_iff.mp h
  obtain ⟨h, h3⟩ := Bool.and_eq_true_iff.mp h
  obtain ⟨h1, h2⟩ := Bool.and_eq_true_iff.mp h
  unfold swappedStores
  have hs := starred_any h3
  have c1 : (!(ts.length == 2 || ts.length == 3) || vs.length != ts.length || env.blockKind != .function) = false := by
    rw [h1, hb]
    have : (vs.length != ts.length) = false := by simp only [bne, h2]; rfl
    rw [this]; rfl
  have c4 : ∀ l : List Str, (l.length == ts.length) = true → (l.eraseDups.length == l.length) = true → (l.length != ts.length || l.eraseDups.length != l.length) = false := fun l a b => by
    simp only [bne, a, b]; rfl
  have h6' : vs.all (foldedForSure 8) = false := by simpa using h6
  have h7' : vs.all (constantsAlone 8) = false := by simpa using h7
  dsimp only
  rw [if_neg (fun z => Bool.false_ne_true (c1.symm.trans z))]
  refine (congrArg (fun x => x) (if_neg (fun z => Bool.false_ne_true (hs.symm.trans z)))).trans ?_
  refine (congrArg (fun x => x) (if_neg (fun z => Bool.false_ne_true ((c4 _ h4 h5).symm.trans z)))).trans ?_
  refine (congrArg (fun x => x) (if_neg (fun z => Bool.false_ne_true (h6'.symm.trans z)))).trans ?_
  refine (congrArg (fun x => x) (if_neg (fun z => Bool.false_ne_true (h7'.symm.trans z)))).trans ?_
  rfl
theorem folded_swapped {ts vs : List Expr} {j j2 : Nat} {p p2 : Pos} {env : PySem.Env} (h : noSwapB env.scope ts vs = true) : swappedStores [.Tuple ts j p] (.Tuple vs j2 p2) env = pure none := by
  unfold noSwapB at h
  dsimp only at h
  rw [Bool.or_eq_true] at h
  unfold swappedStores
  rcases h with h | h
  · simp only [h, if_true]
    split
    · rfl
    · split
      · rfl
      · split <;> rfl
  · dsimp only
    split
    · rfl
    · split
      · rfl
      · refine (congrArg (fun x => x) (if_pos ?_)).trans rfl
        exact Bool.or_eq_true_iff.mpr (.inl h)
end
end Ev
set_option Elab.async false
set_option linter.all false
set_option maxRecDepth 100000
set_option maxHeartbeats 1000000
/-! EngX3: the translation is sound within except suites. -/
namespace Ev
open PySem L2

structure HCtx (k : Nat) (F0 : FS) (cA : Nat → Addr) (c : CC) (X : Cx) (E : XW) (xn : Str) (i e : Nat) : Prop where
  N : X.N = c.N
  sc : X.env.scope = c.sc
  nd : X.N.Nodup
  room : L2H.RoomH k X.A
  dats : ∀ x d, c.dats.lookup x = some d → ∃ u v, X.mg x = some u ∧ RelV v u ∧ ∀ β H, RV X.K β H d v
  blts : ∀ x, c.blts.contains x = true → X.mg x = none
  cls : ExOk X.K X.mg cA c.cls
  hfn : ∀ x fid, c.hfn.lookup x = some fid → ∃ f fd ps, X.mg x = some (.ref f) ∧ PySem.W.keepIn X.K (.ref f) = true ∧ Binds X.K fd ps [] ∧ FnW X.prog X.w X.K X.mg X.base k f fd ps (cA e) (F0 (2000 + 100 * e + fid) [] [])
  hot : xn ≠ "" → okName xn = true ∧ Vis X.env.scope xn ∧ X.N[i]? = some xn ∧ ∃ a oe, Hot X F0 E cA i e a oe
  pinS : ∀ j σ v, j ≠ i → E.pin σ → E.pin (σ.set j (some v))
section
variable {k i e : Nat} {F0 : FS} {cA : Nat → Addr} {c : CC} {X : Cx} {E : XW} {pos : Pos} {xn : Str}
theorem HCtx.gl (o : HCtx k F0 cA c X E xn i e) {x : Str} (h : isGl c.sc x = true) : Gl X x := by
  show X.env.scope.names.lookup x = _
  rw [o.sc]
  exact isGl_of h
theorem HCtx.ru (o : HCtx k F0 cA c X E xn i e) : RU X.A := by
  have := o.room.un
  unfold RU
  omega
theorem hname_ok (o : HCtx k F0 cA c X E xn i e) {F : FS} {x : Str} {ie : Ex} (h : cName c x = some ie) : PE X (.Name x pos) (tEv X.K F E ie) := by
  unfold cName at h
  split at h
  · rename_i hn
    obtain ⟨h1, h2, h3⟩ := okName_of hn
    split at h
    · rename_i hv
      obtain ⟨i, e, rfl⟩ := Option.map_eq_some_iff.mp h
      exact s_var (by rw [o.N]; exact ixOf_get e) (by rw [o.sc]; exact isVis_of hv) h1 h2
    · split at h
      · rename_i hg
        obtain ⟨d, e, rfl⟩ := Option.map_eq_some_iff.mp h
        obtain ⟨u, v, m, rv, hr⟩ := o.dats x d e
        exact s_dat (pe_glob (o.gl hg) m rv h1) hr
      · cases h
  · cases h
theorem hcallN_ok (o : HCtx k F0 cA c X E xn i e) {x : Str} {args : List Expr} {ie : Ex} {p : Pos} (h : hCallN c xn x args = some ie) : PE X (.Call (.Name x p) args [] pos) (tEv X.K (hotF e F0) E ie) := by
  unfold hCallN at h
  split at h
  · rename_i hc
    rw [Bool.and_eq_true, Bool.and_eq_true] at hc
    obtain ⟨h1, h2, h3⟩ := okName_of hc.1.1
    have hg := o.gl hc.1.2
    obtain ⟨on, vs, hi, a, oe, H0⟩ := o.hot (of_decide_eq_true hc.2)
    obtain ⟨d1, d2, _⟩ := okName_of on
    split at h
    · rename_i fid el
      split at h
      · rename_i z pz
        split at h
        · rename_i hz
          cases h
          subst hz
          obtain ⟨f, fd, ps, m, kp, hb, G⟩ := o.hfn x fid el
          exact s_callx H0 G o.room hg m kp hb hi vs d1 d2 h1
        · cases h
      · cases h
    · split at h
      · rename_i hb
        rw [Bool.and_eq_true] at hb
        have hx := of_decide_eq_true hb.1
        subst hx
        have hm := o.blts _ hb.2
        unfold hIs at h
        split at h
        · rename_i z pz y py
          split at h
          · rename_i hcc
            rw [Bool.and_eq_true, Bool.and_eq_true] at hcc
            have hz := of_decide_eq_true hcc.1.1
            subst hz
            obtain ⟨d3, _, _⟩ := okName_of hcc.1.2
            split at h
            · rename_i m hl
              split at h
              · rename_i hm1
                cases h
                exact s_isx H0 o.cls hl hm1 hi vs d1 d2 hg hm (o.gl hcc.2) d3
              · cases h
            · split at h
              · rename_i hv
                rw [Bool.and_eq_true, Bool.and_eq_true] at hv
                have hy := of_decide_eq_true hv.1.1
                subst hy
                cases h
                exact s_isv H0 o.cls (fun zz => by rw [zz] at hv; exact nomatch hv.2) hi vs d1 d2 hg hm (o.gl hcc.2) (o.blts _ hv.1.2)
              · cases h
          · cases h
        · cases h
      · cases h
  · cases h
theorem hexpr_ok (o : HCtx k F0 cA c X E xn i e) : ∀ n, Ok1 X (hotF e F0) E (hExpr c xn n)
  | 0, x, ie, h => by cases h
  | n + 1, x, ie, h => by
    have of := hexpr_ok o n
    have plain : plainT x = true → PE X x (tEv X.K (hotF e F0) E ie) → PE X x (tEv X.K (hotF e F0) E ie) ∧ (noIf x = true → PT X x (tEvT X.K (hotF e F0) E ie)) := fun hp he => ⟨he, fun _ => t_plain he hp⟩
    cases x with
    | Name x p =>
      rw [hExpr] at h
      split at h
      · cases h
      · exact plain rfl (hname_ok o h)
    | Constant v j p =>
      obtain ⟨d, e1, rfl⟩ := Option.map_eq_some_iff.mp h
      exact plain rfl (const_ok e1)
    | UnaryOp op a p => exact ⟨(un_ok of h).1, fun _ => (un_ok of h).2⟩
    | Tuple es j p =>
      obtain ⟨ies, e1, rfl⟩ := Option.map_eq_some_iff.mp h
      exact plain rfl (s_tup (list_ok of e1).1)
    | List es p =>
      obtain ⟨ies, e1, rfl⟩ := Option.map_eq_some_iff.mp h
      exact plain rfl (s_lst (list_ok of e1).1)
    | BinOp a op b p =>
      rw [hExpr] at h
      split at h
      · rename_i bo x y e1 e2 e3
        cases h
        rw [bopI_of e1]
        exact ⟨s_bin bo (of _ _ e2).1 (of _ _ e3).1, fun _ => t_plain (s_bin bo (of _ _ e2).1 (of _ _ e3).1) rfl⟩
      · cases h
    | BoolOp op es p => exact ⟨(bool_ok of h).1, fun _ => (bool_ok of h).2.pt⟩
    | IfExp t a b p =>
      rw [hExpr] at h
      split at h
      · rename_i x y z e1 e2 e3
        cases h
        exact ⟨s_ife (cT_ok of e1) (of _ _ e2).1 (of _ _ e3).1, fun hn => nomatch hn⟩
      · cases h
    | Compare a ops bs p => exact ⟨(cmp_ok o.ru of h).1, fun _ => (cmp_ok o.ru of h).2⟩
    | Subscript a i p => exact plain rfl (sub_ok o.ru of h)
    | Call g args kws p =>
      refine plain rfl ?_
      rw [hExpr] at h
      unfold hCall at h
      split at h
      · exact hcallN_ok o h
      · exact methB_ok o.ru of h
      · cases h
    | _ => exact nomatch h
theorem hstmts_ok {F : FS} {f : Stmt → Option Sm} (hf : ∀ st s, f st = some s → PS X st (tEx X.K F E s)) : ∀ {sts : List Stmt} {ss : Sms}, cStmts f sts = some ss → PSs X sts (tExs X.K F E ss)
  | [], ss, h => by cases h; exact ss_nil
  | st :: sts, ss, h => by
    rw [cStmts] at h
    split at h
    · rename_i a b e1 e2
      cases h
      exact ss_cons (hf _ _ e1) (hstmts_ok hf e2)
    · cases h
theorem hstmt_ok (o : HCtx k F0 cA c X E xn i e) (st : Stores X c.sc) : ∀ n s ss, hStmt c xn i n s = some ss → PS X s (tEx X.K (hotF e F0) E ss) := by
  intro n
  induction n with
  | zero => intro st s h; cases h
  | succ n ih =>
    intro s ss h
    have of := hexpr_ok o n
    cases s with
    | Assign ts e pos =>
      match ts, h with
      | [.Name x p], h =>
        rw [hStmt] at h
        split at h
        · rename_i hc
          rw [Bool.and_eq_true] at hc
          split at h
          · rename_i j ie e1 e2
            split at h
            · cases h
            · rename_i hj
              cases h
              obtain ⟨l1, l2⟩ := st x hc.1
              exact ss_asg o.nd (by rw [o.N]; exact ixOf_get e1) l1 (of _ _ e2).1 (noswap (by simpa using hc.2)) l2 (fun σ v q => o.pinS j σ v hj q)
          · cases h
        · cases h
    | Expr e pos =>
      rw [hStmt] at h
      split at h
      · cases h
      · rename_i hcmp
        obtain ⟨ie, e1, rfl⟩ := Option.map_eq_some_iff.mp h
        exact ss_expr (of _ _ e1).1 (noswap (by simpa using hcmp))
    | Return e pos =>
      match e, h with
      | some e, h =>
        rw [hStmt] at h
        obtain ⟨ie, e1, rfl⟩ := Option.map_eq_some_iff.mp h
        exact ss_ret (of _ _ e1).1
    | If t a b pos =>
      rw [hStmt] at h
      split at h
      · rename_i x y z e1 e2 e3
        cases h
        exact ss_if (cT_ok of e1) (hstmts_ok ih e2) (hstmts_ok ih e3)
      · cases h
    | Pass pos => cases h; exact ss_pass
    | _ => exact nomatch h
end
/-- an except suite's context -/
theorem CtxOk.hotS {k i e : Nat} {F : FS} {cA : Nat → Addr} {c : CC} {X : Cx} {E : XW} (o : CtxOk k F cA c X E) {xn : Str} {a : Addr} {oe : Obj} {pn : List (Addr × Obj)} (on : okName xn = true) (hv : Vis X.env.scope xn) (hi : X.N[i]? = some xn) (hz : Zc (.ref (cA e)) none oe) (hf : ∃ vs, oe.data = .fields vs) :
    HCtx k F cA c (X.suite a ((a, oe) :: pn)) (hotX i a) xn i e where
  N := o.N
  sc := o.sc
  nd := o.nd
  room := ⟨o.room.dp, o.room.un⟩
  dats := o.dats
  blts := o.blts
  cls := o.cls
  hfn := fun x fid h => o.hfn x fid h e
  hot := fun _ => ⟨on, hv, hi, a, oe, ⟨List.mem_cons_self, hz, hf, fun σ h => h, fun _ _ _ z => z⟩⟩
  pinS := fun j σ v hj h => by
    show (σ.set j (some v))[i]? = _
    rw [List.getElem?_set_ne hj]
    exact h
theorem CtxOk.hotN {k e : Nat} {F : FS} {cA : Nat → Addr} {c : CC} {X : Cx} {E : XW} (o : CtxOk k F cA c X E) {a : Addr} {oe : Obj} {pn : List (Addr × Obj)} :
    HCtx k F cA c (X.suite a ((a, oe) :: pn)) noX "" 1000000 e where
  N := o.N
  sc := o.sc
  nd := o.nd
  room := ⟨o.room.dp, o.room.un⟩
  dats := o.dats
  blts := o.blts
  cls := o.cls
  hfn := fun x fid h => o.hfn x fid h e
  hot := fun h => absurd rfl h
  pinS := fun _ _ _ _ h => h
end Ev
set_option Elab.async false
set_option linter.all false
set_option maxRecDepth 100000
/-! Eng18: the translation is sound: statements, defs. -/
namespace Ev
open PySem L2

section
variable {k : Nat} {F : FS} {cA : Nat → Addr} {c : CC} {X : Cx} {E : XW} {pos : Pos}
theorem isComp_none {n : Nat} {e : Expr} {ie : Ex} (h : cExpr n c e = some ie) (hc : isComp e = true) : ∃ m elt gs scope p, n = m + 1 ∧ e = .ListComp elt gs scope p ∧ cComp c (cExpr m) elt gs scope = some ie := by
  cases n with
  | zero => cases h
  | succ m =>
    cases e with
    | ListComp elt gs scope p => exact ⟨m, elt, gs, scope, p, rfl, rfl, h⟩
    | SetComp => exact nomatch h
    | DictComp => exact nomatch h
    | _ => exact nomatch hc
theorem clen {f : CE} : ∀ {es : List Expr} {ies : Exs}, cList f es = some ies → ies.len = es.length
  | [], ies, h => by cases h; rfl
  | e :: es, ies, h => by
    rw [cList] at h
    split at h
    · split at h
      · rename_i a b e1 e2
        cases h
        rw [Exs.len, clen e2, List.length_cons]
      · cases h
    · cases h
theorem par_ok (o : CtxOk k F cA c X E) {f : CE} (of : Ok1 X F E f) {ts vs : List Expr} {j j2 : Nat} {p p2 : Pos} {s : Sm} (h : cPar c f ts vs = some s) : PS X (.Assign [.Tuple ts j p] (.Tuple vs j2 p2) pos) (tEx X.K F E s) := by
  have loc : ∀ x, isL c.sc x = true → X.env.scope.names.lookup x = some .local := fun x hx => by rw [o.sc]; exact of_decide_eq_true hx
  have kin : ∀ x, isL c.sc x = true → (X.env.kindOf x == some .local) = true := fun x hx => by unfold PySem.Env.kindOf; rw [loc x hx]; rfl
  have hk : X.env.scope.kind = .function := by rw [o.sc]; exact o.kind
  unfold cPar at h
  split at h
  · rename_i x px y py a b
    split at h
    · rename_i hc
      obtain ⟨hc, l2⟩ := Bool.and_eq_true_iff.mp hc
      obtain ⟨hc, hy⟩ := Bool.and_eq_true_iff.mp hc
      obtain ⟨hc, hx⟩ := Bool.and_eq_true_iff.mp hc
      split at h
      · rename_i i i2 ies e1 e2 el
        split at h
        · cases h
        · rename_i hij
          cases h
          refine ss_par2 o.calm o.nd (by rw [o.N]; exact ixOf_get e1) (by rw [o.N]; exact ixOf_get e2) hij (loc _ hx) (loc _ hy) (list_ok of el).1 ?_ (clen el) o.pinT
          rw [swapped_eq hk (by rw [o.sc]; exact hc)]
          have l1 : (Expr.Name x px).pos.line = px.line := rfl
          simp only [List.filterMap_cons, List.filterMap_nil, kin x hx, kin y hy, l1, l2, List.head?_cons, Option.map_some, Option.getD_some, beq_self_eq_true, Bool.true_and, if_true]
      · cases h
    · cases h
  · rename_i x px y py z pz a b d
    split at h
    · rename_i hc
      obtain ⟨hc, l3⟩ := Bool.and_eq_true_iff.mp hc
      obtain ⟨hc, l2⟩ := Bool.and_eq_true_iff.mp hc
      obtain ⟨hc, hz⟩ := Bool.and_eq_true_iff.mp hc
      obtain ⟨hc, hy⟩ := Bool.and_eq_true_iff.mp hc
      obtain ⟨hc, hx⟩ := Bool.and_eq_true_iff.mp hc
      split at h
      · rename_i i i2 i3 ies e1 e2 e3 el
        split at h
        · cases h
        · rename_i hij
          cases h
          refine ss_par3 o.calm o.nd (by rw [o.N]; exact ixOf_get e1) (by rw [o.N]; exact ixOf_get e2) (by rw [o.N]; exact ixOf_get e3) (fun z => hij (.inl z)) (fun z => hij (.inr (.inl z))) (fun z => hij (.inr (.inr z))) (loc _ hx) (loc _ hy) (loc _ hz) (list_ok of el).1 ?_ (clen el) o.pinT
          rw [swapped_eq hk (by rw [o.sc]; exact hc)]
          have l1 : (Expr.Name x px).pos.line = px.line := rfl
          simp only [List.filterMap_cons, List.filterMap_nil, kin x hx, kin y hy, kin z hz, l1, l2, l3, List.head?_cons, Option.map_some, Option.getD_some, beq_self_eq_true, Bool.true_and, if_true]
      · cases h
    · cases h
  · cases h
theorem attrs_ok (o : CtxOk k F cA c X E) {s : Str} {cs : List Nat} {i : Nat} (hi : X.N[i]? = some s) (hv : Vis X.env.scope s) (d1 : (s == ("__debug__" : Str)) = false) (d2 : (s == ("__classdict__" : Str)) = false) : ∀ {ts : List Expr} {fs : List Nat}, cAttrs c s cs ts = some fs →
    PGs X ts (gFs X.K i fs) ∧ ((assignEach ts X.env).length = fs.length ∧ (assignEach ts X.env).findIdx? (·.1) = none) ∧ ∀ f ∈ fs, FldOk X.K cs (fldN f)
  | [], fs, h => by cases h; exact ⟨pgs_nil, ⟨rfl, rfl⟩, fun _ h => nomatch h⟩
  | e :: es, fs, h => by
    cases e with
    | Attribute ob x p =>
      cases ob with
      | Name s' p' =>
        rw [cAttrs] at h
        split at h
        · rename_i hs
          subst hs
          split at h
          · rename_i f cs' fs' e1 e2
            split at h
            · rename_i hcs
              subst hcs
              cases h
              obtain ⟨h1, ⟨h2, h3⟩, h4⟩ := attrs_ok o hi hv d1 d2 e2
              obtain ⟨rfl, fo⟩ := o.flds x f cs' e1
              refine ⟨pgs_cons (pg_fld (pe_var hi hv d1 d2)) h1 rfl, ⟨?_, ?_⟩, fun f' hf' => ?_⟩
              · show (assignEach es X.env).length + 1 = _
                rw [h2]; rfl
              · show ((false, assign (.Attribute (.Name s' p') (fldN f) p) X.env) :: assignEach es X.env).findIdx? (·.1) = none
                rw [List.findIdx?_cons, h3]
                rfl
              · rcases List.mem_cons.mp hf' with rfl | hf'
                · exact fo
                · exact h4 f' hf'
            · cases h
          · cases h
        · cases h
      | _ => exact nomatch h
    | _ => exact nomatch h
theorem atts_ok (o : CtxOk k F cA c X E) {ts : List Expr} {cs fs : List Nat} {i : Nat} (h : cAtts c ts = some (cs, fs, i)) : PGs X ts (gFs X.K i fs) ∧ ((assignEach ts X.env).length = fs.length ∧ (assignEach ts X.env).findIdx? (·.1) = none) ∧ ∀ f ∈ fs, FldOk X.K cs (fldN f) := by
  unfold cAtts at h
  split at h
  · split at h
    · rename_i s p x p2 r hn
      rw [Bool.and_eq_true] at hn
      obtain ⟨d1, d2, _⟩ := okName_of hn.1
      split at h
      · rename_i i' f cs' e1 e2
        obtain ⟨fs', e3, e4⟩ := Option.map_eq_some_iff.mp h
        cases e4
        exact attrs_ok o (by rw [o.N]; exact ixOf_get e1) (by rw [o.sc]; exact isVis_of hn.2) d1 d2 e3
      · cases h
    · cases h
  · cases h
theorem asg_ok (o : CtxOk k F cA c X E) (st : Stores X c.sc) {n : Nat} {t e : Expr} {s : Sm} (h : cAsg c (cExpr n c) t e = some s) : PS X (.Assign [t] e pos) (tEx X.K F E s) := by
  have of := expr_ok n c X E o
  unfold cAsg at h
  split at h
  · rename_i x p
    split at h
    · rename_i hx
      split at h
      · rename_i i ie b e1 e2 e3
        cases h
        obtain ⟨l1, l2⟩ := st x hx
        have hN : X.N[i]? = some x := by rw [o.N]; exact ixOf_get e1
        cases hcmp : isComp e with
        | false => exact ss_asg o.nd hN l1 (of _ _ e2).1 (noswap hcmp) l2 (fun _ _ _ => o.pinT _)
        | true =>
          obtain ⟨m, elt, gs, scope, p2, rfl, rfl, hh⟩ := isComp_none e2 hcmp
          have hsw := sw_eq (elt := elt) (gs := gs) (s := scope) (p := p2) (py := p) (y := x) (l := pos.line) (env := X.env) (by rw [o.sc]; exact o.kind)
          rw [o.sc] at hsw
          simp only [swB] at e3
          have hb := Option.some.inj e3
          rw [hb] at hsw
          cases b with
          | false => exact ss_asg o.nd hN l1 (of _ _ e2).1 hsw l2 (fun _ _ _ => o.pinT _)
          | true =>
            obtain ⟨hb1, _⟩ := Bool.and_eq_true_iff.mp hb
            obtain ⟨hb1, _⟩ := Bool.and_eq_true_iff.mp hb1
            exact (comp_ok o (fun c X E o => expr_ok m c X E o) hh).2 i x p pos hN (by rw [o.sc]; exact of_decide_eq_true hb1) hsw
      · cases h
    · cases h
  · rename_i ts j p
    split at h
    · split at h
      · rename_i hfold
        split at h
        · rename_i ns en
          obtain ⟨g1, g2, g3⟩ := names_ok o.N o.nd st en
          obtain ⟨ie, e1, rfl⟩ := Option.map_eq_some_iff.mp h
          exact ss_asgT (pg_tup o.calm g1 (by rw [g2, List.length_map]) g3) (of _ _ e1).1 (noswapS rfl) (folded_swapped (by rw [o.sc]; exact hfold)) o.pinT
        · cases h
      · exact par_ok o of h
    · rename_i hnt
      split at h
      · rename_i hcmp
        split at h
        · rename_i ns en
          obtain ⟨g1, g2, g3⟩ := names_ok o.N o.nd st en
          obtain ⟨ie, e1, rfl⟩ := Option.map_eq_some_iff.mp h
          have hnt' : isTupE e = false := by
            cases e with
            | Tuple vs j2 p2 => exact absurd rfl (hnt vs j2 p2)
            | _ => rfl
          refine ss_asgU (pg_unl o.calm g1 (by rw [g2, List.length_map]) g3) (of _ _ e1).1 ?_ (notTup_swapped hnt') o.pinT
          cases e <;> first | rfl | exact nomatch hcmp
        · cases h
      · rename_i hcmp
        split at h
        · rename_i ns en
          obtain ⟨g1, g2, g3⟩ := names_ok o.N o.nd st en
          obtain ⟨ie, e1, rfl⟩ := Option.map_eq_some_iff.mp h
          have hcmp' : isComp e = false := by simpa using hcmp
          have hnt' : isTupE e = false := by
            cases e with
            | Tuple vs j2 p2 => exact absurd rfl (hnt vs j2 p2)
            | _ => rfl
          exact ss_asgT (pg_tup o.calm g1 (by rw [g2, List.length_map]) g3) (of _ _ e1).1 (noswapS hcmp') (notTup_swapped hnt') o.pinT
        · split at h
          · rename_i cs fs i ie ea e1
            cases h
            have hcmp' : isComp e = false := by simpa using hcmp
            have hnt' : isTupE e = false := by
              cases e with
              | Tuple vs j2 p2 => exact absurd rfl (hnt vs j2 p2)
              | _ => rfl
            obtain ⟨h1, h2, h3⟩ := atts_ok o ea
            exact ss_setFs h3 (pg_tup o.calm h1 h2.1 h2.2) (of _ _ e1).1 (noswapS hcmp') (notTup_swapped hnt')
          · cases h
  · split at h
    · cases h
    · rename_i hcmp
      split at h
      · rename_i n cs io ie ea e1 e2
        cases h
        obtain ⟨rfl, fo⟩ := o.flds _ n cs ea
        rw [Bool.or_eq_true, not_or] at hcmp
        exact ss_setF fo (of _ _ e1).1 (of _ _ e2).1 (noswap (by simpa using hcmp.1))
      · cases h
  · split at h
    · cases h
    · rename_i hcmp
      split at h
      · rename_i x y z e1 e2 e3
        cases h
        exact ss_setIx o.ru (of _ _ e1).1 (of _ _ e2).1 (of _ _ e3).1 (noswap (by simpa using hcmp))
      · cases h
  · cases h
theorem stmts_ok {f : Stmt → Option Sm} (hf : ∀ st s, f st = some s → PS X st (tEx X.K F E s)) : ∀ {sts : List Stmt} {ss : Sms}, cStmts f sts = some ss → PSs X sts (tExs X.K F E ss)
  | [], ss, h => by cases h; exact ss_nil
  | st :: sts, ss, h => by
    rw [cStmts] at h
    split at h
    · rename_i a b e1 e2
      cases h
      exact ss_cons (hf _ _ e1) (stmts_ok hf e2)
    · cases h
/-- a try's body -/
theorem CtxOk.inTry (o : CtxOk k F cA c X E) {E' : XW} {pn : List (Addr × Obj)} {xe : Value → Shared → Prop} (hp : ∀ σ, E'.pin σ) (tk : Takes (X.tr pn xe) (wOf cA E')) (po : PassesOwn (model X.prog X.w) X.A X.env xe) : CtxOk k F cA c (X.tr pn xe) E' where
  N := o.N
  sc := o.sc
  nd := o.nd
  kind := o.kind
  calm := o.calm
  room := o.room
  room2 := o.room2
  lam := o.lam
  own := po
  tk := tk
  pinT := hp
  fns := o.fns
  dats := o.dats
  blts := o.blts
  cls := o.cls
  hfn := o.hfn
  flds := o.flds
  mets := o.mets
  mks := o.mks
  fr := o.fr
theorem hds_ok (o : CtxOk k F cA c X E) (sto : Stores X c.sc) {n : Nat} : ∀ {hds : List ExceptHandler} {hs : Hds}, cHds c n hds = some hs → HdsOk X hds (hdl X.K F cA hs) ∧ HdEx X.K cA hs
  | [], hs, h => by cases h; exact ⟨.nil, trivial⟩
  | hd :: r, hs, h => by
    rw [cHds.eq_def] at h
    split at h
    · rename_i q; cases q
    · rename_i x px b bs ph r' q
      cases q
      split at h
      · rename_i hc
        rw [Bool.and_eq_true] at hc
        split at h
        · rename_i m sh hs' e1 e2 e3
          cases h
          obtain ⟨i1, i2⟩ := hds_ok o sto e3
          refine ⟨.cons ⟨o.gl hc.2, (okName_of hc.1).1, .inl (o.cls.nm x m e1).1⟩ (fun a oe cls d pn hz hd => ⟨fun pins s σ H D I h => ?_⟩) i1, fun n => (o.cls.exm x m e1 n).1, i2⟩
          obtain ⟨e, rfl, rfl, h⟩ := h
          exact (hstmts_ok (hstmt_ok (o.hotN (a := a) (oe := oe) (pn := pn) (e := e)) sto n) e2).run pins s σ H D I h
        · cases h
      · cases h
    · cases h
theorem raise_ok (o : CtxOk k F cA c X E) {a b : Option Expr} {s : Sm} (h : cRaise c a b = some s) : PS X (.Raise a b pos) (tEx X.K F E s) := by
  unfold cRaise at h
  split at h
  · split at h
    · rename_i hc
      rw [Bool.and_eq_true] at hc
      split at h
      · rename_i m e1
        cases h
        exact ss_raise o.cls e1 o.calm o.tk (o.gl hc.2) (okName_of hc.1).1
      · cases h; exact ss_stuck
    · cases h; exact ss_stuck
  · cases h; exact ss_stuck
theorem try_ok (o : CtxOk k F cA c X E) (sto : Stores X c.sc) (hnm : c.nm ≠ "") {n : Nat} {body : List Stmt} {sb : Sms} {hds : List ExceptHandler} {s : Sm} (hb : ∀ (E' : XW) (pn : List (Addr × Obj)) (xe : Value → Shared → Prop), (∀ σ, E'.pin σ) → Takes (X.tr pn xe) (wOf cA E') → PassesOwn (model X.prog X.w) X.A X.env xe → PSs (X.tr pn xe) body (tExs X.K F E' sb))
    (h : cTry c n sb hds = some s) : PS X (.Try body hds [] [] pos) (tEx X.K F E s) := by
  obtain ⟨f1, f2⟩ := o.fr hnm
  unfold cTry at h
  split at h
  · rename_i x px nm b bs ph
    unfold cTryAs at h
    split at h
    · rename_i hc
      rw [Bool.and_eq_true, Bool.and_eq_true, Bool.and_eq_true, Bool.and_eq_true] at hc
      obtain ⟨⟨⟨⟨c1, c2⟩, c3⟩, c4⟩, c5⟩ := hc
      split at h
      · rename_i m i e1 e2
        obtain ⟨sh, e3, rfl⟩ := Option.map_eq_some_iff.mp h
        have hl : X.env.scope.names.lookup nm = some .local := by rw [o.sc]; exact of_decide_eq_true c3
        have hi : X.N[i]? = some nm := by rw [o.N]; exact ixOf_get e2
        refine ss_tryAs f1 f2 o.nd hi hl ⟨o.gl c2, (okName_of c1).1, .inl (o.cls.nm x m e1).1⟩ o.tk o.pinT (fun n => (o.cls.exm x m e1 n).1) hb fun a oe e pn hz hd => ?_
        exact hstmts_ok (hstmt_ok (o.hotS c4 (.inl hl) hi hz hd) sto n) e3
      · cases h
    · cases h
  · cases h
  · obtain ⟨hs, e1, rfl⟩ := Option.map_eq_some_iff.mp h
    obtain ⟨h1, h2⟩ := hds_ok o sto e1
    cases hds with
    | nil => rename_i a b; first | exact (a rfl).elim | exact (b rfl).elim
    | cons h₀ hds => exact ss_tryMany f1 f2 o.tk o.pinT h2 hb h1
theorem stmt_ok (o : CtxOk k F cA c X E) (sto : Stores X c.sc) : ∀ n st s, cStmt n c st = some s → PS X st (tEx X.K F E s) := by
  intro n
  induction n generalizing X E with
  | zero => intro st s h; cases h
  | succ n ih' =>
    intro st s h
    have ih := ih' o sto
    have of := expr_ok n c X E o
    cases st with
    | Assign ts e pos =>
      match ts, h with
      | [t], h => exact asg_ok o sto h
    | Expr e pos =>
      rw [cStmt] at h
      split at h
      · cases h
      · rename_i hcmp
        obtain ⟨ie, e1, rfl⟩ := Option.map_eq_some_iff.mp h
        exact ss_expr (of _ _ e1).1 (noswap (by simpa using hcmp))
    | Return e pos =>
      match e, h with
      | some e, h =>
        rw [cStmt] at h
        obtain ⟨ie, e1, rfl⟩ := Option.map_eq_some_iff.mp h
        exact ss_ret (of _ _ e1).1
    | If t a b pos =>
      rw [cStmt] at h
      split at h
      · rename_i x y z e1 e2 e3
        cases h
        exact ss_if (cT_ok of e1) (stmts_ok ih e2) (stmts_ok ih e3)
      · cases h
    | For tg iter body els pos =>
      match els, h with
      | [], h =>
        rw [cStmt] at h
        split at h
        · rename_i w t it sb e1 e2 e3
          cases h
          obtain ⟨q1, q2⟩ := iter_ok o of e2
          exact ss_for o.own o.calm q1 (tg_ok o.N o.nd o.calm sto e1).1 (stmts_ok ih e3) q2 o.pinT
        · cases h
    | Pass pos => cases h; exact ss_pass
    | Raise a b pos => exact raise_ok o h
    | Try body hds els fin pos =>
      match els, fin, h with
      | [], [], h =>
        rw [cStmt] at h
        split at h
        · rename_i hnm
          split at h
          · rename_i sb e1
            exact try_ok o sto (of_decide_eq_true hnm) (fun E' pn xe hp tk po => stmts_ok (ih' (o.inTry hp tk po) sto) e1) h
          · cases h
        · cases h
    | _ => exact nomatch h
end
end Ev
set_option Elab.async false
set_option linter.all false
set_option maxRecDepth 100000
set_option maxHeartbeats 4000000
/-! Eng19: defs, the head. -/
namespace Ev
open PySem L2 PySem.Spec PyProof.Rows

/-- one def; hot: it is called with a caught exception alone -/
structure DE where
  id : Nat
  x : Str
  par : Arguments
  body : List Stmt
  sc : Scope
  N : List Str
  ps : List Str
  lines : List Nat
  sm : Sms
  hot : Bool
  /-- where it stands: a module's name; a class and its method -/
  at_ : Str × Option Str
  qual : Str
  /-- of a method: the class's number, the method's -/
  cl : Option (Nat × Nat)
/-- what stands around: classes of exceptions, classes with fields -/
structure XOC where
  x : List (Str × Nat)
  o : OC
def plainDE (d : DE) : Bool := !d.hot && d.cl.isNone
def fnsOf : List DE → List (Str × Nat × Nat)
  | [] => []
  | d :: r => if plainDE d then (d.at_.1, d.id, d.ps.length) :: fnsOf r else fnsOf r
def hfnOf : List DE → List (Str × Nat)
  | [] => []
  | d :: r => if d.hot then (d.x, d.id) :: hfnOf r else hfnOf r
theorem fnsOf_get {x : Str} {fid ar : Nat} : ∀ {tab : List DE}, (fnsOf tab).lookup x = some (fid, ar) → ∃ d, d ∈ tab ∧ (d.hot = false ∧ d.cl = none) ∧ d.at_.1 = x ∧ d.id = fid ∧ d.ps.length = ar
  | [], h => by cases h
  | d :: r, h => by
    rw [fnsOf] at h
    split at h
    · rename_i hh
      rw [List.lookup_cons] at h
      cases e : (x == d.at_.1) with
      | true =>
        rw [e] at h
        cases h
        unfold plainDE at hh
        rw [Bool.and_eq_true] at hh
        exact ⟨d, List.mem_cons_self, ⟨by simpa using hh.1, by simpa using hh.2⟩, (eq_of_beq e).symm, rfl, rfl⟩
      | false =>
        rw [e] at h
        obtain ⟨d', h1, h2⟩ := fnsOf_get (tab := r) h
        exact ⟨d', List.mem_cons_of_mem _ h1, h2⟩
    · obtain ⟨d', h1, h2⟩ := fnsOf_get (tab := r) h
      exact ⟨d', List.mem_cons_of_mem _ h1, h2⟩
theorem hfnOf_get {x : Str} {fid : Nat} : ∀ {tab : List DE}, (hfnOf tab).lookup x = some fid → ∃ d, d ∈ tab ∧ d.hot = true ∧ d.x = x ∧ d.id = fid
  | [], h => by cases h
  | d :: r, h => by
    rw [hfnOf] at h
    split at h
    · rename_i hh
      rw [List.lookup_cons] at h
      cases e : (x == d.x) with
      | true =>
        rw [e] at h
        cases h
        exact ⟨d, List.mem_cons_self, hh, (eq_of_beq e).symm, rfl⟩
      | false =>
        rw [e] at h
        obtain ⟨d', h1, h2⟩ := hfnOf_get (tab := r) h
        exact ⟨d', List.mem_cons_of_mem _ h1, h2⟩
    · obtain ⟨d', h1, h2⟩ := hfnOf_get (tab := r) h
      exact ⟨d', List.mem_cons_of_mem _ h1, h2⟩
theorem lookup_memS {α : Type} {x : Str} {d : α} : ∀ {l : List (Str × α)}, l.lookup x = some d → (x, d) ∈ l
  | [], h => by cases h
  | (y, u) :: r, h => by
    rw [List.lookup_cons] at h
    cases e : (x == y) with
    | true => rw [e] at h; cases h; rw [eq_of_beq e]; exact List.mem_cons_self
    | false => rw [e] at h; exact List.mem_cons_of_mem _ (lookup_memS h)
/-- what stands around the defs: the defs' names, data, built-in names, classes of exceptions -/
structure Env1 where
  fns : List (Str × Nat × Nat)
  hfn : List (Str × Nat)
  dats : List (Str × D)
  blts : List Str
  cls : XOC
def ccOf (g : Env1) (d : DE) : CC := ⟨d.N, d.sc, g.fns, g.dats, g.blts, d.lines, d.qual, g.cls.x, g.hfn, g.cls.o⟩
def irOf (g : Env1) (d : DE) : Option Sms :=
  if d.hot then (match d.ps with
    | [xn] => if okName xn && isVis d.sc xn && decide (d.N[0]? = some xn) && decide (xn ≠ "") && decide (d.id < 100) then cStmts (hStmt (ccOf g d) xn 0 40) d.body else none
    | _ => none)
  else cStmts (cStmt 40 (ccOf g d)) d.body
/-- its place and number -/
def deB (d : DE) : Bool := match d.cl with
  | none => decide (d.at_.2 = none) && (decide (d.qual = d.x) && (decide (d.at_.1 = d.x) || (!d.hot && !lamDefs.contains d.qual)))
  | some (c, j) => decide (d.at_ = (clsI c, some d.x)) && (decide (metN j = d.x) && (decide (d.id = mid c j) && (!d.hot && !lamDefs.contains d.qual)))
/-- fields, methods, classes: of the table's defs -/
def objB (tab : List DE) (o : OC) : Bool :=
  (o.flds.all fun p => decide (fldN p.2.1 = p.1)) &&
  ((o.mets.all fun p => decide (metN p.2.1 = p.1) && p.2.2.2.all fun c => tab.any fun d => decide (d.cl = some (c, p.2.1)) && decide (d.ps.length = p.2.2.1)) &&
  o.mks.all fun p => decide (clsI p.2.1 = p.1) && tab.any fun d => decide (d.cl = some (p.2.1, 0)) && decide (d.ps.length = p.2.2))
/-- what is to be checked of a def -/
structure DEOk (g : Env1) (d : DE) : Prop where
  sc : FnScope d.N d.ps d.sc
  bnd : ∀ (kV doc pm : Value) (an : Option Addr) (cdv ct : Value) (us : List Value), us.length = d.ps.length → bindArgs (PySem.W.fnOf d.x d.qual d.par d.body d.sc .none kV doc pm an cdv ct) ⟨us, []⟩ = pure (d.ps.zip us)
  ir : irOf g d = some d.sm
  at_ : deB d = true
def envOf (tab : List DE) (dats : List (Str × D)) (blts : List Str) (cls : XOC) : Env1 := ⟨fnsOf tab, hfnOf tab, dats, blts, cls⟩

section
variable {P : Program} {w : World} {K : PySem.W.Frag} {mg : Str → Option Value} {base : Heap} {cA : Nat → Addr}
theorem sim_start {N : List Str} {ds : List D} {vs : List V} {β : List Addr} {H : Hp} (h : RVs K β H ds vs) (hl : ds.length ≤ N.length) {pin : L2.St → Prop} (hp : pin (L2.start N vs)) : Sim K pin β H (L2.start N vs) (start0 N.length ds) := by
  have e := h.length
  unfold L2.start start0
  refine ⟨hp, by simp [e], fun i d q => ?_⟩
  by_cases hi : i < ds.length
  · rw [List.getElem?_append_left (by simpa using hi), List.getElem?_map] at q
    obtain ⟨d', q1, q2⟩ := Option.map_eq_some_iff.mp q
    cases q2
    obtain ⟨v, g1, g2⟩ := h.get q1
    exact ⟨v, by rw [List.getElem?_append_left (by simpa [e] using hi), List.getElem?_map, g1]; rfl, g2⟩
  · rw [List.getElem?_append_right (by simpa using hi), List.getElem?_replicate] at q
    split at q <;> cases q
structure tabOk (PG : Nat → Option FD) (tab : List DE) (dats : List (Str × D)) (blts : List Str) (cls : XOC) : Prop where
  def_ : ∀ d ∈ tab, DEOk (envOf tab dats blts cls) d ∧ PG d.id = some ⟨d.ps.length, d.N.length, d.sm⟩
  out : ∀ n, 2000 ≤ n → PG n = none
  obj : objB tab cls.o = true
/-- what the head tells -/
structure HeadOk (K : PySem.W.Frag) (mg : Str → Option Value) (tab : List DE) (dats : List (Str × D)) (blts : List Str) (cls : XOC) (cA : Nat → Addr) : Prop where
  exo : ExOk K mg cA cls.x
  def_ : ∀ d ∈ tab, ∃ fd, FunD K d.x d.qual d.par d.body d.sc [] [] (He.fAd K d.at_) fd
  glo : ∀ d ∈ tab, d.cl = none → mg d.at_.1 = some (.ref (He.fAd K (d.at_.1, none)))
  met : ∀ d ∈ tab, ∀ c j, d.cl = some (c, j) → Meth K (iA K c) d.x (He.fAd K (clsI c, some d.x))
  flds : ∀ x f cs, cls.o.flds.lookup x = some (f, cs) → FldOk K cs x
  mets : ∀ x j ar cs, cls.o.mets.lookup x = some (j, ar, cs) → ∀ c, cs.contains c = true → Cls K (iA K c)
  mks : ∀ x cl ar, cls.o.mks.lookup x = some (cl, ar) → mg x = some (.ref (He.ga K x)) ∧ Mk K (He.ga K x) (He.fAd K (x, some "__init__"))
  dats : ∀ x d, dats.lookup x = some d → ∃ u v, mg x = some u ∧ RelV v u ∧ ∀ β H, RV K β H d v
  blts : ∀ x, blts.contains x = true → mg x = none
  ne : ∀ d ∈ tab, d.x ≠ ""
  lam : ∀ d ∈ tab, lamDefs.contains d.x = true → lamIn K d.x = true ∧ ∀ p ∈ tabsOf K, p.1 = (He.cT K (d.x, none)).2 → p.2 = d.x ++ ".<locals>." ++ "<lambda>"
theorem lam_mem {x : Str} (h : lamDefs.contains x = true) (h2 : lamIn K x = true) : ((He.cT K (x, none)).2, x ++ ".<locals>." ++ "<lambda>") ∈ tabsOf K :=
  List.mem_map.mpr ⟨x, List.mem_filter.mpr ⟨List.mem_of_elem_eq_true h, h2⟩, rfl⟩
theorem all_ok {PG : Nat → Option FD} {tab : List DE} {dats : List (Str × D)} {blts : List Str} {cls : XOC} (hk : HeadOk K mg tab dats blts cls cA) (ht : tabOk PG tab dats blts cls) (hTB : ∀ x, lamDefs.contains x = true → lamIn K x = true → LamX.TabB base mg (He.cT K (x, none)).1 (He.cT K (x, none)).2) :
    ∀ (k : Nat), (∀ (d : DE), d ∈ tab → d.hot = false → ∀ fd, FunD K d.x d.qual d.par d.body d.sc [] [] (He.fAd K d.at_) fd →
      FnOk P w K mg base (L2.CX P w) (4 * k) (He.fAd K d.at_) fd d.ps (spF K cA (run PG k) d.ps.length d.id)) ∧
    ∀ (d : DE), d ∈ tab → d.hot = true → ∀ fd, FunD K d.x d.qual d.par d.body d.sc [] [] (He.fAd K d.at_) fd →
      ∀ e, FnW P w K mg base (4 * k) (He.fAd K d.at_) fd d.ps (cA e) (run PG k (2000 + 100 * e + d.id) [] []) := by
  intro k
  have hps : ∀ d ∈ tab, d.hot = true → ∃ xn, d.ps = [xn] ∧ okName xn = true ∧ isVis d.sc xn = true ∧ d.N[0]? = some xn ∧ xn ≠ "" ∧ d.id < 100 ∧ cStmts (hStmt (ccOf (envOf tab dats blts cls) d) xn 0 40) d.body = some d.sm := fun d hm hh => by
    have q := (ht.def_ d hm).1.ir
    unfold irOf at q
    rw [if_pos hh] at q
    split at q
    · rename_i xn e1
      split at q
      · rename_i hc
        rw [Bool.and_eq_true, Bool.and_eq_true, Bool.and_eq_true, Bool.and_eq_true] at hc
        exact ⟨xn, e1, hc.1.1.1.1, hc.1.1.1.2, of_decide_eq_true hc.1.1.2, of_decide_eq_true hc.1.2, of_decide_eq_true hc.2, q⟩
      · cases q
    · cases q
  have atN : ∀ d ∈ tab, d.cl = none → d.at_ = (d.at_.1, none) ∧ d.qual = d.x ∧ (d.at_.1 = d.x ∨ (d.hot = false ∧ lamDefs.contains d.qual = false)) := fun d hm hc => by
    have q := (ht.def_ d hm).1.at_
    unfold deB at q
    rw [hc] at q
    dsimp only at q
    rw [Bool.and_eq_true, Bool.and_eq_true, Bool.or_eq_true, Bool.and_eq_true] at q
    refine ⟨Prod.ext rfl (of_decide_eq_true q.1), of_decide_eq_true q.2.1, ?_⟩
    rcases q.2.2 with z | z
    · exact .inl (of_decide_eq_true z)
    · exact .inr ⟨by simpa using z.1, by simpa using z.2⟩
  have atC : ∀ d ∈ tab, ∀ c j, d.cl = some (c, j) → d.at_ = (clsI c, some d.x) ∧ metN j = d.x ∧ d.id = mid c j ∧ d.hot = false ∧ lamDefs.contains d.qual = false := fun d hm c j hc => by
    have q := (ht.def_ d hm).1.at_
    unfold deB at q
    rw [hc] at q
    dsimp only at q
    rw [Bool.and_eq_true, Bool.and_eq_true, Bool.and_eq_true, Bool.and_eq_true] at q
    exact ⟨of_decide_eq_true q.1, of_decide_eq_true q.2.1, of_decide_eq_true q.2.2.1, by simpa using q.2.2.2.1, by simpa using q.2.2.2.2⟩
  have hotCl : ∀ d ∈ tab, d.hot = true → d.cl = none := fun d hm hh => by
    cases e : d.cl with
    | none => rfl
    | some p =>
      have := (atC d hm p.1 p.2 e).2.2.2.1
      rw [hh] at this
      cases this
  have lamQ : ∀ d ∈ tab, ∀ q : Str, q = d.x → lamDefs.contains q = true → ∃ P, LamX.TabB base mg (He.codeOf K (d.x, none)) P ∧ (P, q ++ ".<locals>." ++ "<lambda>") ∈ tabsOf K ∧ ∀ p ∈ tabsOf K, p.1 = P → p.2 = q ++ ".<locals>." ++ "<lambda>" := fun d hm q hq hc => by
    subst hq
    obtain ⟨l1, l2⟩ := hk.lam d hm hc
    exact ⟨(He.cT K (d.x, none)).2, hTB d.x hc l1, lam_mem hc l1, l2⟩
  have hob := ht.obj
  unfold objB at hob
  rw [Bool.and_eq_true, Bool.and_eq_true] at hob
  have metD : ∀ x j ar cs, cls.o.mets.lookup x = some (j, ar, cs) → metN j = x ∧ ∀ c, cs.contains c = true → ∃ d ∈ tab, d.cl = some (c, j) ∧ d.ps.length = ar := fun x j ar cs hx => by
    have q := List.all_eq_true.mp hob.2.1 _ (lookup_memS hx)
    rw [Bool.and_eq_true] at q
    refine ⟨of_decide_eq_true q.1, fun c hc => ?_⟩
    have q2 := List.all_eq_true.mp q.2 c (List.mem_of_elem_eq_true hc)
    obtain ⟨d, hd, q3⟩ := List.any_eq_true.mp q2
    rw [Bool.and_eq_true] at q3
    exact ⟨d, hd, of_decide_eq_true q3.1, of_decide_eq_true q3.2⟩
  have mkD : ∀ x c ar, cls.o.mks.lookup x = some (c, ar) → clsI c = x ∧ ∃ d ∈ tab, d.cl = some (c, 0) ∧ d.ps.length = ar := fun x c ar hx => by
    have q := List.all_eq_true.mp hob.2.2 _ (lookup_memS hx)
    rw [Bool.and_eq_true] at q
    obtain ⟨d, hd, q3⟩ := List.any_eq_true.mp q.2
    rw [Bool.and_eq_true] at q3
    exact ⟨of_decide_eq_true q.1, d, hd, of_decide_eq_true q3.1, of_decide_eq_true q3.2⟩
  induction k with
  | zero =>
    refine ⟨fun d hm hh fd g2 => ⟨fun vs H Q E h => h.1, fun A outer s H args us vs Q E _ _ _ _ h => ?_⟩, fun d hm hh fd g2 e => ?_⟩
    · obtain ⟨_, ds, S, β, _, _, p⟩ := h
      exact p.elim
    · obtain ⟨xn, e1, _⟩ := hps d hm hh
      exact ⟨by rw [e1]; rfl, fun _ _ _ _ _ _ _ _ _ _ _ _ _ _ _ _ _ p => p.elim⟩
  | succ k ih =>
    have hfn : ∀ x fid, (hfnOf tab).lookup x = some fid → ∀ e, ∃ f fd ps, mg x = some (.ref f) ∧ PySem.W.keepIn K (.ref f) = true ∧ Binds K fd ps [] ∧ FnW P w K mg base (4 * k) f fd ps (cA e) (run PG k (2000 + 100 * e + fid) [] []) := fun x fid hx e => by
      obtain ⟨d, h2, hh, rfl, rfl⟩ := hfnOf_get hx
      obtain ⟨fd, g2⟩ := hk.def_ d h2
      have hcl : d.cl = none := hotCl d h2 hh
      have hax : d.at_.1 = d.x := by
        rcases (atN d h2 hcl).2.2 with z | z
        · exact z
        · rw [hh] at z; exact absurd z.1 (by simp)
      have g1 : mg d.x = some (.ref (He.fAd K d.at_)) := by
        have := hk.glo d h2 hcl
        rw [← (atN d h2 hcl).1] at this
        rw [← hax]
        exact this
      exact ⟨_, fd, d.ps, g1, g2.kp, g2.bindsN (ht.def_ d h2).1.bnd, ih.2 d h2 hh fd g2 e⟩
    refine ⟨fun d hm hh fd g2 => ?_, fun d hm hh fd g2 e => ?_⟩
    · obtain ⟨o, hP⟩ := ht.def_ d hm
      obtain ⟨oc, od, dV, kV, doc, pm, an, cdv, ct, osl, rfl, lk, hcd, _, _⟩ := g2.ex
      refine fn_of (k := 4 * k + 3) lk hcd o.sc (fun vs H Q E h => h.1) fun A outer s H vs Q E' hr h => ?_
      obtain ⟨hl, ds, S, β, rv, rs, p⟩ := h
      have hN : d.ps.length ≤ d.N.length := by
        have := congrArg List.length o.sc.pre
        rw [List.length_take] at this
        omega
      have hdl : ds.length = d.ps.length := rv.length.symm.trans hl
      let E : XW := ⟨fun c σ H' => E' (.ref (cA c)) none H', fun _ => True⟩
      have hir : cStmts (cStmt 40 (ccOf (envOf tab dats blts cls) d)) d.body = some d.sm := by
        have q := o.ir
        unfold irOf at q
        rw [if_neg (by rw [hh]; exact Bool.false_ne_true)] at q
        exact q
      have ctx : CtxOk (4 * k) (run PG k) cA (ccOf (envOf tab dats blts cls) d) (cxOf (L2.CX P w) P w K mg base d.N d.qual d.sc (He.fAd K d.at_) cdv A outer s H E') E :=
        { N := rfl, sc := rfl, nd := o.sc.nd, kind := o.sc.kind, calm := rfl, room := hr.mono (by omega), room2 := fun _ => hr, own := passes_of rfl, pinT := fun _ => trivial,
          lam := fun hc => by
            replace hc : lamDefs.contains d.qual = true := hc
            cases ecl : d.cl with
            | some p =>
              have := (atC d hm p.1 p.2 ecl).2.2.2.2
              rw [hc] at this
              cases this
            | none =>
              obtain ⟨a1, a2, a3⟩ := atN d hm ecl
              have hax : d.at_.1 = d.x := by
                rcases a3 with z | z
                · exact z
                · rw [hc] at z; exact absurd z.2 (by simp)
              obtain ⟨c, rfl⟩ := He.codeIn_ref hcd
              rw [a1, hax] at lk
              have ec : He.codeOf K (d.x, none) = c := He.codeOf_eq lk rfl
              obtain ⟨P, q1, q2, q3⟩ := lamQ d hm d.qual a2 hc
              rw [ec] at q1
              exact ⟨c, P, rfl, rfl, q1, q2, q3⟩
          tk := (takes_of rfl rfl rfl rfl).imp fun c d σ H ⟨c', e1, e2, e3⟩ => by subst e1; subst e2; exact e3,
          fns := fun x fid ar hx => by
            obtain ⟨d, h2, hh, rfl, rfl, rfl⟩ := fnsOf_get hx
            obtain ⟨fd, g2⟩ := hk.def_ d h2
            have g1 : mg d.at_.1 = some (.ref (He.fAd K d.at_)) := by
              have := hk.glo d h2 hh.2
              rw [← (atN d h2 hh.2).1] at this
              exact this
            exact ⟨_, fd, d.ps, g1, g2.kp, g2.bindsN (ht.def_ d h2).1.bnd, ih.1 d h2 hh.1 fd g2⟩
          dats := hk.dats, blts := hk.blts, cls := hk.exo, hfn := hfn, fr := fun _ => ⟨rfl, rfl⟩,
          flds := fun x f cs hx => ⟨of_decide_eq_true (List.all_eq_true.mp hob.1 _ (lookup_memS hx)), hk.flds x f cs hx⟩,
          mets := fun x j ar cs hx => by
            obtain ⟨m1, m2⟩ := metD x j ar cs hx
            refine ⟨m1, fun c hc => ⟨hk.mets x j ar cs hx c hc, ?_⟩⟩
            obtain ⟨d, h2, h3, rfl⟩ := m2 c hc
            obtain ⟨a1, a2, a3, a4, _⟩ := atC d h2 c j h3
            obtain ⟨fd, g2⟩ := hk.def_ d h2
            have mt := hk.met d h2 c j h3
            rw [← a1, ← a2] at mt
            have := ih.1 d h2 a4 fd g2
            rw [a3] at this
            exact ⟨_, fd, d.ps, mt, g2.bindsN (ht.def_ d h2).1.bnd, this⟩,
          mks := fun x cl ar hx => by
            obtain ⟨m1, d, h2, h3, rfl⟩ := mkD x cl ar hx
            obtain ⟨a1, a2, a3, a4, _⟩ := atC d h2 cl 0 h3
            obtain ⟨fd, g2⟩ := hk.def_ d h2
            obtain ⟨q1, q2⟩ := hk.mks x cl _ hx
            have := ih.1 d h2 a4 fd g2
            rw [a3] at this
            subst m1
            refine ⟨q1, _, fd, d.ps, ?_, g2.bindsN (ht.def_ d h2).1.bnd, this⟩
            rw [a1, ← a2]
            exact q2 }
      refine ⟨tExs K (run PG k) E d.sm, stmts_ok (fun st s hs => stmt_ok ctx (fun x hx => ⟨isLoc_of hx, .inl rfl⟩) 40 st s hs) hir, start0 d.N.length ds, S, β, sim_start rv (by omega) trivial, rs, ?_⟩
      rw [run, hP] at p
      dsimp only at p
      rw [if_pos hdl] at p
      cases e : exs (run PG k) d.sm (start0 d.N.length ds) S with
      | nx ρ' S' =>
        rw [e] at p
        exact fun σ' β' H' x1 x2 x3 => p β' H' x1 x2 .non (by rw [RV])
      | rt d' S' =>
        rw [e] at p
        exact fun v β' H' x1 x2 x3 => p β' H' x1 x2 v x3
      | exc c ρ' S' =>
        rw [e] at p
        exact fun σ' β' H' x1 x2 x3 => p β' H' x1 x2
      | bad =>
        rw [e] at p
        exact p.elim
    · obtain ⟨o, hP⟩ := ht.def_ d hm
      obtain ⟨xn, e1, on, hv, h0, hne, hid, hir⟩ := hps d hm hh
      obtain ⟨oc, od, dV, kV, doc, pm, an, cdv, ct, osl, rfl, lk, hcd, _, _⟩ := g2.ex
      refine fn_ofW (k := 4 * k + 3) lk hcd o.sc (by rw [e1]; rfl) fun A outer s H Q E' pp hr hz hf hT p => ?_
      have hctx : HCtx (4 * k) (run PG k) cA (ccOf (envOf tab dats blts cls) d) (L2H.cxH (L2.CX P w) P w K mg base d.N d.qual d.sc (He.fAd K d.at_) cdv A outer s H E' pp) (hotX 0 pp.1) xn 0 e :=
        { N := rfl, sc := rfl, nd := o.sc.nd, room := hr.mono (by omega), dats := hk.dats, blts := hk.blts, cls := hk.exo, hfn := fun x fid h => hfn x fid h e,
          hot := fun _ => ⟨on, isVis_of hv, h0, pp.1, pp.2, ⟨List.mem_singleton.mpr rfl, hz, hf, fun σ h => h, fun _ _ _ z => z⟩⟩,
          pinS := fun j σ v hj h => by
            show (σ.set j (some v))[0]? = _
            rw [List.getElem?_set_ne hj]
            exact h }
      have hN : d.ps.length ≤ d.N.length := by
        have := congrArg List.length o.sc.pre
        rw [List.length_take] at this
        omega
      rw [e1] at hN
      refine ⟨tExs K (hotF e (run PG k)) (hotX 0 pp.1) d.sm, hstmts_ok (hstmt_ok hctx (fun x hx => ⟨isLoc_of hx, .inl rfl⟩) 40) hir, start0 d.N.length [], [], [], ⟨?_, ?_, fun i d' q => ?_⟩, RS.nil hT, ?_⟩
      · rfl
      · unfold L2.start start0
        simp at hN ⊢
        omega
      · unfold start0 at q
        rw [List.map_nil, List.nil_append, List.getElem?_replicate] at q
        split at q <;> cases q
      · have f1 : (2000 + 100 * e + d.id - 2000) % 100 = d.id := by omega
        have f2 : (2000 + 100 * e + d.id - 2000) / 100 = e := by omega
        rw [run, ht.out _ (by omega)] at p
        dsimp only at p
        rw [f1, f2, hP] at p
        dsimp only at p
        rw [if_pos (by rw [e1]; simp; omega)] at p
        cases eo : exs (hotF e (run PG k)) d.sm (start0 d.N.length []) [] with
        | nx ρ' S' =>
          rw [eo] at p
          exact fun σ' β' H' x1 x2 x3 => p β' H' x1 x2 .non (by rw [RV])
        | rt d' S' =>
          rw [eo] at p
          exact fun v β' H' x1 x2 x3 => p β' H' x1 x2 v x3
        | exc c ρ' S' =>
          rw [eo] at p
          exact p.elim
        | bad =>
          rw [eo] at p
          exact p.elim
end
/-! ### data of the module -/
mutual
def datB (K : PySem.W.Frag) : D → Value → Bool
  | .non, .none => true
  | .bl b, .bool c => b == c
  | .int i, .int j _ => decide (i = j)
  | .str s, .str y _ => decide ((⟨s.toArray⟩ : Str) = y)
  | .tup ds, .ref a => (match K.lookup a with
    | some ⟨.type c, _, .seq its _, _⟩ => decide (c = "tuple") && (decide (its.size ≤ sizeLine) && datsB K ds its.toList)
    | _ => false)
  | .lit ds, .ref a => (match K.lookup a with
    | some ⟨.type c, none, .seq its _, _⟩ => decide (c = "list") && (decide (its.size ≤ sizeLine) && datsB K ds its.toList)
    | _ => false)
  | _, _ => false
def datsB (K : PySem.W.Frag) : List D → List Value → Bool
  | [], [] => true
  | d :: ds, u :: us => datB K d u && datsB K ds us
  | _, _ => false
end
mutual
theorem datB_ok {K : PySem.W.Frag} : ∀ {d : D} {u : Value}, datB K d u = true → ∃ v, RelV v u ∧ ∀ β H, RV K β H d v
  | .non, u, h => by
    cases u with
    | none => exact ⟨.non, rfl, fun _ _ => by rw [RV]⟩
    | _ => exact nomatch h
  | .bl b, u, h => by
    cases u with
    | bool c =>
      rw [datB] at h
      exact ⟨.bl b, by rw [eq_of_beq h]; rfl, fun _ _ => by rw [RV]⟩
    | _ => exact nomatch h
  | .int i, u, h => by
    cases u with
    | int j t =>
      rw [datB] at h
      exact ⟨.int i, ⟨t, by rw [of_decide_eq_true h]⟩, fun _ _ => by rw [RV]⟩
    | _ => exact nomatch h
  | .str s, u, h => by
    cases u with
    | str j t =>
      rw [datB] at h
      exact ⟨.str ⟨s.toArray⟩, ⟨t, by rw [of_decide_eq_true h]⟩, fun _ _ => by rw [RV]⟩
    | _ => exact nomatch h
  | .tup ds, u, h => by
    cases u with
    | ref a =>
      rw [datB] at h
      cases q : K.lookup a with
      | none => rw [q] at h; cases h
      | some o =>
        obtain ⟨oc, od, dt, osl⟩ := o
        rw [q] at h
        cases oc with
        | type c =>
          cases dt with
          | seq its n =>
            obtain ⟨h1, h2⟩ := Bool.and_eq_true_iff.mp h
            obtain ⟨h3, h4⟩ := Bool.and_eq_true_iff.mp h2
            obtain ⟨vs, r1, r2⟩ := datsB_ok h4
            exact ⟨.ref a, rfl, fun β H => by
              rw [RV]
              exact ⟨a, vs, rfl, .inr ⟨_, its, n, q, congrArg Value.type (of_decide_eq_true h1), rfl, of_decide_eq_true h3, r1⟩, r2 β H⟩⟩
          | _ => cases h
        | _ => cases dt <;> cases h
    | _ => exact nomatch h
  | .lit ds, u, h => by
    cases u with
    | ref a =>
      rw [datB] at h
      cases q : K.lookup a with
      | none => rw [q] at h; cases h
      | some o =>
        obtain ⟨oc, od, dt, osl⟩ := o
        rw [q] at h
        cases oc with
        | type c =>
          cases od with
          | none =>
            cases dt with
            | seq its n =>
              obtain ⟨h1, h2⟩ := Bool.and_eq_true_iff.mp h
              obtain ⟨h3, h4⟩ := Bool.and_eq_true_iff.mp h2
              obtain ⟨vs, r1, r2⟩ := datsB_ok h4
              exact ⟨.ref a, rfl, fun β H => by
                rw [RV]
                exact ⟨a, vs, rfl, .inr ⟨_, its, n, q, congrArg Value.type (of_decide_eq_true h1), rfl, rfl, of_decide_eq_true h3, r1⟩, r2 β H⟩⟩
            | _ => cases h
          | some z => cases dt <;> cases h
        | _ => cases od <;> cases dt <;> cases h
    | _ => exact nomatch h
  | .loc n, u, h => by cases u <;> exact nomatch h
theorem datsB_ok {K : PySem.W.Frag} : ∀ {ds : List D} {us : List Value}, datsB K ds us = true → ∃ vs, Vals vs us ∧ ∀ β H, RVs K β H ds vs
  | [], [], _ => ⟨[], .nil, fun _ _ => by rw [RVs]⟩
  | [], _ :: _, h => by exact nomatch h
  | _ :: _, [], h => by exact nomatch h
  | d :: ds, u :: us, h => by
    rw [datsB] at h
    obtain ⟨h1, h2⟩ := Bool.and_eq_true_iff.mp h
    obtain ⟨v, r1, r2⟩ := datB_ok h1
    obtain ⟨vs, s1, s2⟩ := datsB_ok h2
    exact ⟨v :: vs, .cons r1 s1, fun β H => by rw [RVs]; exact ⟨v, vs, rfl, r2 β H, s2 β H⟩⟩
end
/-! ### the Hook -/
def exB (dats : List (Str × D)) (K : PySem.W.Frag) : Bool := dats.all fun p => match PySem.W.nsIn K mainGlobals p.1 with
  | some (some u) => datB K p.2 u
  | _ => false
def deD (d : DE) : He.DefD := ⟨d.at_, d.x, d.qual, d.par, d.body, d.sc, [], []⟩
def faD (d : DE) : He.Fa := match d.cl with
  | none => .glo d.at_.1
  | some (c, _) => .meth (clsI c) d.x
def faO (o : OC) : List He.Fa := (o.mks.flatMap fun p => [He.Fa.glo p.1, .mkr p.1]) ++ ((o.flds.flatMap fun p => p.2.2.flatMap fun c => [He.Fa.cls (clsI c), .noat (clsI c) p.1]) ++ o.mets.flatMap fun p => p.2.2.2.flatMap fun c => [He.Fa.cls (clsI c)])
def faOf (tab : List DE) (blts : List Str) (cls : XOC) : List He.Fa := tab.map faD ++ (blts.map He.Fa.free ++ faO cls.o)
/-- the defs with lambdas of this law -/
def tfOf (tab : List DE) : List He.Defn := (lamDefs.filter fun x => tab.any fun d => decide (d.x = x)).map fun x => (x, none)
/-- tables stand apart, no others are to be known -/
def lamB (tab : List DE) (K : PySem.W.Frag) : Bool :=
  (lamDefs.all fun x => (tab.any fun d => decide (d.x = x)) || !lamIn K x) && decide ((tabsOf K).map (·.1)).Nodup && tab.all fun d => decide (d.x ≠ "")
/-! classes of exceptions -/
def clsName : Nat → Str
  | 2 => "NoNote" | 3 => "Full" | 4 => "NoRules" | 5 => "NotTheirs" | 6 => "NoDeed" | 7 => "NoText"
  | _ => "NoteError"
def cAK (K : PySem.W.Frag) (n : Nat) : Addr := match PySem.W.nsIn K mainGlobals (clsName n) with
  | some (some (.ref a)) => a
  | _ => (match PySem.W.nsIn K mainGlobals "NoteError" with
    | some (some (.ref a)) => a
    | _ => 0)
def excB (K : PySem.W.Frag) (D : Addr) : Bool :=
  PySem.W.findIn K (.ref D) "__getattribute__" == some (some (.builtin "BaseException.__getattribute__")) && PySem.W.findIn K (.ref D) "__getattr__" == some none && PySem.W.subIn K (.ref D) (.type "BaseException") == some true && PySem.W.hasDictIn K D &&
  PySem.W.findIn K (.ref D) "__class__" == some (some (.builtin "object.__class__")) && PySem.W.specialIn K (.builtin "object.__class__") "__get__" == some (some (.builtin "getset_descriptor.__get__")) && PySem.W.takesIn K (.builtin "object.__class__") == some true && PySem.W.mroIn K D (.type "object") == some true
def clsB1 (K : PySem.W.Frag) (ms : List Nat) (n : Nat) : Bool :=
  PySem.W.nsIn K mainGlobals (clsName n) == some (some (.ref (cAK K n))) && PySem.W.keepIn K (.ref (cAK K n)) && PySem.W.excIn K (cAK K n) bmV "ValueError.__new__" && PySem.W.subIn K (.ref (cAK K n)) (.type "BaseException") == some true && PySem.W.typeIn K (.ref (cAK K n)) == some (.type "type") &&
  excB K (cAK K n) && PySem.W.kitOne K (.ref (cAK K n)) (.type "ValueError") == some true && ms.all fun m => PySem.W.exmOne K (.ref (cAK K n)) (.ref (cAK K m)) == some (subC n m) && PySem.W.kitOne K (.ref (cAK K n)) (.ref (cAK K m)) == some (subC n m)
def clsB (K : PySem.W.Frag) (ms : List Nat) : Bool := ms.contains 1 && (ms.all (clsB1 K ms) && [1, 2, 3, 4, 5, 6, 7].all fun n => ms.contains n || PySem.W.nsIn K mainGlobals (clsName n) == some none)
def clsN (x : List (Str × Nat)) : Bool := x.all fun p => decide (clsName p.2 = p.1) && [1, 2, 3, 4, 5, 6, 7].contains p.2
def exL (tab : List DE) (dats : List (Str × D)) (cls : XOC) (K : PySem.W.Frag) : Bool := exB dats K && lamB tab K && (cls.x.isEmpty || (clsN cls.x && clsB K (cls.x.map (·.2))))
def nnC (n : Nat) : Nat := if 2 ≤ n ∧ n ≤ 7 then n else 1
theorem nnC_mem (n : Nat) : nnC n ∈ [1, 2, 3, 4, 5, 6, 7] := by
  unfold nnC
  split
  · rename_i h
    obtain ⟨h1, h2⟩ := h
    have : n = 2 ∨ n = 3 ∨ n = 4 ∨ n = 5 ∨ n = 6 ∨ n = 7 := by omega
    rcases this with rfl | rfl | rfl | rfl | rfl | rfl <;> decide
  · decide
theorem clsName_nn (n : Nat) : clsName (nnC n) = clsName n := by
  unfold nnC
  split
  · rfl
  · rename_i h
    match n, h with
    | 0, _ => rfl
    | 1, _ => rfl
    | 2, h => exact absurd (by decide) h
    | 3, h => exact absurd (by decide) h
    | 4, h => exact absurd (by decide) h
    | 5, h => exact absurd (by decide) h
    | 6, h => exact absurd (by decide) h
    | 7, h => exact absurd (by decide) h
    | _ + 8, _ => rfl
theorem subC_nn (n m : Nat) (hm : m ∈ [1, 2, 3, 4, 5, 6, 7]) : subC (nnC n) m = subC n m := by
  unfold nnC
  split
  · rfl
  · rename_i h
    unfold subC
    have : m = 1 ∨ m = 2 ∨ m = 3 ∨ m = 4 ∨ m = 5 ∨ m = 6 ∨ m = 7 := by simpa using hm
    rcases this with rfl | h'
    · simp
    · have h1 : (1 == m) = false := by simp; omega
      have h2 : (n == m) = false := by simp; omega
      rw [h1, h2]
theorem exOk_of {K : PySem.W.Frag} {mg : Str → Option Value} {h : Heap} {cls : List (Str × Nat)} (X : K.In h) (G : h.Ns mainGlobals mg) (q : (cls.isEmpty || (clsN cls && clsB K (cls.map (·.2)))) = true) : ExOk K mg (cAK K) cls := by
  rw [Bool.or_eq_true] at q
  rcases q with q | q
  · have : cls = [] := by simpa using q
    subst this
    exact ⟨fun _ _ h => (nomatch h), fun h => absurd rfl h, fun _ _ h => (nomatch h), fun h => absurd rfl h⟩
  · rw [Bool.and_eq_true] at q
    obtain ⟨qn, qb⟩ := q
    have mem : ∀ x m, cls.lookup x = some m → m ∈ cls.map (·.2) ∧ clsName m = x ∧ m ∈ [1, 2, 3, 4, 5, 6, 7] := fun x m h => by
      have hm := lookup_memS h
      have a := List.all_eq_true.mp qn _ hm
      rw [Bool.and_eq_true] at a
      exact ⟨List.mem_map.mpr ⟨_, hm, rfl⟩, of_decide_eq_true a.1, List.mem_of_elem_eq_true a.2⟩
    have mem7 : ∀ m ∈ cls.map (·.2), m ∈ [1, 2, 3, 4, 5, 6, 7] := fun m hm => by
      obtain ⟨p, hp, rfl⟩ := List.mem_map.mp hm
      have a := List.all_eq_true.mp qn _ hp
      rw [Bool.and_eq_true] at a
      exact List.mem_of_elem_eq_true a.2
    generalize cls.map (·.2) = ms at *
    unfold clsB at qb
    rw [Bool.and_eq_true, Bool.and_eq_true] at qb
    obtain ⟨h1, hall, hno⟩ := qb
    have h1' : 1 ∈ ms := List.mem_of_elem_eq_true h1
    have facts : ∀ n ∈ ms, (PySem.W.nsIn K mainGlobals (clsName n) = some (some (.ref (cAK K n))) ∧ PySem.W.keepIn K (.ref (cAK K n)) = true ∧ PySem.W.excIn K (cAK K n) bmV "ValueError.__new__" = true ∧ PySem.W.subIn K (.ref (cAK K n)) (.type "BaseException") = some true ∧ PySem.W.typeIn K (.ref (cAK K n)) = some (.type "type")) ∧
        excB K (cAK K n) = true ∧ PySem.W.kitOne K (.ref (cAK K n)) (.type "ValueError") = some true ∧ ∀ m ∈ ms, PySem.W.exmOne K (.ref (cAK K n)) (.ref (cAK K m)) = some (subC n m) ∧ PySem.W.kitOne K (.ref (cAK K n)) (.ref (cAK K m)) = some (subC n m) := fun n hn => by
      have a := List.all_eq_true.mp hall n hn
      unfold clsB1 at a
      simp only [Bool.and_eq_true, beq_iff_eq] at a
      obtain ⟨⟨⟨⟨⟨⟨⟨a1, a2⟩, a3⟩, a4⟩, a5⟩, a6⟩, a7⟩, a8⟩ := a
      refine ⟨⟨a1, a2, a3, a4, a5⟩, a6, a7, fun m hm => ?_⟩
      have b := List.all_eq_true.mp a8 m hm
      simp only [Bool.and_eq_true, beq_iff_eq] at b
      exact b
    have rep : ∀ n, ∃ n' ∈ ms, cAK K n = cAK K n' ∧ ∀ m ∈ ms, subC n' m = subC n m := fun n => by
      have hA : cAK K (nnC n) = cAK K n := by unfold cAK; rw [clsName_nn]
      by_cases hc : nnC n ∈ ms
      · exact ⟨nnC n, hc, hA.symm, fun m hm => subC_nn n m (mem7 m hm)⟩
      · have b := List.all_eq_true.mp hno (nnC n) (nnC_mem n)
        rw [Bool.or_eq_true] at b
        rcases b with b | b
        · exact absurd (List.mem_of_elem_eq_true b) hc
        · have b' := beq_iff_eq.mp b
          have f1 := (facts 1 h1').1.1
          have e1 : clsName 1 = "NoteError" := rfl
          rw [e1] at f1
          refine ⟨1, h1', ?_, fun m hm => ?_⟩
          · rw [← hA]
            show (match PySem.W.nsIn K mainGlobals (clsName (nnC n)) with
              | some (some (.ref a)) => a
              | _ => (match PySem.W.nsIn K mainGlobals "NoteError" with
                | some (some (.ref a)) => a
                | _ => 0)) = _
            rw [b', f1]
          · rw [← subC_nn n m (mem7 m hm)]
            unfold subC
            have hne : (nnC n == m) = false := beq_eq_false_iff_ne.mpr fun z => hc (by rw [z]; exact hm)
            rw [hne]
            by_cases hm1 : m = 1
            · subst hm1; rfl
            · have : (1 == m) = false := beq_eq_false_iff_ne.mpr fun z => hm1 z.symm
              rw [this]
    have all2 : ∀ n, excB K (cAK K n) = true ∧ PySem.W.kitOne K (.ref (cAK K n)) (.type "ValueError") = some true ∧ ∀ m ∈ ms, PySem.W.exmOne K (.ref (cAK K n)) (.ref (cAK K m)) = some (subC n m) ∧ PySem.W.kitOne K (.ref (cAK K n)) (.ref (cAK K m)) = some (subC n m) := fun n => by
      obtain ⟨n', hn', ha, hs⟩ := rep n
      obtain ⟨_, f2, f3, f4⟩ := facts n' hn'
      rw [ha]
      refine ⟨f2, f3, fun m hm => ?_⟩
      rw [← hs m hm]
      exact f4 m hm
    refine ⟨fun x n hx => ?_, fun _ n => ?_, fun x m hx n => ?_, fun _ n => (all2 n).2.1⟩
    · obtain ⟨⟨b1, b2, b3, b4, b5⟩, _⟩ := facts n (mem x n hx).1
      rw [(mem x n hx).2.1] at b1
      exact ⟨PySem.W.mg_of X G b1, b2, b3, b4, b5⟩
    · have b := (all2 n).1
      unfold excB at b
      simp only [Bool.and_eq_true, beq_iff_eq] at b
      obtain ⟨⟨⟨⟨⟨⟨⟨b1, b2⟩, b3⟩, b4⟩, b5⟩, b6⟩, b7⟩, b8⟩ := b
      exact ⟨b1, b2, b3, b4, b5, b6, b7, b8⟩
    · exact (all2 n).2.2 m (mem x m hx).1
abbrev AlE : Type := He.AlX
def obsEG (n : Nat) (tab : List DE) (dats : List (Str × D)) (blts : List Str) (cls : XOC) (g : Addr → Option Obj) : AlE := He.obsX n (faOf tab blts cls) (tab.map deD) [] (tfOf tab) (exL tab dats cls) g
def hookE (n : Nat) (tab : List DE) (dats : List (Str × D)) (blts : List Str) (cls : XOC) : PySem.W.Hook := He.hookX n (faOf tab blts cls) (tab.map deD) [] (tfOf tab) (exL tab dats cls)
theorem obsEG_eq {n : Nat} {tab : List DE} {dats : List (Str × D)} {blts : List Str} {cls : XOC} {g : Addr → Option Obj} {s : Shared} (h : ∀ a, g a = s.heap.get? a) : obsEG n tab dats blts cls g = (hookE n tab dats blts cls).obs s := He.obsX_eq h
abbrev SaysE (tab : List DE) (dats : List (Str × D)) (blts : List Str) (cls : XOC) (w : World) (h : Heap) (K : PySem.W.Frag) : Prop := He.SaysX (faOf tab blts cls) (tab.map deD) [] (tfOf tab) (exL tab dats cls) w h K
section
variable {K : PySem.W.Frag} {mg : Str → Option Value} {h : Heap} {tab : List DE} {dats : List (Str × D)} {blts : List Str} {cls : XOC} {w : World}
theorem tf_mem {x : Str} (h1 : lamDefs.contains x = true) {d : DE} (h2 : d ∈ tab) (h3 : d.x = x) : ((x, none) : He.Defn) ∈ tfOf tab :=
  List.mem_map.mpr ⟨x, List.mem_filter.mpr ⟨List.mem_of_elem_eq_true h1, List.any_eq_true.mpr ⟨d, h2, decide_eq_true h3⟩⟩, rfl⟩
theorem nodup_fst {α β : Type} : ∀ {l : List (α × β)}, (l.map (·.1)).Nodup → ∀ {p q : α × β}, p ∈ l → q ∈ l → p.1 = q.1 → p = q
  | [], _, _, _, hp, _, _ => by cases hp
  | x :: l, hn, p, q, hp, hq, e => by
    rw [List.map_cons, List.nodup_cons] at hn
    rcases List.mem_cons.mp hp with h1 | h1
    · rcases List.mem_cons.mp hq with h2 | h2
      · rw [h1, h2]
      · exact absurd (by rw [← h1, e]; exact List.mem_map_of_mem h2) hn.1
    · rcases List.mem_cons.mp hq with h2 | h2
      · exact absurd (by rw [← h2, ← e]; exact List.mem_map_of_mem h1) hn.1
      · exact nodup_fst hn.2 h1 h2 e
theorem headOk (X : K.In h) (G : h.Ns mainGlobals mg) (c : SaysE tab dats blts cls w h K) : HeadOk K mg tab dats blts cls (cAK K) := by
  have c1 : He.SaysD (faOf tab blts cls) (tab.map deD) K := c.t.d
  have c0 := c.more
  unfold exL at c0
  rw [Bool.and_eq_true, Bool.and_eq_true] at c0
  have c2 := c0.1.1
  have c3 := c0.1.2
  unfold lamB at c3
  rw [Bool.and_eq_true, Bool.and_eq_true] at c3
  have fD : ∀ d ∈ tab, (faD d).ok K = true := fun d hd => c1.facts (List.mem_append_left _ (List.mem_map_of_mem hd))
  have fO : ∀ f ∈ faO cls.o, f.ok K = true := fun f hf => c1.facts (List.mem_append_right _ (List.mem_append_right _ hf))
  refine ⟨exOk_of X G c0.2, fun d hd => c1.defs (List.mem_map_of_mem hd), fun d hd hc => ?_, fun d hd c' j hc => ?_, fun x f cs hx c' hc' => ?_, fun x j ar cs hx c' hc' => ?_, fun x cl ar hx => ?_, fun x d hx => ?_, fun x hx => ?_, fun d hd => of_decide_eq_true (List.all_eq_true.mp c3.2 d hd), fun d hd hl => ?_⟩
  · have q := fD d hd
    unfold faD at q
    rw [hc] at q
    exact He.glo_ok X G q
  · have q := fD d hd
    unfold faD at q
    rw [hc] at q
    exact He.meth_ok q
  · have m1 : ∀ f ∈ [He.Fa.cls (clsI c'), .noat (clsI c') x], f ∈ faO cls.o := fun f hf => List.mem_append_right _ (List.mem_append_left _ (List.mem_flatMap.mpr ⟨_, lookup_memS hx, List.mem_flatMap.mpr ⟨c', List.mem_of_elem_eq_true hc', hf⟩⟩))
    exact ⟨He.cls_ok (fO _ (m1 _ (by simp))), He.noat_ok (fO _ (m1 _ (by simp)))⟩
  · have m1 : He.Fa.cls (clsI c') ∈ faO cls.o := List.mem_append_right _ (List.mem_append_right _ (List.mem_flatMap.mpr ⟨_, lookup_memS hx, List.mem_flatMap.mpr ⟨c', List.mem_of_elem_eq_true hc', by simp⟩⟩))
    exact He.cls_ok (fO _ m1)
  · have m1 : ∀ f ∈ [He.Fa.glo x, .mkr x], f ∈ faO cls.o := fun f hf => List.mem_append_left _ (List.mem_flatMap.mpr ⟨_, lookup_memS hx, hf⟩)
    exact ⟨He.glo_ok X G (fO _ (m1 _ (by simp))), He.mkr_ok (fO _ (m1 _ (by simp)))⟩
  · have := List.all_eq_true.mp c2 _ (lookup_memS hx)
    dsimp only at this
    cases e : PySem.W.nsIn K mainGlobals x with
    | none => rw [e] at this; cases this
    | some o =>
      cases o with
      | none => rw [e] at this; cases this
      | some u =>
        rw [e] at this
        obtain ⟨v, r1, r2⟩ := datB_ok this
        exact ⟨u, v, PySem.W.mg_of X G e, r1, r2⟩
  · exact He.free_ok X G (c1.facts (List.mem_append_right _ (List.mem_append_left _ (List.mem_map_of_mem (List.mem_of_elem_eq_true hx)))))
  · have hin : lamIn K d.x = true := c.hd _ (tf_mem hl hd rfl)
    refine ⟨hin, fun p hp e => ?_⟩
    have := nodup_fst (of_decide_eq_true c3.1.2) hp (lam_mem hl hin) e
    rw [this]
end
section
variable {tab : List DE} {dats : List (Str × D)} {blts : List Str} {cls : XOC} {P : Program} {w : World} {K : PySem.W.Frag} {mg : Str → Option Value} {h : Heap} {fa : Addr}
theorem rvs_ints {β : List Addr} {H : Hp} : ∀ ns : List Int, RVs K β H (ns.map D.int) (ns.map V.int)
  | [] => by rw [List.map_nil, RVs, List.map_nil]
  | n :: ns => by
    rw [List.map_cons, List.map_cons, RVs]
    exact ⟨_, _, rfl, by rw [RV], rvs_ints ns⟩
/-- the promise, also where the script is told as a list that may be changed -/
def spL (sp : Sp) : Sp := fun vs H Q E => sp vs H Q E ∨ ∃ a xs, vs = [V.ref a] ∧ H a = some (.lst xs) ∧ (∀ c d H', ¬ E c d H') ∧ ∀ o, sp vs (upd H a (.frz o (.lst xs))) Q E
theorem fn_spL {base : Heap} {k : Nat} {f : Addr} {fd : FuncData} {ps : List Str} {sp : Sp} (F : FnOk P w K mg base (L2.CX P w) k f fd ps sp) : FnOk P w K mg base (L2.CX P w) k f fd ps (spL sp) := by
  refine ⟨fun vs H Q E h => ?_, fun A outer s H args us vs Q E hr e0 hb rv h => ?_⟩
  · rcases h with h | ⟨a, xs, rfl, ha, hE, h⟩
    · exact F.len _ _ _ _ h
    · exact F.len _ _ _ _ (h default)
  · rcases h with h | ⟨a, xs, rfl, ha, hE, h⟩
    · exact F.run A outer s H args us vs Q E hr e0 hb rv h
    · obtain ⟨hl, its, n, ri, hg⟩ := e0.hok a _ ha
      have hn : ∀ b u, H b = some u → b ≠ a → upd H a (.frz { cls := .type "list", data := .seq its.toArray n } (.lst xs)) b = some u := fun b u hb hne => by rw [upd_ne hne]; exact hb
      have ok' : HOk P w (upd H a (.frz { cls := .type "list", data := .seq its.toArray n } (.lst xs))) s.heap := fun b u hbu => by
        by_cases hba : b = a
        · subst hba
          rw [upd_same] at hbu
          cases hbu
          exact ⟨hg, hl, its, n, ri, hg⟩
        · rw [upd_ne hba] at hbu
          refine (e0.hok b u hbu).stay (fun _ _ _ q => q) (fun c q => hn c _ q fun z => by rw [z, ha] at q; cases q) fun c ys q => hn c _ q fun z => by rw [z, ha] at q; cases q
      have no : ∀ b, H b = none → upd H a (.frz { cls := .type "list", data := .seq its.toArray n } (.lst xs)) b = none := fun b hb => by
        rw [upd_ne fun z => by rw [z, ha] at hb; cases hb]; exact hb
      have e0' : Env0 P w K mg base A outer s (upd H a (.frz { cls := .type "list", data := .seq its.toArray n } (.lst xs))) := ⟨e0.frames, e0.mod, fun b o hb => ⟨(e0.bs b o hb).1, no b (e0.bs b o hb).2⟩, e0.bsz, e0.funs, fun b hb => no b (e0.frf b hb), ok', e0.bare⟩
      refine codeAny_mono (F.run A outer s _ args us _ Q E hr e0' hb rv (h _)) fun r s' hq => ?_
      cases r with
      | error e =>
        obtain ⟨_, _, H', cls, d, _, _, _, _, _, _, _, zz⟩ := hq
        exact absurd zz (hE cls d H')
      | ok fl =>
        cases fl with
        | ret u =>
          obtain ⟨v, H', os, bare, un, hok, r', q⟩ := hq
          refine ⟨v, H', os, bare, ⟨fun b o e1 e2 => un.keep b o e1 (no b e2), fun b o e1 e2 => un.slot b o e1 (no b e2), fun b o e1 e2 => un.free b o e1 (no b e2), un.there, fun b ys e1 => un.tups b ys (hn b _ e1 fun z => by rw [z, ha] at e1; cases e1), fun b o u e1 => un.frzs b o u (hn b _ e1 fun z => by rw [z, ha] at e1; cases e1), fun b ps e1 => un.tbls b ps (hn b _ e1 fun z => by rw [z, ha] at e1; cases e1)⟩, hok, r', q⟩
        | next => exact False.elim hq
        | brk => exact False.elim hq
        | cont => exact False.elim hq
theorem cx_no (w : World) (H : Hp) (s : Shared) (e : Value) (s' : Shared) (z : L2.CX P w [] H s (fun _ _ _ => False) e s') : False := by
  obtain ⟨a, B, H', cls, d, _, _, _, _, _, _, _, f⟩ := z
  exact f
/-- a law, from the plain fact -/
theorem law_of {l : PySem.W.OpenLaw} {PG : Nat → Option FD} {k m : Nat} (X : K.In h) (G : h.Ns mainGlobals mg) (hmg : mg ("law" : Str) = some (.ref fa)) (c : SaysE tab dats blts cls w h K) (ht : tabOk PG tab dats blts cls) {d : DE} (hm : d ∈ tab) (hhot : d.hot = false ∧ d.cl = none) (hat : d.at_ = (("law" : Str), none)) (hp : d.ps = (["script"] : List Str))
    (fact : ∀ ns : List Int, ns.length ≤ m → ∃ S', run PG k d.id [.lit (ns.map .int)] [] = .ok (.bl true) S') :
    LamX.LawAtS l w K (L2.CX l.prog w) (4 * k) m "script" mg fa h := by
  have hk := headOk X G c
  obtain ⟨fd, g2⟩ := hk.def_ d hm
  have g1 := hk.glo d hm hhot.2
  have o := (ht.def_ d hm).1
  have hfa : fa = He.fAd K d.at_ := by
    rw [hat, hmg] at g1
    rw [hat]
    cases g1
    rfl
  subst hfa
  have hlam : ∀ x, lamDefs.contains x = true → lamIn K x = true → ((x, none) : He.Defn) ∈ tfOf tab := fun x h1 h2 => by
    have c0 := c.more
    unfold exL lamB at c0
    rw [Bool.and_eq_true, Bool.and_eq_true, Bool.and_eq_true, Bool.and_eq_true] at c0
    have q := List.all_eq_true.mp c0.1.2.1.1 x (List.mem_of_elem_eq_true h1)
    rw [h2, Bool.not_true, Bool.or_false] at q
    obtain ⟨d', hd', e'⟩ := List.any_eq_true.mp q
    exact tf_mem h1 hd' (of_decide_eq_true e')
  have fin : ∀ (H : Hp) (a : Addr) (ns : List Int), ns.length ≤ m → LamX.Tabs (tabsOf K) H → SqF K H a (ns.map V.int) → spF K (cAK K) (run PG k) 1 d.id [.ref a] H (fun v _ => v = .bl true) fun _ _ _ => False := fun H a ns hn hT hS => by
    refine ⟨rfl, [.lit (ns.map .int)], [], [], ?_, RS.nil hT, ?_⟩
    · rw [RVs]
      refine ⟨_, _, rfl, ?_, by rw [RVs]⟩
      rw [RV]
      exact ⟨a, _, rfl, hS, rvs_ints ns⟩
    · obtain ⟨S', e⟩ := fact ns hn
      rw [e]
      exact fun β' H' _ _ v hv => by rw [RV] at hv; exact hv
  refine ⟨fd, (tfOf tab).map (He.cT K), spL (spF K (cAK K) (run PG k) 1 d.id), fun p hp' => ?_, fun p hp' => ?_, fun p hp' => ?_, fun s u => ?_, fun H a ns hn _ hH hS => ?_, fun base _ _ hTB => ?_⟩
  · obtain ⟨q, hq, rfl⟩ := List.mem_map.mp hp'
    exact c.empty q hq
  · obtain ⟨q, hq, rfl⟩ := List.mem_map.mp hp'
    exact c.out q hq
  · obtain ⟨q, hq, rfl⟩ := List.mem_map.mp hp'
    exact PySem.W.codeHd_of_K X (c.hd q hq)
  · have := FunD.bindsA g2 o.bnd s [u] (by rw [hp]; rfl)
    rw [hp] at this
    exact this
  · have hT : LamX.Tabs (tabsOf K) H := fun p hp' => by
      obtain ⟨x, hx', rfl⟩ := List.mem_map.mp hp'
      obtain ⟨h1, h2⟩ := List.mem_filter.mp hx'
      exact LamX.TabS.nil (hH _ (List.mem_map.mpr ⟨_, hlam x (List.elem_eq_true_of_mem h1) h2, rfl⟩))
    rcases hS with (q | q) | q
    · refine .inr ⟨a, _, rfl, q, fun _ _ _ z => z, fun o' => fin _ a ns hn ?_ (.inl ⟨o', upd_same⟩)⟩
      exact tabs_mut q rfl hT
    · exact .inl (fin H a ns hn hT (.inl q))
    · exact .inl (fin H a ns hn hT (.inr q))
  · have := (all_ok (P := l.prog) (w := w) (base := base) (cA := cAK K) hk ht (fun x h1 h2 => hTB _ (List.mem_map.mpr ⟨_, hlam x h1 h2, rfl⟩)) k).1 d hm hhot.1 fd g2
    rw [hp] at this
    exact fn_spL this
end
end Ev
set_option Elab.async false
set_option linter.all false
set_option maxRecDepth 100000
namespace Lw
open Ev
def sm_is_below : Sms := Sms.cons (Sm.ret (Ex.meth Me.endswith (Ex.var 0) (Exs.cons (Ex.bin Bop.add (Ex.dat (D.str [46])) (Ex.var 1)) Exs.nil))) Sms.nil
def fd_is_below : FD := ⟨2, 2, sm_is_below⟩
def sm_site : Sms := Sms.cons (Sm.ret (Ex.meth Me.join (Ex.dat (D.str [46])) (Exs.cons (Ex.slc (Ex.meth Me.split (Ex.var 0) (Exs.cons (Ex.dat (D.str [46])) Exs.nil)) (Ex.dat (D.int (-2))) (Ex.dat D.non)) Exs.nil))) Sms.nil
def fd_site : FD := ⟨1, 1, sm_site⟩
def sm_steps : Sms := Sms.cons (Sm.ife (Ex.cmp Cop.eq (Ex.var 0) (Ex.dat (D.str [47]))) (Sms.cons (Sm.ret (Ex.tup Exs.nil)) Sms.nil) Sms.nil) (Sms.cons (Sm.ret (Ex.bi Bi.tuple (Exs.cons (Ex.meth Me.split (Ex.slc (Ex.var 0) (Ex.dat (D.int 1)) (Ex.dat D.non)) (Exs.cons (Ex.dat (D.str [47])) Exs.nil)) Exs.nil))) Sms.nil)
def fd_steps : FD := ⟨1, 1, sm_steps⟩
def sm_all_rules : Sms := Sms.cons (Sm.asg 0 (Ex.lst (Exs.cons (Ex.tup Exs.nil) Exs.nil))) (Sms.cons (Sm.loop (Tg.one 1) (It.of (Ex.bin Bop.add (Ex.dat (D.tup [D.tup [D.str [115, 105, 103, 110, 115], D.str [115, 116, 101, 112, 115]], D.tup [D.str [97, 108, 119, 97, 121, 115], D.str [110, 101, 118, 101, 114], D.str [116, 111, 108, 100]], D.tup [D.str [117, 110, 116, 105, 108], D.str [119, 105, 116, 104]]])) (Ex.dat (D.tup [D.tup [D.str [102, 114, 101, 101], D.str [109, 117, 115, 116]], D.tup [D.str [107, 101, 101, 112], D.str [108, 111, 111, 115, 101], D.str [110, 111, 110, 101]], D.tup [D.str [108, 111, 110, 103], D.str [110, 97, 109, 101, 115], D.str [111, 108, 100]]])))) (Sms.cons (Sm.asg 2 (Ex.lst Exs.nil)) (Sms.cons (Sm.loop (Tg.one 3) (It.of (Ex.var 0)) (Sms.cons (Sm.expr (Ex.meth Me.extend (Ex.var 2) (Exs.cons (Ex.comp (Ex.bin Bop.add (Ex.var 3) (Ex.tup (Exs.cons (Ex.var 4) Exs.nil))) (Tg.one 4) (It.of (Ex.var 1)) (Ex.dat (D.bl true))) Exs.nil))) Sms.nil) false) (Sms.cons (Sm.asg 0 (Ex.var 2)) Sms.nil))) false) (Sms.cons (Sm.ret (Ex.bi Bi.tuple (Exs.cons (Ex.bi Bi.sorted (Exs.cons (Ex.var 0) Exs.nil)) Exs.nil))) Sms.nil))
def fd_all_rules : FD := ⟨0, 5, sm_all_rules⟩
def sm_may_put : Sms := Sms.cons (Sm.ife (Ex.and (Ex.idx (Ex.var 0) (Ex.dat (D.int 3))) (Ex.cmp Cop.notin (Ex.dat (D.str [46])) (Ex.idx (Ex.var 0) (Ex.dat (D.int 2))))) (Sms.cons (Sm.ret (Ex.dat (D.bl false))) Sms.nil) Sms.nil) (Sms.cons (Sm.ret (Ex.or (Ex.cmp Cop.eq (Ex.var 1) (Ex.idx (Ex.var 0) (Ex.dat (D.int 2)))) (Ex.call 1 (Exs.cons (Ex.var 1) (Exs.cons (Ex.idx (Ex.var 0) (Ex.dat (D.int 2))) Exs.nil))))) Sms.nil)
def fd_may_put : FD := ⟨2, 2, sm_may_put⟩
def sm_by_site : Sms := Sms.cons (Sm.asg 1 Ex.dnew) (Sms.cons (Sm.loop (Tg.one 2) (It.of (Ex.var 0)) (Sms.cons (Sm.setIx (Ex.var 1) (Ex.call 2 (Exs.cons (Ex.idx (Ex.var 2) (Ex.dat (D.int 2))) Exs.nil)) (Ex.bin Bop.add (Ex.meth Me.get (Ex.var 1) (Exs.cons (Ex.call 2 (Exs.cons (Ex.idx (Ex.var 2) (Ex.dat (D.int 2))) Exs.nil)) (Exs.cons (Ex.dat (D.int 0)) Exs.nil))) (Ex.dat (D.int 1)))) Sms.nil) false) (Sms.cons (Sm.ret (Ex.bi Bi.tuple (Exs.cons (Ex.comp (Ex.tup (Exs.cons (Ex.var 3) (Exs.cons (Ex.idx (Ex.var 1) (Ex.var 3)) Exs.nil))) (Tg.one 3) (It.of (Ex.bi Bi.sorted (Exs.cons (Ex.var 1) Exs.nil))) (Ex.dat (D.bl true))) Exs.nil))) Sms.nil))
def fd_by_site : FD := ⟨1, 4, sm_by_site⟩
def sm__law_cell : Sms := Sms.cons (Sm.ife (Ex.cmp Cop.lt (Ex.var 1) (Ex.bi Bi.len (Exs.cons (Ex.var 0) Exs.nil))) (Sms.cons (Sm.ret (Ex.idx (Ex.var 0) (Ex.var 1))) Sms.nil) Sms.nil) (Sms.cons (Sm.ret (Ex.dat (D.int 0))) Sms.nil)
def fd__law_cell : FD := ⟨2, 2, sm__law_cell⟩
def sm__law_mix : Sms := Sms.cons (Sm.asg 3 (Ex.bin Bop.mod (Ex.bin Bop.mul (Ex.var 0) (Ex.dat (D.int 48271))) (Ex.var 1))) (Sms.cons (Sm.ret (Ex.bin Bop.mod (Ex.bin Bop.mod (Ex.bin Bop.mul (Ex.var 3) (Ex.bin Bop.add (Ex.var 3) (Ex.dat (D.int 7)))) (Ex.var 1)) (Ex.var 2))) Sms.nil)
def fd__law_mix : FD := ⟨3, 4, sm__law_mix⟩
def sm__law_same : Sms := Sms.cons (Sm.ife (Ex.isi (Ex.var 1) [Ty.tTuple]) (Sms.cons (Sm.ife (Ex.or (Ex.not (Ex.isi (Ex.var 0) [Ty.tTuple])) (Ex.cmp Cop.ne (Ex.bi Bi.len (Exs.cons (Ex.var 0) Exs.nil)) (Ex.bi Bi.len (Exs.cons (Ex.var 1) Exs.nil)))) (Sms.cons (Sm.ret (Ex.dat (D.bl false))) Sms.nil) Sms.nil) (Sms.cons (Sm.ret (Ex.bi Bi.all (Exs.cons (Ex.comp (Ex.call 9 (Exs.cons (Ex.var 2) (Exs.cons (Ex.var 3) Exs.nil))) (Tg.many [2, 3]) (It.zip (Ex.var 0) (Ex.var 1)) (Ex.dat (D.bl true))) Exs.nil))) Sms.nil)) Sms.nil) (Sms.cons (Sm.ife (Ex.cmp Cop.is (Ex.var 1) (Ex.dat D.non)) (Sms.cons (Sm.ret (Ex.cmp Cop.is (Ex.var 0) (Ex.dat D.non))) Sms.nil) Sms.nil) (Sms.cons (Sm.ife (Ex.or (Ex.isi (Ex.var 1) [Ty.tBool]) (Ex.isi (Ex.var 0) [Ty.tBool])) (Sms.cons (Sm.ret (Ex.and (Ex.isi (Ex.var 1) [Ty.tBool]) (Ex.and (Ex.isi (Ex.var 0) [Ty.tBool]) (Ex.cmp Cop.eq (Ex.var 0) (Ex.var 1))))) Sms.nil) Sms.nil) (Sms.cons (Sm.ret (Ex.and (Ex.isi (Ex.var 0) [Ty.tInt, Ty.tStr]) (Ex.cmp Cop.eq (Ex.var 0) (Ex.var 1)))) Sms.nil)))
def fd__law_same : FD := ⟨2, 4, sm__law_same⟩
def sm__law_host : Sms := Sms.cons (Sm.asg 1 (Ex.comp (Ex.idx (Ex.tup (Exs.cons (Ex.dat (D.str [97])) (Exs.cons (Ex.dat (D.str [98])) (Exs.cons (Ex.dat (D.str [97, 98])) (Exs.cons (Ex.dat (D.str [120])) (Exs.cons (Ex.dat (D.str [99])) Exs.nil)))))) (Ex.call 8 (Exs.cons (Ex.bin Bop.add (Ex.var 0) (Ex.bin Bop.mul (Ex.dat (D.int 7)) (Ex.var 2))) (Exs.cons (Ex.dat (D.int 9973)) (Exs.cons (Ex.dat (D.int 5)) Exs.nil))))) (Tg.one 2) (It.range1 (Ex.bin Bop.add (Ex.dat (D.int 1)) (Ex.call 8 (Exs.cons (Ex.var 0) (Exs.cons (Ex.dat (D.int 9967)) (Exs.cons (Ex.dat (D.int 3)) Exs.nil)))))) (Ex.dat (D.bl true)))) (Sms.cons (Sm.ret (Ex.meth Me.join (Ex.dat (D.str [46])) (Exs.cons (Ex.var 1) Exs.nil))) Sms.nil)
def fd__law_host : FD := ⟨1, 3, sm__law_host⟩
def sm__law_path : Sms := Sms.cons (Sm.asg 1 (Ex.comp (Ex.idx (Ex.tup (Exs.cons (Ex.dat (D.str [97])) (Exs.cons (Ex.dat (D.str [98])) (Exs.cons (Ex.dat (D.str [97, 98])) (Exs.cons (Ex.dat (D.str [98, 97])) Exs.nil))))) (Ex.call 8 (Exs.cons (Ex.bin Bop.add (Ex.var 0) (Ex.bin Bop.mul (Ex.dat (D.int 11)) (Ex.var 2))) (Exs.cons (Ex.dat (D.int 9949)) (Exs.cons (Ex.dat (D.int 4)) Exs.nil))))) (Tg.one 2) (It.range1 (Ex.call 8 (Exs.cons (Ex.var 0) (Exs.cons (Ex.dat (D.int 9941)) (Exs.cons (Ex.dat (D.int 4)) Exs.nil))))) (Ex.dat (D.bl true)))) (Sms.cons (Sm.ret (Ex.bin Bop.add (Ex.dat (D.str [47])) (Ex.meth Me.join (Ex.dat (D.str [47])) (Exs.cons (Ex.var 1) Exs.nil)))) Sms.nil)
def fd__law_path : FD := ⟨1, 3, sm__law_path⟩
def sm__law_note : Sms := Sms.cons (Sm.asg 1 (Ex.ife (Ex.cmp Cop.eq (Ex.call 8 (Exs.cons (Ex.var 0) (Exs.cons (Ex.dat (D.int 9931)) (Exs.cons (Ex.dat (D.int 3)) Exs.nil)))) (Ex.dat (D.int 0))) (Ex.dat D.non) (Ex.idx (Ex.tup (Exs.cons (Ex.dat (D.int 0)) (Exs.cons (Ex.dat (D.int 1)) (Exs.cons (Ex.dat (D.int 5)) (Exs.cons (Ex.dat (D.int 9)) (Exs.cons (Ex.dat (D.int 10)) (Exs.cons (Ex.dat (D.int 98)) (Exs.cons (Ex.dat (D.int 99)) Exs.nil)))))))) (Ex.call 8 (Exs.cons (Ex.var 0) (Exs.cons (Ex.dat (D.int 9929)) (Exs.cons (Ex.dat (D.int 7)) Exs.nil))))))) (Sms.cons (Sm.asg 2 (Ex.tup (Exs.cons (Ex.idx (Ex.tup (Exs.cons (Ex.dat (D.str [110])) (Exs.cons (Ex.dat (D.str [107])) (Exs.cons (Ex.dat (D.str [109])) Exs.nil)))) (Ex.call 8 (Exs.cons (Ex.var 0) (Exs.cons (Ex.dat (D.int 9923)) (Exs.cons (Ex.dat (D.int 3)) Exs.nil))))) (Exs.cons (Ex.idx (Ex.tup (Exs.cons (Ex.dat (D.str [])) (Exs.cons (Ex.dat (D.str [97])) (Exs.cons (Ex.dat (D.str [98])) Exs.nil)))) (Ex.call 8 (Exs.cons (Ex.var 0) (Exs.cons (Ex.dat (D.int 9907)) (Exs.cons (Ex.dat (D.int 3)) Exs.nil))))) (Exs.cons (Ex.call 10 (Exs.cons (Ex.bin Bop.add (Ex.var 0) (Ex.dat (D.int 1))) Exs.nil)) Exs.nil))))) (Sms.cons (Sm.asg 3 (Ex.tup (Exs.cons (Ex.cmp Cop.eq (Ex.call 8 (Exs.cons (Ex.var 0) (Exs.cons (Ex.dat (D.int 9901)) (Exs.cons (Ex.dat (D.int 2)) Exs.nil)))) (Ex.dat (D.int 0))) (Exs.cons (Ex.call 11 (Exs.cons (Ex.bin Bop.add (Ex.var 0) (Ex.dat (D.int 2))) Exs.nil)) (Exs.cons (Ex.var 1) (Exs.cons (Ex.cmp Cop.eq (Ex.call 8 (Exs.cons (Ex.var 0) (Exs.cons (Ex.dat (D.int 9887)) (Exs.cons (Ex.dat (D.int 3)) Exs.nil)))) (Ex.dat (D.int 0))) Exs.nil)))))) (Sms.cons (Sm.ret (Ex.bin Bop.add (Ex.bin Bop.add (Ex.var 2) (Ex.var 3)) (Ex.tup (Exs.cons (Ex.idx (Ex.tup (Exs.cons (Ex.dat (D.str [111, 119, 110])) (Exs.cons (Ex.dat (D.str [110, 101, 97, 114])) (Exs.cons (Ex.dat (D.str [97, 110, 121])) Exs.nil)))) (Ex.call 8 (Exs.cons (Ex.var 0) (Exs.cons (Ex.dat (D.int 9883)) (Exs.cons (Ex.dat (D.int 3)) Exs.nil))))) Exs.nil)))) Sms.nil)))
def fd__law_note : FD := ⟨1, 4, sm__law_note⟩
def sm__law_mark : Sms := Sms.cons (Sm.ret (Ex.tup (Exs.cons (Ex.idx (Ex.var 0) (Ex.dat (D.int 0))) (Exs.cons (Ex.idx (Ex.var 0) (Ex.dat (D.int 2))) (Exs.cons (Ex.idx (Ex.var 0) (Ex.dat (D.int 4))) Exs.nil))))) Sms.nil
def fd__law_mark : FD := ⟨1, 1, sm__law_mark⟩
def sm__law_notes : Sms := Sms.cons (Sm.asg 2 (Ex.lst Exs.nil)) (Sms.cons (Sm.loop (Tg.one 3) (It.range1 (Ex.call 8 (Exs.cons (Ex.var 0) (Exs.cons (Ex.dat (D.int 9871)) (Exs.cons (Ex.bin Bop.add (Ex.var 1) (Ex.dat (D.int 1))) Exs.nil))))) (Sms.cons (Sm.asg 4 (Ex.call 12 (Exs.cons (Ex.bin Bop.add (Ex.var 0) (Ex.bin Bop.mul (Ex.dat (D.int 97)) (Ex.var 3))) Exs.nil))) (Sms.cons (Sm.ife (Ex.and (Ex.cmp Cop.ne (Ex.var 2) (Ex.lst Exs.nil)) (Ex.cmp Cop.eq (Ex.call 8 (Exs.cons (Ex.bin Bop.add (Ex.var 0) (Ex.var 3)) (Exs.cons (Ex.dat (D.int 9859)) (Exs.cons (Ex.dat (D.int 2)) Exs.nil)))) (Ex.dat (D.int 0)))) (Sms.cons (Sm.asg 4 (Ex.bin Bop.add (Ex.bin Bop.add (Ex.slc (Ex.var 4) (Ex.dat D.non) (Ex.dat (D.int 2))) (Ex.tup (Exs.cons (Ex.idx (Ex.idx (Ex.var 2) (Ex.dat (D.int 0))) (Ex.dat (D.int 2))) Exs.nil))) (Ex.slc (Ex.var 4) (Ex.dat (D.int 3)) (Ex.dat D.non)))) Sms.nil) Sms.nil) (Sms.cons (Sm.ife (Ex.and (Ex.cmp Cop.ne (Ex.var 2) (Ex.lst Exs.nil)) (Ex.cmp Cop.eq (Ex.call 8 (Exs.cons (Ex.bin Bop.add (Ex.var 0) (Ex.var 3)) (Exs.cons (Ex.dat (D.int 9857)) (Exs.cons (Ex.dat (D.int 3)) Exs.nil)))) (Ex.dat (D.int 0)))) (Sms.cons (Sm.asg 4 (Ex.bin Bop.add (Ex.bin Bop.add (Ex.slc (Ex.var 4) (Ex.dat D.non) (Ex.dat (D.int 4))) (Ex.tup (Exs.cons (Ex.ife (Ex.cmp Cop.eq (Ex.idx (Ex.idx (Ex.var 2) (Ex.dat (D.int 0))) (Ex.dat (D.int 4))) (Ex.dat (D.str [47]))) (Ex.idx (Ex.idx (Ex.var 2) (Ex.dat (D.int 0))) (Ex.dat (D.int 4))) (Ex.bin Bop.add (Ex.idx (Ex.idx (Ex.var 2) (Ex.dat (D.int 0))) (Ex.dat (D.int 4))) (Ex.dat (D.str [47, 97])))) Exs.nil))) (Ex.slc (Ex.var 4) (Ex.dat (D.int 5)) (Ex.dat D.non)))) (Sms.cons (Sm.asg 4 (Ex.ife (Ex.cmp Cop.lt (Ex.bi Bi.len (Exs.cons (Ex.meth Me.split (Ex.idx (Ex.var 4) (Ex.dat (D.int 4))) (Exs.cons (Ex.dat (D.str [47])) Exs.nil)) Exs.nil)) (Ex.dat (D.int 5))) (Ex.var 4) (Ex.bin Bop.add (Ex.bin Bop.add (Ex.slc (Ex.var 4) (Ex.dat D.non) (Ex.dat (D.int 4))) (Ex.tup (Exs.cons (Ex.dat (D.str [47])) Exs.nil))) (Ex.slc (Ex.var 4) (Ex.dat (D.int 5)) (Ex.dat D.non))))) Sms.nil)) Sms.nil) (Sms.cons (Sm.ife (Ex.cmp Cop.notin (Ex.call 13 (Exs.cons (Ex.var 4) Exs.nil)) (Ex.comp (Ex.call 13 (Exs.cons (Ex.var 5) Exs.nil)) (Tg.one 5) (It.of (Ex.var 2)) (Ex.dat (D.bl true)))) (Sms.cons (Sm.expr (Ex.meth Me.append (Ex.var 2) (Exs.cons (Ex.var 4) Exs.nil))) Sms.nil) Sms.nil) Sms.nil)))) false) (Sms.cons (Sm.ret (Ex.bi Bi.tuple (Exs.cons (Ex.var 2) Exs.nil))) Sms.nil))
def fd__law_notes : FD := ⟨2, 6, sm__law_notes⟩
def sm__law_site : Sms := Sms.cons (Sm.asg 1 (Ex.meth Me.split (Ex.var 0) (Exs.cons (Ex.dat (D.str [46])) Exs.nil))) (Sms.cons (Sm.ret (Ex.bi Bi.tuple (Exs.cons (Ex.slc (Ex.var 1) (Ex.bi Bi.max2 (Exs.cons (Ex.dat (D.int 0)) (Exs.cons (Ex.bin Bop.sub (Ex.bi Bi.len (Exs.cons (Ex.var 1) Exs.nil)) (Ex.dat (D.int 2))) Exs.nil))) (Ex.dat D.non)) Exs.nil))) Sms.nil)
def fd__law_site : FD := ⟨1, 2, sm__law_site⟩
def sm__law_steps : Sms := Sms.cons (Sm.ret (Ex.comp (Ex.var 1) (Tg.one 1) (It.of (Ex.meth Me.split (Ex.var 0) (Exs.cons (Ex.dat (D.str [47])) Exs.nil))) (Ex.cmp Cop.ne (Ex.var 1) (Ex.dat (D.str []))))) Sms.nil
def fd__law_steps : FD := ⟨1, 2, sm__law_steps⟩
def sm_host_fits : Sms := Sms.cons (Sm.ife (Ex.cmp Cop.eq (Ex.var 2) (Ex.idx (Ex.var 1) (Ex.dat (D.int 2)))) (Sms.cons (Sm.ret (Ex.dat (D.bl true))) Sms.nil) Sms.nil) (Sms.cons (Sm.asg 3 (Ex.or (Ex.cmp Cop.eq (Ex.idx (Ex.var 0) (Ex.dat (D.int 1))) (Ex.dat (D.str [97, 108, 119, 97, 121, 115]))) (Ex.and (Ex.cmp Cop.eq (Ex.idx (Ex.var 0) (Ex.dat (D.int 1))) (Ex.dat (D.str [116, 111, 108, 100]))) (Ex.idx (Ex.var 1) (Ex.dat (D.int 3)))))) (Sms.cons (Sm.ret (Ex.and (Ex.var 3) (Ex.call 1 (Exs.cons (Ex.var 2) (Exs.cons (Ex.idx (Ex.var 1) (Ex.dat (D.int 2))) Exs.nil))))) Sms.nil))
def fd_host_fits : FD := ⟨3, 4, sm_host_fits⟩
def sm_path_fits : Sms := Sms.cons (Sm.ife (Ex.cmp Cop.eq (Ex.idx (Ex.var 0) (Ex.dat (D.int 0))) (Ex.dat (D.str [115, 105, 103, 110, 115]))) (Sms.cons (Sm.ret (Ex.meth Me.startswith (Ex.var 2) (Exs.cons (Ex.idx (Ex.var 1) (Ex.dat (D.int 4))) Exs.nil))) Sms.nil) Sms.nil) (Sms.cons (Sm.asg 3 (Ex.call 3 (Exs.cons (Ex.idx (Ex.var 1) (Ex.dat (D.int 4))) Exs.nil))) (Sms.cons (Sm.ret (Ex.cmp Cop.eq (Ex.slc (Ex.call 3 (Exs.cons (Ex.var 2) Exs.nil)) (Ex.dat D.non) (Ex.bi Bi.len (Exs.cons (Ex.var 3) Exs.nil))) (Ex.var 3))) Sms.nil))
def fd_path_fits : FD := ⟨3, 4, sm_path_fits⟩
def sm_has_ended : Sms := Sms.cons (Sm.ife (Ex.cmp Cop.is (Ex.idx (Ex.var 1) (Ex.dat (D.int 5))) (Ex.dat D.non)) (Sms.cons (Sm.ret (Ex.dat (D.bl false))) Sms.nil) Sms.nil) (Sms.cons (Sm.ife (Ex.cmp Cop.eq (Ex.idx (Ex.var 0) (Ex.dat (D.int 2))) (Ex.dat (D.str [117, 110, 116, 105, 108]))) (Sms.cons (Sm.ret (Ex.cmp Cop.ge (Ex.var 2) (Ex.idx (Ex.var 1) (Ex.dat (D.int 5))))) Sms.nil) Sms.nil) (Sms.cons (Sm.ret (Ex.cmp Cop.gt (Ex.var 2) (Ex.idx (Ex.var 1) (Ex.dat (D.int 5))))) Sms.nil))
def fd_has_ended : FD := ⟨3, 3, sm_has_ended⟩
def sm_safe_fits : Sms := Sms.cons (Sm.ret (Ex.or (Ex.not (Ex.idx (Ex.var 1) (Ex.dat (D.int 6)))) (Ex.or (Ex.idx (Ex.var 2) (Ex.dat (D.int 3))) (Ex.cmp Cop.eq (Ex.idx (Ex.var 0) (Ex.dat (D.int 3))) (Ex.dat (D.str [102, 114, 101, 101])))))) Sms.nil
def fd_safe_fits : FD := ⟨3, 3, sm_safe_fits⟩
def sm_side_fits : Sms := Sms.cons (Sm.ife (Ex.or (Ex.cmp Cop.is (Ex.idx (Ex.var 2) (Ex.dat (D.int 4))) (Ex.dat D.non)) (Ex.or (Ex.cmp Cop.eq (Ex.call 2 (Exs.cons (Ex.idx (Ex.var 2) (Ex.dat (D.int 4))) Exs.nil)) (Ex.call 2 (Exs.cons (Ex.idx (Ex.var 2) (Ex.dat (D.int 0))) Exs.nil))) (Ex.or (Ex.cmp Cop.eq (Ex.idx (Ex.var 0) (Ex.dat (D.int 4))) (Ex.dat (D.str [110, 111, 110, 101]))) (Ex.cmp Cop.eq (Ex.idx (Ex.var 1) (Ex.dat (D.int 7))) (Ex.dat (D.str [97, 110, 121])))))) (Sms.cons (Sm.ret (Ex.dat (D.bl true))) Sms.nil) Sms.nil) (Sms.cons (Sm.ret (Ex.and (Ex.idx (Ex.var 2) (Ex.dat (D.int 5))) (Ex.or (Ex.cmp Cop.eq (Ex.idx (Ex.var 1) (Ex.dat (D.int 7))) (Ex.dat (D.str [110, 101, 97, 114]))) (Ex.cmp Cop.eq (Ex.idx (Ex.var 0) (Ex.dat (D.int 4))) (Ex.dat (D.str [108, 111, 111, 115, 101])))))) Sms.nil)
def fd_side_fits : FD := ⟨3, 3, sm_side_fits⟩
def sm_why_not : Sms := Sms.cons (Sm.ife (Ex.not (Ex.call 17 (Exs.cons (Ex.var 0) (Exs.cons (Ex.var 1) (Exs.cons (Ex.idx (Ex.var 2) (Ex.dat (D.int 0))) Exs.nil))))) (Sms.cons (Sm.ret (Ex.dat (D.str [104, 111, 115, 116]))) Sms.nil) Sms.nil) (Sms.cons (Sm.ife (Ex.not (Ex.call 18 (Exs.cons (Ex.var 0) (Exs.cons (Ex.var 1) (Exs.cons (Ex.idx (Ex.var 2) (Ex.dat (D.int 1))) Exs.nil))))) (Sms.cons (Sm.ret (Ex.dat (D.str [112, 97, 116, 104]))) Sms.nil) Sms.nil) (Sms.cons (Sm.ife (Ex.call 19 (Exs.cons (Ex.var 0) (Exs.cons (Ex.var 1) (Exs.cons (Ex.idx (Ex.var 2) (Ex.dat (D.int 2))) Exs.nil)))) (Sms.cons (Sm.ret (Ex.dat (D.str [101, 110, 100]))) Sms.nil) Sms.nil) (Sms.cons (Sm.ife (Ex.not (Ex.call 20 (Exs.cons (Ex.var 0) (Exs.cons (Ex.var 1) (Exs.cons (Ex.var 2) Exs.nil))))) (Sms.cons (Sm.ret (Ex.dat (D.str [115, 97, 102, 101]))) Sms.nil) Sms.nil) (Sms.cons (Sm.ife (Ex.not (Ex.call 21 (Exs.cons (Ex.var 0) (Exs.cons (Ex.var 1) (Exs.cons (Ex.var 2) Exs.nil))))) (Sms.cons (Sm.ret (Ex.dat (D.str [115, 105, 100, 101]))) Sms.nil) Sms.nil) (Sms.cons (Sm.ret (Ex.dat D.non)) Sms.nil)))))
def fd_why_not : FD := ⟨3, 3, sm_why_not⟩
def sm_goes : Sms := Sms.cons (Sm.ret (Ex.cmp Cop.is (Ex.call 22 (Exs.cons (Ex.var 0) (Exs.cons (Ex.var 1) (Exs.cons (Ex.var 2) Exs.nil)))) (Ex.dat D.non))) Sms.nil
def fd_goes : FD := ⟨3, 3, sm_goes⟩
def sm__law_rules : Sms := Sms.cons (Sm.asg 1 (Ex.tup (Exs.cons (Ex.tup (Exs.cons (Ex.dat (D.str [115, 105, 103, 110, 115])) (Exs.cons (Ex.dat (D.str [115, 116, 101, 112, 115])) Exs.nil))) (Exs.cons (Ex.tup (Exs.cons (Ex.dat (D.str [97, 108, 119, 97, 121, 115])) (Exs.cons (Ex.dat (D.str [110, 101, 118, 101, 114])) (Exs.cons (Ex.dat (D.str [116, 111, 108, 100])) Exs.nil)))) (Exs.cons (Ex.tup (Exs.cons (Ex.dat (D.str [117, 110, 116, 105, 108])) (Exs.cons (Ex.dat (D.str [119, 105, 116, 104])) Exs.nil))) Exs.nil))))) (Sms.cons (Sm.asg 1 (Ex.bin Bop.add (Ex.var 1) (Ex.tup (Exs.cons (Ex.tup (Exs.cons (Ex.dat (D.str [102, 114, 101, 101])) (Exs.cons (Ex.dat (D.str [109, 117, 115, 116])) Exs.nil))) (Exs.cons (Ex.tup (Exs.cons (Ex.dat (D.str [107, 101, 101, 112])) (Exs.cons (Ex.dat (D.str [108, 111, 111, 115, 101])) (Exs.cons (Ex.dat (D.str [110, 111, 110, 101])) Exs.nil)))) Exs.nil))))) (Sms.cons (Sm.asg 2 (Ex.comp (Ex.idx (Ex.var 4) (Ex.call 8 (Exs.cons (Ex.bin Bop.add (Ex.var 0) (Ex.bin Bop.mul (Ex.dat (D.int 13)) (Ex.var 3))) (Exs.cons (Ex.dat (D.int 9851)) (Exs.cons (Ex.bi Bi.len (Exs.cons (Ex.var 4) Exs.nil)) Exs.nil))))) (Tg.many [3, 4]) (It.enum (Ex.var 1)) (Ex.dat (D.bl true)))) (Sms.cons (Sm.ret (Ex.bin Bop.add (Ex.bi Bi.tuple (Exs.cons (Ex.var 2) Exs.nil)) (Ex.tup (Exs.cons (Ex.idx (Ex.tup (Exs.cons (Ex.dat (D.str [108, 111, 110, 103])) (Exs.cons (Ex.dat (D.str [110, 97, 109, 101, 115])) (Exs.cons (Ex.dat (D.str [111, 108, 100])) Exs.nil)))) (Ex.call 8 (Exs.cons (Ex.var 0) (Exs.cons (Ex.dat (D.int 9839)) (Exs.cons (Ex.dat (D.int 3)) Exs.nil))))) Exs.nil)))) Sms.nil)))
def fd__law_rules : FD := ⟨1, 5, sm__law_rules⟩
def sm__law_ask : Sms := Sms.cons (Sm.par [4, 5] (Exs.cons (Ex.call 10 (Exs.cons (Ex.bin Bop.add (Ex.var 0) (Ex.dat (D.int 3))) Exs.nil)) (Exs.cons (Ex.call 11 (Exs.cons (Ex.bin Bop.add (Ex.var 0) (Ex.dat (D.int 4))) Exs.nil)) Exs.nil))) (Sms.cons (Sm.asg 2 (Ex.call 8 (Exs.cons (Ex.var 0) (Exs.cons (Ex.dat (D.int 9833)) (Exs.cons (Ex.dat (D.int 100)) Exs.nil))))) (Sms.cons (Sm.ife (Ex.and (Ex.cmp Cop.ne (Ex.var 1) (Ex.tup Exs.nil)) (Ex.cmp Cop.gt (Ex.call 8 (Exs.cons (Ex.var 0) (Exs.cons (Ex.dat (D.int 9829)) (Exs.cons (Ex.dat (D.int 5)) Exs.nil)))) (Ex.dat (D.int 0)))) (Sms.cons (Sm.par [7, 8] (Exs.cons (Ex.idx (Ex.var 1) (Ex.call 8 (Exs.cons (Ex.var 0) (Exs.cons (Ex.dat (D.int 9817)) (Exs.cons (Ex.bi Bi.len (Exs.cons (Ex.var 1) Exs.nil)) Exs.nil))))) (Exs.cons (Ex.idx (Ex.var 1) (Ex.call 8 (Exs.cons (Ex.var 0) (Exs.cons (Ex.dat (D.int 9811)) (Exs.cons (Ex.bi Bi.len (Exs.cons (Ex.var 1) Exs.nil)) Exs.nil))))) Exs.nil))) (Sms.cons (Sm.asg 4 (Ex.idx (Ex.tup (Exs.cons (Ex.idx (Ex.var 7) (Ex.dat (D.int 2))) (Exs.cons (Ex.idx (Ex.var 7) (Ex.dat (D.int 2))) (Exs.cons (Ex.bin Bop.add (Ex.dat (D.str [113, 46])) (Ex.idx (Ex.var 7) (Ex.dat (D.int 2)))) (Exs.cons (Ex.var 4) Exs.nil))))) (Ex.call 8 (Exs.cons (Ex.var 0) (Exs.cons (Ex.dat (D.int 9803)) (Exs.cons (Ex.dat (D.int 4)) Exs.nil)))))) (Sms.cons (Sm.asg 6 (Ex.ife (Ex.cmp Cop.eq (Ex.idx (Ex.var 8) (Ex.dat (D.int 4))) (Ex.dat (D.str [47]))) (Ex.dat (D.str [])) (Ex.idx (Ex.var 8) (Ex.dat (D.int 4))))) (Sms.cons (Sm.asg 5 (Ex.idx (Ex.tup (Exs.cons (Ex.idx (Ex.var 8) (Ex.dat (D.int 4))) (Exs.cons (Ex.bin Bop.add (Ex.var 6) (Ex.dat (D.str [47, 113]))) (Exs.cons (Ex.bin Bop.add (Ex.idx (Ex.var 8) (Ex.dat (D.int 4))) (Ex.dat (D.str [113]))) (Exs.cons (Ex.var 5) Exs.nil))))) (Ex.call 8 (Exs.cons (Ex.var 0) (Exs.cons (Ex.dat (D.int 9791)) (Exs.cons (Ex.dat (D.int 4)) Exs.nil)))))) (Sms.cons (Sm.ife (Ex.cmp Cop.isnot (Ex.idx (Ex.var 7) (Ex.dat (D.int 5))) (Ex.dat D.non)) (Sms.cons (Sm.asg 2 (Ex.bi Bi.max2 (Exs.cons (Ex.dat (D.int 0)) (Exs.cons (Ex.bi Bi.min2 (Exs.cons (Ex.dat (D.int 99)) (Exs.cons (Ex.bin Bop.sub (Ex.bin Bop.add (Ex.idx (Ex.var 7) (Ex.dat (D.int 5))) (Ex.call 8 (Exs.cons (Ex.var 0) (Exs.cons (Ex.dat (D.int 9787)) (Exs.cons (Ex.dat (D.int 3)) Exs.nil))))) (Ex.dat (D.int 1))) Exs.nil))) Exs.nil)))) Sms.nil) Sms.nil) Sms.nil))))) Sms.nil) (Sms.cons (Sm.asg 3 (Ex.idx (Ex.tup (Exs.cons (Ex.dat D.non) (Exs.cons (Ex.dat (D.str [113, 46, 113])) (Exs.cons (Ex.var 4) (Exs.cons (Ex.bin Bop.add (Ex.dat (D.str [113, 46])) (Ex.meth Me.join (Ex.dat (D.str [46])) (Exs.cons (Ex.slc (Ex.meth Me.split (Ex.var 4) (Exs.cons (Ex.dat (D.str [46])) Exs.nil)) (Ex.dat (D.int (-2))) (Ex.dat D.non)) Exs.nil))) (Exs.cons (Ex.dat (D.str [97])) Exs.nil)))))) (Ex.call 8 (Exs.cons (Ex.var 0) (Exs.cons (Ex.dat (D.int 9781)) (Exs.cons (Ex.dat (D.int 5)) Exs.nil)))))) (Sms.cons (Sm.ret (Ex.tup (Exs.cons (Ex.var 4) (Exs.cons (Ex.var 5) (Exs.cons (Ex.var 2) (Exs.cons (Ex.cmp Cop.eq (Ex.call 8 (Exs.cons (Ex.var 0) (Exs.cons (Ex.dat (D.int 9769)) (Exs.cons (Ex.dat (D.int 2)) Exs.nil)))) (Ex.dat (D.int 0))) (Exs.cons (Ex.var 3) (Exs.cons (Ex.cmp Cop.eq (Ex.call 8 (Exs.cons (Ex.var 0) (Exs.cons (Ex.dat (D.int 9767)) (Exs.cons (Ex.dat (D.int 2)) Exs.nil)))) (Ex.dat (D.int 0))) Exs.nil)))))))) Sms.nil))))
def fd__law_ask : FD := ⟨2, 9, sm__law_ask⟩
def sm__law_host_fits : Sms := Sms.cons (Sm.ife (Ex.cmp Cop.eq (Ex.var 2) (Ex.idx (Ex.var 1) (Ex.dat (D.int 2)))) (Sms.cons (Sm.ret (Ex.dat (D.bl true))) Sms.nil) Sms.nil) (Sms.cons (Sm.ife (Ex.or (Ex.cmp Cop.eq (Ex.idx (Ex.var 0) (Ex.dat (D.int 1))) (Ex.dat (D.str [110, 101, 118, 101, 114]))) (Ex.and (Ex.cmp Cop.eq (Ex.idx (Ex.var 0) (Ex.dat (D.int 1))) (Ex.dat (D.str [116, 111, 108, 100]))) (Ex.not (Ex.idx (Ex.var 1) (Ex.dat (D.int 3)))))) (Sms.cons (Sm.ret (Ex.dat (D.bl false))) Sms.nil) Sms.nil) (Sms.cons (Sm.par [3, 4] (Exs.cons (Ex.meth Me.split (Ex.var 2) (Exs.cons (Ex.dat (D.str [46])) Exs.nil)) (Exs.cons (Ex.meth Me.split (Ex.idx (Ex.var 1) (Ex.dat (D.int 2))) (Exs.cons (Ex.dat (D.str [46])) Exs.nil)) Exs.nil))) (Sms.cons (Sm.ret (Ex.and (Ex.cmp Cop.gt (Ex.bi Bi.len (Exs.cons (Ex.var 3) Exs.nil)) (Ex.bi Bi.len (Exs.cons (Ex.var 4) Exs.nil))) (Ex.cmp Cop.eq (Ex.slc (Ex.var 3) (Ex.bin Bop.sub (Ex.bi Bi.len (Exs.cons (Ex.var 3) Exs.nil)) (Ex.bi Bi.len (Exs.cons (Ex.var 4) Exs.nil))) (Ex.dat D.non)) (Ex.var 4)))) Sms.nil)))
def fd__law_host_fits : FD := ⟨3, 5, sm__law_host_fits⟩
def sm__law_path_fits : Sms := Sms.cons (Sm.ife (Ex.cmp Cop.eq (Ex.idx (Ex.var 0) (Ex.dat (D.int 0))) (Ex.dat (D.str [115, 105, 103, 110, 115]))) (Sms.cons (Sm.ret (Ex.cmp Cop.eq (Ex.slc (Ex.var 2) (Ex.dat D.non) (Ex.bi Bi.len (Exs.cons (Ex.idx (Ex.var 1) (Ex.dat (D.int 4))) Exs.nil))) (Ex.idx (Ex.var 1) (Ex.dat (D.int 4))))) Sms.nil) Sms.nil) (Sms.cons (Sm.par [3, 4] (Exs.cons (Ex.call 16 (Exs.cons (Ex.var 2) Exs.nil)) (Exs.cons (Ex.call 16 (Exs.cons (Ex.idx (Ex.var 1) (Ex.dat (D.int 4))) Exs.nil)) Exs.nil))) (Sms.cons (Sm.ret (Ex.cmp Cop.eq (Ex.slc (Ex.var 3) (Ex.dat D.non) (Ex.bi Bi.len (Exs.cons (Ex.var 4) Exs.nil))) (Ex.var 4))) Sms.nil))
def fd__law_path_fits : FD := ⟨3, 5, sm__law_path_fits⟩
def sm__law_ended : Sms := Sms.cons (Sm.ife (Ex.cmp Cop.is (Ex.idx (Ex.var 1) (Ex.dat (D.int 5))) (Ex.dat D.non)) (Sms.cons (Sm.ret (Ex.dat (D.bl false))) Sms.nil) Sms.nil) (Sms.cons (Sm.ret (Ex.or (Ex.cmp Cop.gt (Ex.var 2) (Ex.idx (Ex.var 1) (Ex.dat (D.int 5)))) (Ex.and (Ex.cmp Cop.eq (Ex.var 2) (Ex.idx (Ex.var 1) (Ex.dat (D.int 5)))) (Ex.cmp Cop.eq (Ex.idx (Ex.var 0) (Ex.dat (D.int 2))) (Ex.dat (D.str [117, 110, 116, 105, 108])))))) Sms.nil)
def fd__law_ended : FD := ⟨3, 3, sm__law_ended⟩
def sm__law_safe_fits : Sms := Sms.cons (Sm.ret (Ex.or (Ex.idx (Ex.var 2) (Ex.dat (D.int 3))) (Ex.or (Ex.not (Ex.idx (Ex.var 1) (Ex.dat (D.int 6)))) (Ex.cmp Cop.eq (Ex.idx (Ex.var 0) (Ex.dat (D.int 3))) (Ex.dat (D.str [102, 114, 101, 101])))))) Sms.nil
def fd__law_safe_fits : FD := ⟨3, 3, sm__law_safe_fits⟩
def sm__law_side_fits : Sms := Sms.cons (Sm.ife (Ex.or (Ex.cmp Cop.is (Ex.idx (Ex.var 2) (Ex.dat (D.int 4))) (Ex.dat D.non)) (Ex.cmp Cop.eq (Ex.call 15 (Exs.cons (Ex.idx (Ex.var 2) (Ex.dat (D.int 4))) Exs.nil)) (Ex.call 15 (Exs.cons (Ex.idx (Ex.var 2) (Ex.dat (D.int 0))) Exs.nil)))) (Sms.cons (Sm.ret (Ex.dat (D.bl true))) Sms.nil) Sms.nil) (Sms.cons (Sm.ife (Ex.or (Ex.cmp Cop.eq (Ex.idx (Ex.var 0) (Ex.dat (D.int 4))) (Ex.dat (D.str [110, 111, 110, 101]))) (Ex.cmp Cop.eq (Ex.idx (Ex.var 1) (Ex.dat (D.int 7))) (Ex.dat (D.str [97, 110, 121])))) (Sms.cons (Sm.ret (Ex.dat (D.bl true))) Sms.nil) Sms.nil) (Sms.cons (Sm.ret (Ex.and (Ex.idx (Ex.var 2) (Ex.dat (D.int 5))) (Ex.or (Ex.cmp Cop.eq (Ex.idx (Ex.var 1) (Ex.dat (D.int 7))) (Ex.dat (D.str [110, 101, 97, 114]))) (Ex.cmp Cop.eq (Ex.idx (Ex.var 0) (Ex.dat (D.int 4))) (Ex.dat (D.str [108, 111, 111, 115, 101])))))) Sms.nil))
def fd__law_side_fits : FD := ⟨3, 3, sm__law_side_fits⟩
def sm__law_why : Sms := Sms.cons (Sm.ife (Ex.not (Ex.call 26 (Exs.cons (Ex.var 0) (Exs.cons (Ex.var 1) (Exs.cons (Ex.idx (Ex.var 2) (Ex.dat (D.int 0))) Exs.nil))))) (Sms.cons (Sm.ret (Ex.dat (D.str [104, 111, 115, 116]))) Sms.nil) Sms.nil) (Sms.cons (Sm.ife (Ex.not (Ex.call 27 (Exs.cons (Ex.var 0) (Exs.cons (Ex.var 1) (Exs.cons (Ex.idx (Ex.var 2) (Ex.dat (D.int 1))) Exs.nil))))) (Sms.cons (Sm.ret (Ex.dat (D.str [112, 97, 116, 104]))) Sms.nil) Sms.nil) (Sms.cons (Sm.ife (Ex.call 28 (Exs.cons (Ex.var 0) (Exs.cons (Ex.var 1) (Exs.cons (Ex.idx (Ex.var 2) (Ex.dat (D.int 2))) Exs.nil)))) (Sms.cons (Sm.ret (Ex.dat (D.str [101, 110, 100]))) Sms.nil) Sms.nil) (Sms.cons (Sm.ife (Ex.not (Ex.call 29 (Exs.cons (Ex.var 0) (Exs.cons (Ex.var 1) (Exs.cons (Ex.var 2) Exs.nil))))) (Sms.cons (Sm.ret (Ex.dat (D.str [115, 97, 102, 101]))) Sms.nil) Sms.nil) (Sms.cons (Sm.ret (Ex.ife (Ex.call 30 (Exs.cons (Ex.var 0) (Exs.cons (Ex.var 1) (Exs.cons (Ex.var 2) Exs.nil)))) (Ex.dat D.non) (Ex.dat (D.str [115, 105, 100, 101])))) Sms.nil))))
def fd__law_why : FD := ⟨3, 3, sm__law_why⟩
def lb__law_is_narrow_1 : Sms := Sms.cons (Sm.asg 7 (Ex.bin Bop.add (Ex.bin Bop.add (Ex.slc (Ex.var 2) (Ex.dat D.non) (Ex.var 4)) (Ex.tup (Exs.cons (Ex.var 6) Exs.nil))) (Ex.slc (Ex.var 2) (Ex.bin Bop.add (Ex.var 4) (Ex.dat (D.int 1))) (Ex.dat D.non)))) (Sms.cons (Sm.ife (Ex.and (Ex.cmp Cop.eq (Ex.idx (Ex.var 2) (Ex.var 4)) (Ex.var 5)) (Ex.and (Ex.call 23 (Exs.cons (Ex.var 2) (Exs.cons (Ex.var 0) (Exs.cons (Ex.var 1) Exs.nil)))) (Ex.not (Ex.call 23 (Exs.cons (Ex.var 7) (Exs.cons (Ex.var 0) (Exs.cons (Ex.var 1) Exs.nil))))))) (Sms.cons (Sm.ret (Ex.dat (D.bl false))) Sms.nil) Sms.nil) Sms.nil)
def sm__law_is_narrow : Sms := Sms.cons (Sm.asg 3 (Ex.tup (Exs.cons (Ex.tup (Exs.cons (Ex.dat (D.int 0)) (Exs.cons (Ex.dat (D.str [115, 116, 101, 112, 115])) (Exs.cons (Ex.dat (D.str [115, 105, 103, 110, 115])) Exs.nil)))) (Exs.cons (Ex.tup (Exs.cons (Ex.dat (D.int 3)) (Exs.cons (Ex.dat (D.str [109, 117, 115, 116])) (Exs.cons (Ex.dat (D.str [102, 114, 101, 101])) Exs.nil)))) (Exs.cons (Ex.tup (Exs.cons (Ex.dat (D.int 2)) (Exs.cons (Ex.dat (D.str [117, 110, 116, 105, 108])) (Exs.cons (Ex.dat (D.str [119, 105, 116, 104])) Exs.nil)))) Exs.nil))))) (Sms.cons (Sm.asg 3 (Ex.bin Bop.add (Ex.var 3) (Ex.tup (Exs.cons (Ex.tup (Exs.cons (Ex.dat (D.int 1)) (Exs.cons (Ex.dat (D.str [110, 101, 118, 101, 114])) (Exs.cons (Ex.dat (D.str [116, 111, 108, 100])) Exs.nil)))) (Exs.cons (Ex.tup (Exs.cons (Ex.dat (D.int 1)) (Exs.cons (Ex.dat (D.str [116, 111, 108, 100])) (Exs.cons (Ex.dat (D.str [97, 108, 119, 97, 121, 115])) Exs.nil)))) Exs.nil))))) (Sms.cons (Sm.loop (Tg.many [4, 5, 6]) (It.of (Ex.bin Bop.add (Ex.var 3) (Ex.tup (Exs.cons (Ex.tup (Exs.cons (Ex.dat (D.int 4)) (Exs.cons (Ex.dat (D.str [107, 101, 101, 112])) (Exs.cons (Ex.dat (D.str [108, 111, 111, 115, 101])) Exs.nil)))) (Exs.cons (Ex.tup (Exs.cons (Ex.dat (D.int 4)) (Exs.cons (Ex.dat (D.str [108, 111, 111, 115, 101])) (Exs.cons (Ex.dat (D.str [110, 111, 110, 101])) Exs.nil)))) Exs.nil))))) lb__law_is_narrow_1 false) (Sms.cons (Sm.ret (Ex.dat (D.bl true))) Sms.nil)))
def fd__law_is_narrow : FD := ⟨3, 8, sm__law_is_narrow⟩
def ce__law_once_1 : Ex := Ex.call 19 (Exs.cons (Ex.var 6) (Exs.cons (Ex.var 3) (Exs.cons (Ex.var 12) Exs.nil)))
def lb__law_once_1 : Sms := Sms.cons (Sm.asg 6 (Ex.idx (Ex.var 1) (Ex.var 5))) (Sms.cons (Sm.asg 7 (Ex.and (Ex.call 17 (Exs.cons (Ex.var 6) (Exs.cons (Ex.var 3) (Exs.cons (Ex.idx (Ex.var 4) (Ex.dat (D.int 0))) Exs.nil)))) (Ex.call 18 (Exs.cons (Ex.var 6) (Exs.cons (Ex.var 3) (Exs.cons (Ex.idx (Ex.var 4) (Ex.dat (D.int 1))) Exs.nil)))))) (Sms.cons (Sm.asg 7 (Ex.and (Ex.var 7) (Ex.not (Ex.call 19 (Exs.cons (Ex.var 6) (Exs.cons (Ex.var 3) (Exs.cons (Ex.idx (Ex.var 4) (Ex.dat (D.int 2))) Exs.nil))))))) (Sms.cons (Sm.asg 7 (Ex.and (Ex.var 7) (Ex.and (Ex.call 20 (Exs.cons (Ex.var 6) (Exs.cons (Ex.var 3) (Exs.cons (Ex.var 4) Exs.nil)))) (Ex.call 21 (Exs.cons (Ex.var 6) (Exs.cons (Ex.var 3) (Exs.cons (Ex.var 4) Exs.nil))))))) (Sms.cons (Sm.ife (Ex.or (Ex.cmp Cop.ne (Ex.call 23 (Exs.cons (Ex.var 6) (Exs.cons (Ex.var 3) (Exs.cons (Ex.var 4) Exs.nil)))) (Ex.var 7)) (Ex.cmp Cop.ne (Ex.cmp Cop.is (Ex.call 22 (Exs.cons (Ex.var 6) (Exs.cons (Ex.var 3) (Exs.cons (Ex.var 4) Exs.nil)))) (Ex.dat D.non)) (Ex.var 7))) (Sms.cons (Sm.ret (Ex.dat (D.bl false))) Sms.nil) Sms.nil) (Sms.cons (Sm.ife (Ex.not (Ex.call 32 (Exs.cons (Ex.var 3) (Exs.cons (Ex.var 4) (Exs.cons (Ex.var 6) Exs.nil))))) (Sms.cons (Sm.ret (Ex.dat (D.bl false))) Sms.nil) Sms.nil) (Sms.cons (Sm.asg 8 (Ex.tup (Exs.cons (Ex.idx (Ex.var 3) (Ex.dat (D.int 2))) (Exs.cons (Ex.idx (Ex.var 3) (Ex.dat (D.int 4))) (Exs.cons (Ex.idx (Ex.var 4) (Ex.dat (D.int 2))) (Exs.cons (Ex.dat (D.bl true)) (Exs.cons (Ex.dat D.non) (Exs.cons (Ex.idx (Ex.var 4) (Ex.dat (D.int 5))) Exs.nil)))))))) (Sms.cons (Sm.ife (Ex.and (Ex.var 7) (Ex.not (Ex.call 23 (Exs.cons (Ex.var 6) (Exs.cons (Ex.var 3) (Exs.cons (Ex.var 8) Exs.nil)))))) (Sms.cons (Sm.ret (Ex.dat (D.bl false))) Sms.nil) Sms.nil) (Sms.cons (Sm.ife (Ex.and (Ex.var 7) (Ex.not (Ex.call 23 (Exs.cons (Ex.var 6) (Exs.cons (Ex.var 3) (Exs.cons (Ex.bin Bop.add (Ex.slc (Ex.var 4) (Ex.dat D.non) (Ex.dat (D.int 3))) (Ex.tup (Exs.cons (Ex.dat (D.bl true)) (Exs.cons (Ex.dat D.non) (Exs.cons (Ex.idx (Ex.var 4) (Ex.dat (D.int 5))) Exs.nil))))) Exs.nil)))))) (Sms.cons (Sm.ret (Ex.dat (D.bl false))) Sms.nil) Sms.nil) (Sms.cons (Sm.asg 9 (Ex.comp ce__law_once_1 (Tg.one 12) (It.range1 (Ex.dat (D.int 100))) (Ex.dat (D.bl true)))) (Sms.cons (Sm.ife (Ex.cmp Cop.ne (Ex.var 9) (Ex.bi Bi.sorted (Exs.cons (Ex.var 9) Exs.nil))) (Sms.cons (Sm.ret (Ex.dat (D.bl false))) Sms.nil) Sms.nil) (Sms.cons (Sm.asg 10 (Ex.bin Bop.add (Ex.slc (Ex.var 3) (Ex.dat D.non) (Ex.dat (D.int 5))) (Ex.tup (Exs.cons (Ex.dat D.non) (Exs.cons (Ex.dat (D.bl false)) (Exs.cons (Ex.dat (D.str [97, 110, 121])) Exs.nil)))))) (Sms.cons (Sm.ife (Ex.not (Ex.call 23 (Exs.cons (Ex.var 6) (Exs.cons (Ex.var 10) (Exs.cons (Ex.bin Bop.add (Ex.tup (Exs.cons (Ex.idx (Ex.var 3) (Ex.dat (D.int 2))) (Exs.cons (Ex.idx (Ex.var 3) (Ex.dat (D.int 4))) Exs.nil))) (Ex.slc (Ex.var 4) (Ex.dat (D.int 2)) (Ex.dat D.non))) Exs.nil))))) (Sms.cons (Sm.ret (Ex.dat (D.bl false))) Sms.nil) Sms.nil) (Sms.cons (Sm.ife (Ex.and (Ex.call 23 (Exs.cons (Ex.var 6) (Exs.cons (Ex.var 3) (Exs.cons (Ex.var 4) Exs.nil)))) (Ex.not (Ex.call 23 (Exs.cons (Ex.var 6) (Exs.cons (Ex.var 10) (Exs.cons (Ex.var 4) Exs.nil)))))) (Sms.cons (Sm.ret (Ex.dat (D.bl false))) Sms.nil) Sms.nil) (Sms.cons (Sm.asg 11 (Ex.bin Bop.add (Ex.slc (Ex.var 6) (Ex.dat D.non) (Ex.dat (D.int 5))) (Ex.tup (Exs.cons (Ex.dat (D.str [111, 108, 100])) Exs.nil)))) (Sms.cons (Sm.ife (Ex.cmp Cop.ne (Ex.call 22 (Exs.cons (Ex.var 11) (Exs.cons (Ex.var 3) (Exs.cons (Ex.var 4) Exs.nil)))) (Ex.call 22 (Exs.cons (Ex.var 6) (Exs.cons (Ex.var 3) (Exs.cons (Ex.var 4) Exs.nil))))) (Sms.cons (Sm.ret (Ex.dat (D.bl false))) Sms.nil) Sms.nil) Sms.nil)))))))))))))))
def lb__law_once_2 : Sms := Sms.cons (Sm.asg 3 (Ex.call 12 (Exs.cons (Ex.bin Bop.add (Ex.call 7 (Exs.cons (Ex.var 0) (Exs.cons (Ex.bin Bop.mod (Ex.var 2) (Ex.dat (D.int 9))) Exs.nil))) (Ex.bin Bop.mul (Ex.dat (D.int 31)) (Ex.var 2))) Exs.nil))) (Sms.cons (Sm.asg 4 (Ex.call 25 (Exs.cons (Ex.bin Bop.add (Ex.call 7 (Exs.cons (Ex.var 0) (Exs.cons (Ex.dat (D.int 9)) Exs.nil))) (Ex.bin Bop.mul (Ex.dat (D.int 7)) (Ex.var 2))) (Exs.cons (Ex.tup (Exs.cons (Ex.var 3) Exs.nil)) Exs.nil)))) (Sms.cons (Sm.loop (Tg.one 5) (It.range3 (Ex.dat (D.int 0)) (Ex.dat (D.int 216)) (Ex.bin Bop.add (Ex.dat (D.int 1)) (Ex.call 8 (Exs.cons (Ex.bin Bop.add (Ex.call 7 (Exs.cons (Ex.var 0) (Exs.cons (Ex.dat (D.int 8)) Exs.nil))) (Ex.var 2)) (Exs.cons (Ex.dat (D.int 9743)) (Exs.cons (Ex.dat (D.int 9)) Exs.nil)))))) lb__law_once_1 true) Sms.nil))
def sm__law_once : Sms := Sms.cons (Sm.asg 1 (Ex.call 4 Exs.nil)) (Sms.cons (Sm.loop (Tg.one 2) (It.range1 (Ex.dat (D.int 14))) lb__law_once_2 false) (Sms.cons (Sm.ret (Ex.dat (D.bl true))) Sms.nil))
def fd__law_once : FD := ⟨1, 13, sm__law_once⟩
def sm_place : Sms := Sms.cons (Sm.ife (Ex.cmp Cop.eq (Ex.idx (Ex.var 0) (Ex.dat (D.int 5))) (Ex.dat (D.str [108, 111, 110, 103]))) (Sms.cons (Sm.ret (Ex.tup (Exs.cons (Ex.bin Bop.sub (Ex.dat (D.int 0)) (Ex.bi Bi.len (Exs.cons (Ex.idx (Ex.var 1) (Ex.dat (D.int 4))) Exs.nil))) (Exs.cons (Ex.dat (D.str [])) Exs.nil)))) Sms.nil) Sms.nil) (Sms.cons (Sm.ife (Ex.cmp Cop.eq (Ex.idx (Ex.var 0) (Ex.dat (D.int 5))) (Ex.dat (D.str [110, 97, 109, 101, 115]))) (Sms.cons (Sm.ret (Ex.tup (Exs.cons (Ex.dat (D.int 0)) (Exs.cons (Ex.idx (Ex.var 1) (Ex.dat (D.int 0))) Exs.nil)))) Sms.nil) Sms.nil) (Sms.cons (Sm.ret (Ex.tup (Exs.cons (Ex.dat (D.int 0)) (Exs.cons (Ex.dat (D.str [])) Exs.nil)))) Sms.nil))
def fd_place : FD := ⟨2, 2, sm_place⟩
def ce_sent_1 : Ex := Ex.var 4
def ce_sent_2 : Ex := Ex.slc (Ex.var 4) (Ex.dat D.non) (Ex.dat (D.int 2))
def sm_sent : Sms := Sms.cons (Sm.asg 3 (Ex.comp ce_sent_1 (Tg.one 4) (It.of (Ex.var 1)) (Ex.call 23 (Exs.cons (Ex.var 0) (Exs.cons (Ex.var 4) (Exs.cons (Ex.var 2) Exs.nil)))))) (Sms.cons (Sm.ret (Ex.bi Bi.tuple (Exs.cons (Ex.comp ce_sent_2 (Tg.one 4) (It.of (Ex.sortl (Ex.var 3) 4 (Ex.call 34 (Exs.cons (Ex.var 0) (Exs.cons (Ex.var 4) Exs.nil))))) (Ex.dat (D.bl true))) Exs.nil))) Sms.nil)
def fd_sent : FD := ⟨3, 5, sm_sent⟩
def ce_reasons_1 : Ex := Ex.call 22 (Exs.cons (Ex.var 0) (Exs.cons (Ex.var 3) (Exs.cons (Ex.var 2) Exs.nil)))
def sm_reasons : Sms := Sms.cons (Sm.ret (Ex.bi Bi.tuple (Exs.cons (Ex.comp ce_reasons_1 (Tg.one 3) (It.of (Ex.var 1)) (Ex.dat (D.bl true))) Exs.nil))) Sms.nil
def fd_reasons : FD := ⟨3, 4, sm_reasons⟩
def ce_head_of_1 : Ex := Ex.bin Bop.add (Ex.bin Bop.add (Ex.var 1) (Ex.dat (D.str [61]))) (Ex.var 2)
def sm_head_of : Sms := Sms.cons (Sm.ret (Ex.meth Me.join (Ex.dat (D.str [59, 32])) (Exs.cons (Ex.comp ce_head_of_1 (Tg.many [1, 2]) (It.of (Ex.var 0)) (Ex.dat (D.bl true))) Exs.nil))) Sms.nil
def fd_head_of : FD := ⟨1, 3, sm_head_of⟩
def sm_head : Sms := Sms.cons (Sm.ret (Ex.call 37 (Exs.cons (Ex.call 35 (Exs.cons (Ex.var 0) (Exs.cons (Ex.var 1) (Exs.cons (Ex.var 2) Exs.nil)))) Exs.nil))) Sms.nil
def fd_head : FD := ⟨3, 3, sm_head⟩
def lb_named_1 : Sms := Sms.cons (Sm.ife (Ex.cmp Cop.eq (Ex.var 4) (Ex.var 3)) (Sms.cons (Sm.ret (Ex.var 5)) Sms.nil) Sms.nil) Sms.nil
def sm_named : Sms := Sms.cons (Sm.loop (Tg.many [4, 5]) (It.of (Ex.call 35 (Exs.cons (Ex.var 0) (Exs.cons (Ex.var 1) (Exs.cons (Ex.var 2) Exs.nil))))) lb_named_1 false) (Sms.cons (Sm.raise 2) Sms.nil)
def fd_named : FD := ⟨4, 6, sm_named⟩
def ce__law_sent_1 : Ex := Ex.tup (Exs.cons (Ex.var 5) (Exs.cons (Ex.var 4) Exs.nil))
def ce__law_sent_2 : Ex := Ex.tup (Exs.cons (Ex.idx (Ex.var 5) (Ex.dat (D.int 0))) (Exs.cons (Ex.idx (Ex.var 5) (Ex.dat (D.int 1))) Exs.nil))
def sm__law_sent : Sms := Sms.cons (Sm.asg 3 (Ex.comp ce__law_sent_1 (Tg.many [4, 5]) (It.enum (Ex.var 1)) (Ex.cmp Cop.is (Ex.call 31 (Exs.cons (Ex.var 0) (Exs.cons (Ex.var 5) (Exs.cons (Ex.var 2) Exs.nil)))) (Ex.dat D.non)))) (Sms.cons (Sm.ife (Ex.cmp Cop.eq (Ex.idx (Ex.var 0) (Ex.dat (D.int 5))) (Ex.dat (D.str [108, 111, 110, 103]))) (Sms.cons (Sm.asg 3 (Ex.sortl (Ex.var 3) 6 (Ex.tup (Exs.cons (Ex.bin Bop.sub (Ex.dat (D.int 0)) (Ex.bi Bi.len (Exs.cons (Ex.idx (Ex.idx (Ex.var 6) (Ex.dat (D.int 0))) (Ex.dat (D.int 4))) Exs.nil))) (Exs.cons (Ex.idx (Ex.var 6) (Ex.dat (D.int 1))) Exs.nil))))) Sms.nil) Sms.nil) (Sms.cons (Sm.ife (Ex.cmp Cop.eq (Ex.idx (Ex.var 0) (Ex.dat (D.int 5))) (Ex.dat (D.str [110, 97, 109, 101, 115]))) (Sms.cons (Sm.asg 3 (Ex.sortl (Ex.var 3) 6 (Ex.tup (Exs.cons (Ex.idx (Ex.idx (Ex.var 6) (Ex.dat (D.int 0))) (Ex.dat (D.int 0))) (Exs.cons (Ex.idx (Ex.var 6) (Ex.dat (D.int 1))) Exs.nil))))) Sms.nil) Sms.nil) (Sms.cons (Sm.ret (Ex.bi Bi.tuple (Exs.cons (Ex.comp ce__law_sent_2 (Tg.many [5, 4]) (It.of (Ex.var 3)) (Ex.dat (D.bl true))) Exs.nil))) Sms.nil)))
def fd__law_sent : FD := ⟨3, 7, sm__law_sent⟩
def sm__law_word : Sms := Sms.cons (Sm.asg 1 (Ex.lst (Exs.cons (Ex.isx 2) (Exs.cons (Ex.isx 3) Exs.nil)))) (Sms.cons (Sm.asg 1 (Ex.bin Bop.add (Ex.var 1) (Ex.lst (Exs.cons (Ex.isx 4) (Exs.cons (Ex.isx 5) Exs.nil))))) (Sms.cons (Sm.asg 1 (Ex.bin Bop.add (Ex.var 1) (Ex.lst (Exs.cons (Ex.isx 6) (Exs.cons (Ex.isx 7) Exs.nil))))) (Sms.cons (Sm.ife (Ex.or (Ex.cmp Cop.ne (Ex.meth Me.lcount (Ex.var 1) (Exs.cons (Ex.dat (D.bl true)) Exs.nil)) (Ex.dat (D.int 1))) (Ex.not (Ex.isx 0))) (Sms.cons (Sm.ret (Ex.dat (D.str [119, 114, 111, 110, 103]))) Sms.nil) Sms.nil) (Sms.cons (Sm.ret (Ex.idx (Ex.tup (Exs.cons (Ex.dat (D.str [110, 111, 32, 110, 111, 116, 101])) (Exs.cons (Ex.dat (D.str [102, 117, 108, 108])) (Exs.cons (Ex.dat (D.str [110, 111, 32, 114, 117, 108, 101, 115])) (Exs.cons (Ex.dat (D.str [110, 111, 116, 32, 116, 104, 101, 105, 114, 115])) (Exs.cons (Ex.dat (D.str [110, 111, 32, 100, 101, 101, 100])) (Exs.cons (Ex.dat (D.str [110, 111, 32, 116, 101, 120, 116])) Exs.nil))))))) (Ex.meth Me.index (Ex.var 1) (Exs.cons (Ex.dat (D.bl true)) Exs.nil)))) Sms.nil))))
def fd__law_word : FD := ⟨1, 2, sm__law_word⟩
def sm__law_said : Sms := Sms.cons (Sm.tryAs (Sms.cons (Sm.ret (Ex.call 39 (Exs.cons (Ex.var 0) (Exs.cons (Ex.var 1) (Exs.cons (Ex.var 2) (Exs.cons (Ex.var 3) Exs.nil)))))) Sms.nil) 1 4 (Sms.cons (Sm.ret (Ex.callx 41)) Sms.nil)) Sms.nil
def fd__law_said : FD := ⟨4, 5, sm__law_said⟩
def sm_mark : Sms := Sms.cons (Sm.ret (Ex.tup (Exs.cons (Ex.idx (Ex.var 0) (Ex.dat (D.int 0))) (Exs.cons (Ex.idx (Ex.var 0) (Ex.dat (D.int 2))) (Exs.cons (Ex.idx (Ex.var 0) (Ex.dat (D.int 4))) Exs.nil))))) Sms.nil
def fd_mark : FD := ⟨1, 1, sm_mark⟩
def ce_put_1 : Ex := Ex.call 43 (Exs.cons (Ex.var 4) Exs.nil)
def sm_put : Sms := Sms.cons (Sm.asg 2 (Ex.comp ce_put_1 (Tg.one 4) (It.of (Ex.var 0)) (Ex.dat (D.bl true)))) (Sms.cons (Sm.ife (Ex.cmp Cop.isin (Ex.call 43 (Exs.cons (Ex.var 1) Exs.nil)) (Ex.var 2)) (Sms.cons (Sm.asg 3 (Ex.meth Me.index (Ex.var 2) (Exs.cons (Ex.call 43 (Exs.cons (Ex.var 1) Exs.nil)) Exs.nil))) (Sms.cons (Sm.ret (Ex.bin Bop.add (Ex.bin Bop.add (Ex.slc (Ex.var 0) (Ex.dat D.non) (Ex.var 3)) (Ex.tup (Exs.cons (Ex.var 1) Exs.nil))) (Ex.slc (Ex.var 0) (Ex.bin Bop.add (Ex.var 3) (Ex.dat (D.int 1))) (Ex.dat D.non)))) Sms.nil)) Sms.nil) (Sms.cons (Sm.ife (Ex.cmp Cop.eq (Ex.bi Bi.len (Exs.cons (Ex.var 0) Exs.nil)) (Ex.dat (D.int 6))) (Sms.cons (Sm.raise 3) Sms.nil) Sms.nil) (Sms.cons (Sm.ret (Ex.bin Bop.add (Ex.var 0) (Ex.tup (Exs.cons (Ex.var 1) Exs.nil)))) Sms.nil)))
def fd_put : FD := ⟨2, 5, sm_put⟩
def ce_without_1 : Ex := Ex.var 2
def sm_without : Sms := Sms.cons (Sm.ret (Ex.bi Bi.tuple (Exs.cons (Ex.comp ce_without_1 (Tg.one 2) (It.of (Ex.var 0)) (Ex.cmp Cop.ne (Ex.call 43 (Exs.cons (Ex.var 2) Exs.nil)) (Ex.var 1))) Exs.nil))) Sms.nil
def fd_without : FD := ⟨2, 3, sm_without⟩
def sm_dropped : Sms := Sms.cons (Sm.asg 4 (Ex.call 45 (Exs.cons (Ex.var 0) (Exs.cons (Ex.tup (Exs.cons (Ex.var 1) (Exs.cons (Ex.var 2) (Exs.cons (Ex.var 3) Exs.nil)))) Exs.nil)))) (Sms.cons (Sm.ife (Ex.cmp Cop.eq (Ex.bi Bi.len (Exs.cons (Ex.var 4) Exs.nil)) (Ex.bi Bi.len (Exs.cons (Ex.var 0) Exs.nil))) (Sms.cons (Sm.raise 2) Sms.nil) Sms.nil) (Sms.cons (Sm.ret (Ex.var 4)) Sms.nil))
def fd_dropped : FD := ⟨4, 5, sm_dropped⟩
def ce_fresh_1 : Ex := Ex.var 3
def sm_fresh : Sms := Sms.cons (Sm.ret (Ex.bi Bi.tuple (Exs.cons (Ex.comp ce_fresh_1 (Tg.one 3) (It.of (Ex.var 1)) (Ex.not (Ex.call 19 (Exs.cons (Ex.var 0) (Exs.cons (Ex.var 3) (Exs.cons (Ex.var 2) Exs.nil)))))) Exs.nil))) Sms.nil
def fd_fresh : FD := ⟨3, 4, sm_fresh⟩
def sm__law_said__v1 : Sms := Sms.cons (Sm.tryAs (Sms.cons (Sm.ret (Ex.ife (Ex.cmp Cop.eq (Ex.var 0) (Ex.dat (D.int 0))) (Ex.call 44 (Exs.cons (Ex.var 1) (Exs.cons (Ex.var 2) Exs.nil))) (Ex.call 46 (Exs.cons (Ex.var 1) (Exs.cons (Ex.idx (Ex.var 2) (Ex.dat (D.int 0))) (Exs.cons (Ex.idx (Ex.var 2) (Ex.dat (D.int 2))) (Exs.cons (Ex.idx (Ex.var 2) (Ex.dat (D.int 4))) Exs.nil))))))) Sms.nil) 1 3 (Sms.cons (Sm.ret (Ex.callx 41)) Sms.nil)) Sms.nil
def fd__law_said__v1 : FD := ⟨3, 4, sm__law_said__v1⟩
def ce__law_put_1 : Ex := Ex.call 13 (Exs.cons (Ex.var 4) Exs.nil)
def sm__law_put : Sms := Sms.cons (Sm.asg 2 (Ex.comp ce__law_put_1 (Tg.one 4) (It.of (Ex.var 0)) (Ex.dat (D.bl true)))) (Sms.cons (Sm.ife (Ex.cmp Cop.isin (Ex.call 13 (Exs.cons (Ex.var 1) Exs.nil)) (Ex.var 2)) (Sms.cons (Sm.asg 3 (Ex.meth Me.index (Ex.var 2) (Exs.cons (Ex.call 13 (Exs.cons (Ex.var 1) Exs.nil)) Exs.nil))) (Sms.cons (Sm.ret (Ex.bin Bop.add (Ex.bin Bop.add (Ex.slc (Ex.var 0) (Ex.dat D.non) (Ex.var 3)) (Ex.tup (Exs.cons (Ex.var 1) Exs.nil))) (Ex.slc (Ex.var 0) (Ex.bin Bop.add (Ex.var 3) (Ex.dat (D.int 1))) (Ex.dat D.non)))) Sms.nil)) Sms.nil) (Sms.cons (Sm.ret (Ex.ife (Ex.cmp Cop.gt (Ex.bi Bi.len (Exs.cons (Ex.var 0) Exs.nil)) (Ex.dat (D.int 5))) (Ex.dat (D.str [102, 117, 108, 108])) (Ex.bin Bop.add (Ex.var 0) (Ex.tup (Exs.cons (Ex.var 1) Exs.nil))))) Sms.nil))
def fd__law_put : FD := ⟨2, 5, sm__law_put⟩
def sm__law_take : Sms := Sms.cons (Sm.tryAs (Sms.cons (Sm.ret (Ex.mcall [0] 2 (Ex.var 0) (Exs.cons (Ex.var 1) (Exs.cons (Ex.var 2) Exs.nil)))) Sms.nil) 1 3 (Sms.cons (Sm.ret (Ex.callx 41)) Sms.nil)) Sms.nil
def fd__law_take : FD := ⟨3, 4, sm__law_take⟩
def ce__law_is_first_1 : Ex := Ex.call 22 (Exs.cons (Ex.var 0) (Exs.cons (Ex.var 1) (Exs.cons (Ex.var 3) Exs.nil)))
def ce__law_is_first_2 : Ex := Ex.call 31 (Exs.cons (Ex.var 0) (Exs.cons (Ex.var 1) (Exs.cons (Ex.var 3) Exs.nil)))
def ce__law_is_first_3 : Ex := Ex.call 22 (Exs.cons (Ex.var 0) (Exs.cons (Ex.var 1) (Exs.cons (Ex.var 3) Exs.nil)))
def sm__law_is_first : Sms := Sms.cons (Sm.asg 1 (Ex.tup (Exs.cons (Ex.dat (D.str [110])) (Exs.cons (Ex.dat (D.str [])) (Exs.cons (Ex.dat (D.str [97, 46, 98])) (Exs.cons (Ex.dat (D.bl false)) (Exs.cons (Ex.dat (D.str [47, 97])) (Exs.cons (Ex.dat (D.int 5)) (Exs.cons (Ex.dat (D.bl true)) (Exs.cons (Ex.dat (D.str [111, 119, 110])) Exs.nil)))))))))) (Sms.cons (Sm.asg 2 (Ex.lst (Exs.cons (Ex.tup (Exs.cons (Ex.dat (D.str [99, 46, 99])) (Exs.cons (Ex.dat (D.str [47, 98])) (Exs.cons (Ex.dat (D.int 9)) (Exs.cons (Ex.dat (D.bl false)) (Exs.cons (Ex.dat (D.str [113, 46, 113])) (Exs.cons (Ex.dat (D.bl false)) Exs.nil))))))) (Exs.cons (Ex.tup (Exs.cons (Ex.dat (D.str [97, 46, 98])) (Exs.cons (Ex.dat (D.str [47, 98])) (Exs.cons (Ex.dat (D.int 9)) (Exs.cons (Ex.dat (D.bl false)) (Exs.cons (Ex.dat (D.str [113, 46, 113])) (Exs.cons (Ex.dat (D.bl false)) Exs.nil))))))) Exs.nil)))) (Sms.cons (Sm.asg 2 (Ex.bin Bop.add (Ex.var 2) (Ex.lst (Exs.cons (Ex.tup (Exs.cons (Ex.dat (D.str [97, 46, 98])) (Exs.cons (Ex.dat (D.str [47, 97])) (Exs.cons (Ex.dat (D.int 9)) (Exs.cons (Ex.dat (D.bl false)) (Exs.cons (Ex.dat (D.str [113, 46, 113])) (Exs.cons (Ex.dat (D.bl false)) Exs.nil))))))) Exs.nil)))) (Sms.cons (Sm.asg 2 (Ex.bin Bop.add (Ex.var 2) (Ex.lst (Exs.cons (Ex.tup (Exs.cons (Ex.dat (D.str [97, 46, 98])) (Exs.cons (Ex.dat (D.str [47, 97])) (Exs.cons (Ex.dat (D.int 3)) (Exs.cons (Ex.dat (D.bl false)) (Exs.cons (Ex.dat (D.str [113, 46, 113])) (Exs.cons (Ex.dat (D.bl false)) Exs.nil))))))) (Exs.cons (Ex.tup (Exs.cons (Ex.dat (D.str [97, 46, 98])) (Exs.cons (Ex.dat (D.str [47, 97])) (Exs.cons (Ex.dat (D.int 3)) (Exs.cons (Ex.dat (D.bl true)) (Exs.cons (Ex.dat (D.str [113, 46, 113])) (Exs.cons (Ex.dat (D.bl false)) Exs.nil))))))) Exs.nil))))) (Sms.cons (Sm.asg 2 (Ex.bin Bop.add (Ex.var 2) (Ex.lst (Exs.cons (Ex.tup (Exs.cons (Ex.dat (D.str [97, 46, 98])) (Exs.cons (Ex.dat (D.str [47, 97])) (Exs.cons (Ex.dat (D.int 3)) (Exs.cons (Ex.dat (D.bl true)) (Exs.cons (Ex.dat (D.str [97, 46, 98])) (Exs.cons (Ex.dat (D.bl false)) Exs.nil))))))) Exs.nil)))) (Sms.cons (Sm.ife (Ex.cmp Cop.ne (Ex.comp ce__law_is_first_1 (Tg.one 3) (It.of (Ex.var 2)) (Ex.dat (D.bl true))) (Ex.comp ce__law_is_first_2 (Tg.one 3) (It.of (Ex.var 2)) (Ex.dat (D.bl true)))) (Sms.cons (Sm.ret (Ex.dat (D.bl false))) Sms.nil) Sms.nil) (Sms.cons (Sm.ife (Ex.cmp Cop.ne (Ex.comp ce__law_is_first_3 (Tg.one 3) (It.of (Ex.slc (Ex.var 2) (Ex.dat D.non) (Ex.dat (D.int 3)))) (Ex.dat (D.bl true))) (Ex.lst (Exs.cons (Ex.dat (D.str [104, 111, 115, 116])) (Exs.cons (Ex.dat (D.str [112, 97, 116, 104])) (Exs.cons (Ex.dat (D.str [101, 110, 100])) Exs.nil))))) (Sms.cons (Sm.ret (Ex.dat (D.bl false))) Sms.nil) Sms.nil) (Sms.cons (Sm.ret (Ex.dat (D.bl true))) Sms.nil)))))))
def fd__law_is_first : FD := ⟨1, 4, sm__law_is_first⟩
def sm_do : Sms := Sms.cons (Sm.ife (Ex.cmp Cop.eq (Ex.idx (Ex.var 1) (Ex.dat (D.int 0))) (Ex.dat (D.str [97, 115, 107]))) (Sms.cons (Sm.ret (Ex.mcall [0] 3 (Ex.var 0) (Exs.cons (Ex.idx (Ex.var 1) (Ex.dat (D.int 1))) (Exs.cons (Ex.idx (Ex.var 1) (Ex.dat (D.int 2))) (Exs.cons (Ex.idx (Ex.var 1) (Ex.dat (D.int 3))) (Exs.cons (Ex.idx (Ex.var 1) (Ex.dat (D.int 4))) (Exs.cons (Ex.idx (Ex.var 1) (Ex.dat (D.int 5))) Exs.nil))))))) Sms.nil) Sms.nil) (Sms.cons (Sm.ife (Ex.cmp Cop.eq (Ex.idx (Ex.var 1) (Ex.dat (D.int 0))) (Ex.dat (D.str [112, 97, 115, 115, 95, 111, 110]))) (Sms.cons (Sm.expr (Ex.mcall [0] 4 (Ex.var 0) (Exs.cons (Ex.idx (Ex.var 1) (Ex.dat (D.int 1))) Exs.nil))) (Sms.cons (Sm.ret (Ex.dat D.non)) Sms.nil)) Sms.nil) (Sms.cons (Sm.asg 2 (Ex.dat (D.str [107, 101, 112, 116]))) (Sms.cons (Sm.tryMany (Sms.cons (Sm.expr (Ex.mcall [0] 2 (Ex.var 0) (Exs.cons (Ex.idx (Ex.var 1) (Ex.dat (D.int 1))) (Exs.cons (Ex.idx (Ex.var 1) (Ex.dat (D.int 2))) Exs.nil)))) Sms.nil) (Hds.cons 5 (Sms.cons (Sm.asg 2 (Ex.dat (D.str [110, 111, 116, 32, 116, 104, 101, 105, 114, 115]))) Sms.nil) (Hds.cons 3 (Sms.cons (Sm.asg 2 (Ex.dat (D.str [102, 117, 108, 108]))) Sms.nil) Hds.nil))) (Sms.cons (Sm.ret (Ex.var 2)) Sms.nil))))
def fd_do : FD := ⟨2, 3, sm_do⟩
def ce_run_1 : Ex := Ex.call 53 (Exs.cons (Ex.var 2) (Exs.cons (Ex.var 3) Exs.nil))
def sm_run : Sms := Sms.cons (Sm.asg 2 (Ex.make 0 (Exs.cons (Ex.var 0) Exs.nil))) (Sms.cons (Sm.ret (Ex.bi Bi.tuple (Exs.cons (Ex.comp ce_run_1 (Tg.one 3) (It.of (Ex.var 1)) (Ex.dat (D.bl true))) Exs.nil))) Sms.nil)
def fd_run : FD := ⟨2, 4, sm_run⟩
def lb_parts_at_1 : Sms := Sms.cons (Sm.ife (Ex.cmp Cop.ne (Ex.idx (Ex.var 4) (Ex.var 3)) (Ex.idx (Ex.var 5) (Ex.var 3))) (Sms.cons (Sm.ret (Ex.var 3)) Sms.nil) Sms.nil) Sms.nil
def sm_parts_at : Sms := Sms.cons (Sm.par [4, 5] (Exs.cons (Ex.call 54 (Exs.cons (Ex.var 0) (Exs.cons (Ex.var 2) Exs.nil))) (Exs.cons (Ex.call 54 (Exs.cons (Ex.var 1) (Exs.cons (Ex.var 2) Exs.nil))) Exs.nil))) (Sms.cons (Sm.loop (Tg.one 3) (It.range1 (Ex.bi Bi.len (Exs.cons (Ex.var 2) Exs.nil))) lb_parts_at_1 false) (Sms.cons (Sm.ret (Ex.dat D.non)) Sms.nil))
def fd_parts_at : FD := ⟨3, 6, sm_parts_at⟩
def sm__law_row_deed : Sms := Sms.cons (Sm.asg 2 (Ex.call 8 (Exs.cons (Ex.var 0) (Exs.cons (Ex.dat (D.int 9587)) (Exs.cons (Ex.dat (D.int 8)) Exs.nil))))) (Sms.cons (Sm.ife (Ex.cmp Cop.lt (Ex.var 2) (Ex.dat (D.int 4))) (Sms.cons (Sm.asg 3 (Ex.ife (Ex.and (Ex.cmp Cop.ne (Ex.var 1) (Ex.tup Exs.nil)) (Ex.cmp Cop.lt (Ex.var 2) (Ex.dat (D.int 3)))) (Ex.idx (Ex.var 1) (Ex.call 8 (Exs.cons (Ex.var 0) (Exs.cons (Ex.dat (D.int 9551)) (Exs.cons (Ex.bi Bi.len (Exs.cons (Ex.var 1) Exs.nil)) Exs.nil))))) (Ex.call 12 (Exs.cons (Ex.bin Bop.add (Ex.var 0) (Ex.dat (D.int 1))) Exs.nil)))) (Sms.cons (Sm.ret (Ex.tup (Exs.cons (Ex.dat (D.str [116, 97, 107, 101])) (Exs.cons (Ex.var 3) (Exs.cons (Ex.idx (Ex.tup (Exs.cons (Ex.idx (Ex.var 3) (Ex.dat (D.int 2))) (Exs.cons (Ex.idx (Ex.var 3) (Ex.dat (D.int 2))) (Exs.cons (Ex.bin Bop.add (Ex.dat (D.str [120, 46])) (Ex.idx (Ex.var 3) (Ex.dat (D.int 2)))) (Exs.cons (Ex.dat (D.str [97])) Exs.nil))))) (Ex.call 8 (Exs.cons (Ex.var 0) (Exs.cons (Ex.dat (D.int 9547)) (Exs.cons (Ex.dat (D.int 4)) Exs.nil))))) Exs.nil))))) Sms.nil)) Sms.nil) (Sms.cons (Sm.ife (Ex.cmp Cop.lt (Ex.var 2) (Ex.dat (D.int 7))) (Sms.cons (Sm.asg 4 (Ex.call 25 (Exs.cons (Ex.bin Bop.add (Ex.var 0) (Ex.dat (D.int 1))) (Exs.cons (Ex.var 1) Exs.nil)))) (Sms.cons (Sm.ret (Ex.bin Bop.add (Ex.bin Bop.add (Ex.tup (Exs.cons (Ex.dat (D.str [97, 115, 107])) Exs.nil)) (Ex.slc (Ex.var 4) (Ex.dat D.non) (Ex.dat (D.int 2)))) (Ex.slc (Ex.var 4) (Ex.dat (D.int 3)) (Ex.dat D.non)))) Sms.nil)) Sms.nil) (Sms.cons (Sm.ret (Ex.tup (Exs.cons (Ex.dat (D.str [112, 97, 115, 115, 95, 111, 110])) (Exs.cons (Ex.idx (Ex.tup (Exs.cons (Ex.dat (D.int 0)) (Exs.cons (Ex.dat (D.int 1)) (Exs.cons (Ex.dat (D.int 5)) (Exs.cons (Ex.dat (D.int 40)) Exs.nil))))) (Ex.call 8 (Exs.cons (Ex.var 0) (Exs.cons (Ex.dat (D.int 9539)) (Exs.cons (Ex.dat (D.int 4)) Exs.nil))))) Exs.nil)))) Sms.nil)))
def fd__law_row_deed : FD := ⟨2, 5, sm__law_row_deed⟩
def ce__law_take__v1_1 : Ex := Ex.call 13 (Exs.cons (Ex.var 10) Exs.nil)
def ce__law_take__v1_2 : Ex := Ex.var 10
def sm__law_take__v1 : Sms := Sms.cons (Sm.asgT [4, 5, 6] (Ex.var 0)) (Sms.cons (Sm.par [7, 8] (Exs.cons (Ex.meth Me.split (Ex.idx (Ex.var 1) (Ex.dat (D.int 2))) (Exs.cons (Ex.dat (D.str [46])) Exs.nil)) (Exs.cons (Ex.meth Me.split (Ex.var 2) (Exs.cons (Ex.dat (D.str [46])) Exs.nil)) Exs.nil))) (Sms.cons (Sm.ife (Ex.or (Ex.and (Ex.idx (Ex.var 1) (Ex.dat (D.int 3))) (Ex.cmp Cop.eq (Ex.bi Bi.len (Exs.cons (Ex.var 7) Exs.nil)) (Ex.dat (D.int 1)))) (Ex.cmp Cop.ne (Ex.slc (Ex.var 8) (Ex.bi Bi.max2 (Exs.cons (Ex.dat (D.int 0)) (Exs.cons (Ex.bin Bop.sub (Ex.bi Bi.len (Exs.cons (Ex.var 8) Exs.nil)) (Ex.bi Bi.len (Exs.cons (Ex.var 7) Exs.nil))) Exs.nil))) (Ex.dat D.non)) (Ex.var 7))) (Sms.cons (Sm.ret (Ex.dat (D.str [110, 111, 116, 32, 116, 104, 101, 105, 114, 115]))) Sms.nil) Sms.nil) (Sms.cons (Sm.asg 3 (Ex.comp ce__law_take__v1_1 (Tg.one 10) (It.of (Ex.var 5)) (Ex.dat (D.bl true)))) (Sms.cons (Sm.ife (Ex.call 28 (Exs.cons (Ex.var 4) (Exs.cons (Ex.var 1) (Exs.cons (Ex.var 6) Exs.nil)))) (Sms.cons (Sm.ret (Ex.tup (Exs.cons (Ex.var 4) (Exs.cons (Ex.bi Bi.tuple (Exs.cons (Ex.comp ce__law_take__v1_2 (Tg.one 10) (It.of (Ex.var 5)) (Ex.cmp Cop.ne (Ex.call 13 (Exs.cons (Ex.var 10) Exs.nil)) (Ex.call 13 (Exs.cons (Ex.var 1) Exs.nil)))) Exs.nil)) (Exs.cons (Ex.var 6) Exs.nil))))) Sms.nil) Sms.nil) (Sms.cons (Sm.ife (Ex.cmp Cop.isin (Ex.call 13 (Exs.cons (Ex.var 1) Exs.nil)) (Ex.var 3)) (Sms.cons (Sm.asg 9 (Ex.meth Me.index (Ex.var 3) (Exs.cons (Ex.call 13 (Exs.cons (Ex.var 1) Exs.nil)) Exs.nil))) (Sms.cons (Sm.ret (Ex.tup (Exs.cons (Ex.var 4) (Exs.cons (Ex.bin Bop.add (Ex.bin Bop.add (Ex.slc (Ex.var 5) (Ex.dat D.non) (Ex.var 9)) (Ex.tup (Exs.cons (Ex.var 1) Exs.nil))) (Ex.slc (Ex.var 5) (Ex.bin Bop.add (Ex.var 9) (Ex.dat (D.int 1))) (Ex.dat D.non))) (Exs.cons (Ex.var 6) Exs.nil))))) Sms.nil)) Sms.nil) (Sms.cons (Sm.ret (Ex.ife (Ex.cmp Cop.gt (Ex.bi Bi.len (Exs.cons (Ex.var 5) Exs.nil)) (Ex.dat (D.int 5))) (Ex.dat (D.str [102, 117, 108, 108])) (Ex.tup (Exs.cons (Ex.var 4) (Exs.cons (Ex.bin Bop.add (Ex.var 5) (Ex.tup (Exs.cons (Ex.var 1) Exs.nil))) (Exs.cons (Ex.var 6) Exs.nil)))))) Sms.nil))))))
def fd__law_take__v1 : FD := ⟨3, 11, sm__law_take__v1⟩
def ce__law_run_1 : Ex := Ex.var 7
def lb__law_run_1 : Sms := Sms.cons (Sm.ife (Ex.cmp Cop.eq (Ex.idx (Ex.var 2) (Ex.dat (D.int 0))) (Ex.dat (D.str [97, 115, 107]))) (Sms.cons (Sm.expr (Ex.meth Me.append (Ex.var 4) (Exs.cons (Ex.call 40 (Exs.cons (Ex.var 0) (Exs.cons (Ex.idx (Ex.var 3) (Ex.dat (D.int 1))) (Exs.cons (Ex.bin Bop.add (Ex.tup (Exs.cons (Ex.idx (Ex.var 2) (Ex.dat (D.int 1))) (Exs.cons (Ex.idx (Ex.var 2) (Ex.dat (D.int 2))) (Exs.cons (Ex.idx (Ex.var 3) (Ex.dat (D.int 2))) Exs.nil)))) (Ex.slc (Ex.var 2) (Ex.dat (D.int 3)) (Ex.dat D.non))) Exs.nil)))) Exs.nil))) Sms.nil) (Sms.cons (Sm.ife (Ex.cmp Cop.eq (Ex.idx (Ex.var 2) (Ex.dat (D.int 0))) (Ex.dat (D.str [112, 97, 115, 115, 95, 111, 110]))) (Sms.cons (Sm.asg 5 (Ex.bi Bi.min2 (Exs.cons (Ex.dat (D.int 99)) (Exs.cons (Ex.bin Bop.add (Ex.idx (Ex.var 3) (Ex.dat (D.int 2))) (Ex.idx (Ex.var 2) (Ex.dat (D.int 1)))) Exs.nil)))) (Sms.cons (Sm.asg 3 (Ex.tup (Exs.cons (Ex.var 0) (Exs.cons (Ex.bi Bi.tuple (Exs.cons (Ex.comp ce__law_run_1 (Tg.one 7) (It.of (Ex.idx (Ex.var 3) (Ex.dat (D.int 1)))) (Ex.not (Ex.call 28 (Exs.cons (Ex.var 0) (Exs.cons (Ex.var 7) (Exs.cons (Ex.var 5) Exs.nil)))))) Exs.nil)) (Exs.cons (Ex.var 5) Exs.nil))))) (Sms.cons (Sm.expr (Ex.meth Me.append (Ex.var 4) (Exs.cons (Ex.dat D.non) Exs.nil))) Sms.nil))) (Sms.cons (Sm.asg 6 (Ex.call 57 (Exs.cons (Ex.var 3) (Exs.cons (Ex.idx (Ex.var 2) (Ex.dat (D.int 1))) (Exs.cons (Ex.idx (Ex.var 2) (Ex.dat (D.int 2))) Exs.nil))))) (Sms.cons (Sm.expr (Ex.meth Me.append (Ex.var 4) (Exs.cons (Ex.ife (Ex.isi (Ex.var 6) [Ty.tStr]) (Ex.var 6) (Ex.dat (D.str [107, 101, 112, 116]))) Exs.nil))) (Sms.cons (Sm.asg 3 (Ex.ife (Ex.isi (Ex.var 6) [Ty.tStr]) (Ex.var 3) (Ex.var 6))) Sms.nil)))) Sms.nil)) Sms.nil
def sm__law_run : Sms := Sms.cons (Sm.par [3, 4] (Exs.cons (Ex.tup (Exs.cons (Ex.var 0) (Exs.cons (Ex.tup Exs.nil) (Exs.cons (Ex.dat (D.int 0)) Exs.nil)))) (Exs.cons (Ex.lst Exs.nil) Exs.nil))) (Sms.cons (Sm.loop (Tg.one 2) (It.of (Ex.var 1)) lb__law_run_1 false) (Sms.cons (Sm.ret (Ex.tup (Exs.cons (Ex.bi Bi.tuple (Exs.cons (Ex.var 4) Exs.nil)) (Exs.cons (Ex.idx (Ex.var 3) (Ex.dat (D.int 1))) Exs.nil)))) Sms.nil))
def fd__law_run : FD := ⟨2, 8, sm__law_run⟩
def lb__law_by_jar_1 : Sms := Sms.cons (Sm.tryAs (Sms.cons (Sm.ife (Ex.cmp Cop.eq (Ex.idx (Ex.var 2) (Ex.dat (D.int 0))) (Ex.dat (D.str [97, 115, 107]))) (Sms.cons (Sm.expr (Ex.meth Me.append (Ex.var 4) (Exs.cons (Ex.mcall [0] 3 (Ex.var 3) (Exs.cons (Ex.idx (Ex.var 2) (Ex.dat (D.int 1))) (Exs.cons (Ex.idx (Ex.var 2) (Ex.dat (D.int 2))) (Exs.cons (Ex.idx (Ex.var 2) (Ex.dat (D.int 3))) (Exs.cons (Ex.idx (Ex.var 2) (Ex.dat (D.int 4))) (Exs.cons (Ex.idx (Ex.var 2) (Ex.dat (D.int 5))) Exs.nil)))))) Exs.nil))) Sms.nil) (Sms.cons (Sm.ife (Ex.cmp Cop.eq (Ex.idx (Ex.var 2) (Ex.dat (D.int 0))) (Ex.dat (D.str [112, 97, 115, 115, 95, 111, 110]))) (Sms.cons (Sm.expr (Ex.meth Me.append (Ex.var 4) (Exs.cons (Ex.mcall [0] 4 (Ex.var 3) (Exs.cons (Ex.idx (Ex.var 2) (Ex.dat (D.int 1))) Exs.nil)) Exs.nil))) Sms.nil) (Sms.cons (Sm.expr (Ex.mcall [0] 2 (Ex.var 3) (Exs.cons (Ex.idx (Ex.var 2) (Ex.dat (D.int 1))) (Exs.cons (Ex.idx (Ex.var 2) (Ex.dat (D.int 2))) Exs.nil)))) (Sms.cons (Sm.expr (Ex.meth Me.append (Ex.var 4) (Exs.cons (Ex.dat (D.str [107, 101, 112, 116])) Exs.nil))) Sms.nil))) Sms.nil)) Sms.nil) 1 5 (Sms.cons (Sm.expr (Ex.meth Me.append (Ex.var 4) (Exs.cons (Ex.ife (Ex.isx 5) (Ex.dat (D.str [110, 111, 116, 32, 116, 104, 101, 105, 114, 115])) (Ex.ife (Ex.isx 3) (Ex.dat (D.str [102, 117, 108, 108])) (Ex.dat (D.str [119, 114, 111, 110, 103])))) Exs.nil))) Sms.nil)) Sms.nil
def sm__law_by_jar : Sms := Sms.cons (Sm.par [3, 4] (Exs.cons (Ex.make 0 (Exs.cons (Ex.var 0) Exs.nil)) (Exs.cons (Ex.lst Exs.nil) Exs.nil))) (Sms.cons (Sm.loop (Tg.one 2) (It.of (Ex.var 1)) lb__law_by_jar_1 false) (Sms.cons (Sm.ret (Ex.bi Bi.tuple (Exs.cons (Ex.var 4) Exs.nil))) Sms.nil))
def fd__law_by_jar : FD := ⟨2, 6, sm__law_by_jar⟩
def sm__law_told : Sms := Sms.cons (Sm.tryAs (Sms.cons (Sm.ife (Ex.cmp Cop.eq (Ex.idx (Ex.var 1) (Ex.dat (D.int 0))) (Ex.dat (D.str [116, 97, 107, 101]))) (Sms.cons (Sm.ret (Ex.mcall [0] 2 (Ex.var 0) (Exs.cons (Ex.idx (Ex.var 1) (Ex.dat (D.int 1))) (Exs.cons (Ex.idx (Ex.var 1) (Ex.dat (D.int 2))) Exs.nil)))) Sms.nil) Sms.nil) (Sms.cons (Sm.ife (Ex.cmp Cop.eq (Ex.idx (Ex.var 1) (Ex.dat (D.int 0))) (Ex.dat (D.str [97, 115, 107]))) (Sms.cons (Sm.ret (Ex.mcall [0] 3 (Ex.var 0) (Exs.cons (Ex.idx (Ex.idx (Ex.var 1) (Ex.dat (D.int 1))) (Ex.dat (D.int 0))) (Exs.cons (Ex.idx (Ex.idx (Ex.var 1) (Ex.dat (D.int 1))) (Ex.dat (D.int 1))) (Exs.cons (Ex.idx (Ex.idx (Ex.var 1) (Ex.dat (D.int 1))) (Ex.dat (D.int 3))) (Exs.cons (Ex.idx (Ex.idx (Ex.var 1) (Ex.dat (D.int 1))) (Ex.dat (D.int 4))) (Exs.cons (Ex.idx (Ex.idx (Ex.var 1) (Ex.dat (D.int 1))) (Ex.dat (D.int 5))) Exs.nil))))))) Sms.nil) Sms.nil) (Sms.cons (Sm.ife (Ex.cmp Cop.eq (Ex.idx (Ex.var 1) (Ex.dat (D.int 0))) (Ex.dat (D.str [112, 97, 115, 115]))) (Sms.cons (Sm.ret (Ex.mcall [0] 4 (Ex.var 0) (Exs.cons (Ex.idx (Ex.var 1) (Ex.dat (D.int 1))) Exs.nil))) Sms.nil) Sms.nil) (Sms.cons (Sm.ret (Ex.ife (Ex.cmp Cop.eq (Ex.idx (Ex.var 1) (Ex.dat (D.int 0))) (Ex.dat (D.str [99, 104, 97, 110, 103, 101]))) (Ex.mcall [0] 8 (Ex.var 0) (Exs.cons (Ex.idx (Ex.var 1) (Ex.dat (D.int 1))) Exs.nil)) (Ex.mcall [0] 9 (Ex.var 0) Exs.nil))) Sms.nil)))) 1 2 (Sms.cons (Sm.ret (Ex.callx 41)) Sms.nil)) Sms.nil
def fd__law_told : FD := ⟨2, 3, sm__law_told⟩
def sm__law_deed : Sms := Sms.cons (Sm.asg 2 (Ex.idx (Ex.tup (Exs.cons (Ex.dat (D.str [116, 97, 107, 101])) (Exs.cons (Ex.dat (D.str [116, 97, 107, 101])) (Exs.cons (Ex.dat (D.str [116, 97, 107, 101])) (Exs.cons (Ex.dat (D.str [116, 97, 107, 101])) (Exs.cons (Ex.dat (D.str [97, 115, 107])) (Exs.cons (Ex.dat (D.str [97, 115, 107])) (Exs.cons (Ex.dat (D.str [112, 97, 115, 115])) (Exs.cons (Ex.dat (D.str [99, 104, 97, 110, 103, 101])) (Exs.cons (Ex.dat (D.str [117, 110, 100, 111])) Exs.nil)))))))))) (Ex.call 8 (Exs.cons (Ex.var 0) (Exs.cons (Ex.dat (D.int 9619)) (Exs.cons (Ex.dat (D.int 9)) Exs.nil)))))) (Sms.cons (Sm.ife (Ex.cmp Cop.eq (Ex.var 2) (Ex.dat (D.str [116, 97, 107, 101]))) (Sms.cons (Sm.asg 3 (Ex.call 12 (Exs.cons (Ex.bin Bop.add (Ex.var 0) (Ex.dat (D.int 1))) Exs.nil))) (Sms.cons (Sm.ife (Ex.and (Ex.cmp Cop.ne (Ex.var 1) (Ex.tup Exs.nil)) (Ex.cmp Cop.eq (Ex.call 8 (Exs.cons (Ex.var 0) (Exs.cons (Ex.dat (D.int 9613)) (Exs.cons (Ex.dat (D.int 4)) Exs.nil)))) (Ex.dat (D.int 0)))) (Sms.cons (Sm.asg 3 (Ex.bin Bop.add (Ex.bin Bop.add (Ex.bin Bop.add (Ex.slc (Ex.idx (Ex.var 1) (Ex.dat (D.int 0))) (Ex.dat D.non) (Ex.dat (D.int 1))) (Ex.slc (Ex.var 3) (Ex.dat (D.int 1)) (Ex.dat (D.int 2)))) (Ex.slc (Ex.idx (Ex.var 1) (Ex.dat (D.int 0))) (Ex.dat (D.int 2)) (Ex.dat (D.int 5)))) (Ex.slc (Ex.var 3) (Ex.dat (D.int 5)) (Ex.dat D.non)))) Sms.nil) Sms.nil) (Sms.cons (Sm.ret (Ex.tup (Exs.cons (Ex.var 2) (Exs.cons (Ex.var 3) (Exs.cons (Ex.idx (Ex.tup (Exs.cons (Ex.idx (Ex.var 3) (Ex.dat (D.int 2))) (Exs.cons (Ex.idx (Ex.var 3) (Ex.dat (D.int 2))) (Exs.cons (Ex.bin Bop.add (Ex.dat (D.str [120, 46])) (Ex.idx (Ex.var 3) (Ex.dat (D.int 2)))) (Exs.cons (Ex.dat (D.str [97])) Exs.nil))))) (Ex.call 8 (Exs.cons (Ex.var 0) (Exs.cons (Ex.dat (D.int 9601)) (Exs.cons (Ex.dat (D.int 4)) Exs.nil))))) Exs.nil))))) Sms.nil))) Sms.nil) (Sms.cons (Sm.ife (Ex.cmp Cop.eq (Ex.var 2) (Ex.dat (D.str [97, 115, 107]))) (Sms.cons (Sm.ret (Ex.tup (Exs.cons (Ex.var 2) (Exs.cons (Ex.call 25 (Exs.cons (Ex.bin Bop.add (Ex.var 0) (Ex.dat (D.int 1))) (Exs.cons (Ex.var 1) Exs.nil))) Exs.nil)))) Sms.nil) Sms.nil) (Sms.cons (Sm.ret (Ex.ife (Ex.cmp Cop.eq (Ex.var 2) (Ex.dat (D.str [99, 104, 97, 110, 103, 101]))) (Ex.tup (Exs.cons (Ex.var 2) (Exs.cons (Ex.call 24 (Exs.cons (Ex.var 0) Exs.nil)) Exs.nil))) (Ex.tup (Exs.cons (Ex.var 2) (Exs.cons (Ex.idx (Ex.tup (Exs.cons (Ex.dat (D.int 0)) (Exs.cons (Ex.dat (D.int 1)) (Exs.cons (Ex.dat (D.int 40)) (Exs.cons (Ex.dat (D.int 70)) Exs.nil))))) (Ex.call 8 (Exs.cons (Ex.var 0) (Exs.cons (Ex.dat (D.int 9587)) (Exs.cons (Ex.dat (D.int 4)) Exs.nil))))) Exs.nil))))) Sms.nil)))
def fd__law_deed : FD := ⟨2, 4, sm__law_deed⟩
def ce__law_after_1 : Ex := Ex.var 5
def sm__law_after : Sms := Sms.cons (Sm.ife (Ex.cmp Cop.eq (Ex.idx (Ex.var 1) (Ex.dat (D.int 0))) (Ex.dat (D.str [116, 97, 107, 101]))) (Sms.cons (Sm.ret (Ex.call 57 (Exs.cons (Ex.var 0) (Exs.cons (Ex.idx (Ex.var 1) (Ex.dat (D.int 1))) (Exs.cons (Ex.idx (Ex.var 1) (Ex.dat (D.int 2))) Exs.nil))))) Sms.nil) Sms.nil) (Sms.cons (Sm.asgT [2, 3, 4] (Ex.var 0)) (Sms.cons (Sm.ife (Ex.cmp Cop.eq (Ex.idx (Ex.var 1) (Ex.dat (D.int 0))) (Ex.dat (D.str [99, 104, 97, 110, 103, 101]))) (Sms.cons (Sm.asg 2 (Ex.idx (Ex.var 1) (Ex.dat (D.int 1)))) Sms.nil) (Sms.cons (Sm.asg 4 (Ex.bi Bi.min2 (Exs.cons (Ex.dat (D.int 99)) (Exs.cons (Ex.bin Bop.add (Ex.var 4) (Ex.idx (Ex.var 1) (Ex.dat (D.int 1)))) Exs.nil)))) Sms.nil)) (Sms.cons (Sm.ret (Ex.tup (Exs.cons (Ex.var 2) (Exs.cons (Ex.bi Bi.tuple (Exs.cons (Ex.comp ce__law_after_1 (Tg.one 5) (It.of (Ex.var 3)) (Ex.not (Ex.call 28 (Exs.cons (Ex.var 2) (Exs.cons (Ex.var 5) (Exs.cons (Ex.var 4) Exs.nil)))))) Exs.nil)) (Exs.cons (Ex.var 4) Exs.nil))))) Sms.nil)))
def fd__law_after : FD := ⟨2, 6, sm__law_after⟩
def ce_run__v1_1 : Ex := Ex.call 53 (Exs.cons (Ex.var 2) (Exs.cons (Ex.var 3) Exs.nil))
def sm_run__v1 : Sms := Sms.cons (Sm.asg 2 (Ex.make 0 (Exs.cons (Ex.var 0) Exs.nil))) (Sms.cons (Sm.ret (Ex.bi Bi.tuple (Exs.cons (Ex.comp ce_run__v1_1 (Tg.one 3) (It.of (Ex.var 1)) (Ex.dat (D.bl true))) Exs.nil))) Sms.nil)
def fd_run__v1 : FD := ⟨2, 4, sm_run__v1⟩
def sm__law_sided : Sms := Sms.cons (Sm.asg 2 (Ex.dat D.non)) (Sms.cons (Sm.tryAs (Sms.cons (Sm.ife (Ex.cmp Cop.eq (Ex.var 1) (Ex.tup (Exs.cons (Ex.dat (D.str [98, 97, 99, 107])) Exs.nil))) (Sms.cons (Sm.asg 2 (Ex.mcall [1] 14 (Ex.var 0) Exs.nil)) Sms.nil) (Sms.cons (Sm.ife (Ex.cmp Cop.eq (Ex.var 1) (Ex.tup (Exs.cons (Ex.dat (D.str [102, 111, 114, 116, 104])) Exs.nil))) (Sms.cons (Sm.asg 2 (Ex.mcall [1] 15 (Ex.var 0) Exs.nil)) Sms.nil) (Sms.cons (Sm.asg 2 (Ex.mcall [1] 11 (Ex.var 0) (Exs.cons (Ex.var 1) Exs.nil))) Sms.nil)) Sms.nil)) Sms.nil) 1 3 (Sms.cons (Sm.ret (Ex.ife (Ex.and (Ex.isx 6) (Ex.isx 0)) (Ex.dat (D.str [110, 111, 32, 100, 101, 101, 100])) (Ex.dat (D.str [119, 114, 111, 110, 103])))) Sms.nil)) (Sms.cons (Sm.ret (Ex.var 2)) Sms.nil))
def fd__law_sided : FD := ⟨2, 4, sm__law_sided⟩
def sm__law_side_deed : Sms := Sms.cons (Sm.asg 2 (Ex.call 8 (Exs.cons (Ex.var 0) (Exs.cons (Ex.dat (D.int 9479)) (Exs.cons (Ex.dat (D.int 10)) Exs.nil))))) (Sms.cons (Sm.ife (Ex.cmp Cop.lt (Ex.var 2) (Ex.dat (D.int 2))) (Sms.cons (Sm.ret (Ex.tup (Exs.cons (Ex.dat (D.str [98, 97, 99, 107])) Exs.nil))) Sms.nil) Sms.nil) (Sms.cons (Sm.ret (Ex.ife (Ex.cmp Cop.eq (Ex.var 2) (Ex.dat (D.int 2))) (Ex.tup (Exs.cons (Ex.dat (D.str [102, 111, 114, 116, 104])) Exs.nil)) (Ex.call 56 (Exs.cons (Ex.var 0) (Exs.cons (Ex.var 1) Exs.nil))))) Sms.nil))
def fd__law_side_deed : FD := ⟨2, 3, sm__law_side_deed⟩
def ce__law_is_as_1 : Ex := Ex.var 7
def sm__law_is_as : Sms := Sms.cons (Sm.asgT [5, 6] (Ex.tup (Exs.cons (Ex.call 58 (Exs.cons (Ex.var 1) (Exs.cons (Ex.var 3) Exs.nil))) (Exs.cons (Ex.call 58 (Exs.cons (Ex.var 2) (Exs.cons (Ex.var 3) Exs.nil))) Exs.nil)))) (Sms.cons (Sm.ife (Ex.or (Ex.cmp Cop.ne (Ex.mcall [1] 12 (Ex.var 0) Exs.nil) (Ex.bi Bi.tuple (Exs.cons (Ex.var 3) Exs.nil))) (Ex.or (Ex.cmp Cop.ne (Ex.mcall [1] 16 (Ex.var 0) Exs.nil) (Ex.tup (Exs.cons (Ex.bi Bi.len (Exs.cons (Ex.var 3) Exs.nil)) (Exs.cons (Ex.bi Bi.len (Exs.cons (Ex.var 4) Exs.nil)) Exs.nil)))) (Ex.cmp Cop.ne (Ex.mcall [0, 1] 5 (Ex.var 0) Exs.nil) (Ex.tup (Exs.cons (Ex.idx (Ex.var 5) (Ex.dat (D.int 1))) (Exs.cons (Ex.idx (Ex.var 6) (Ex.dat (D.int 1))) Exs.nil)))))) (Sms.cons (Sm.ret (Ex.dat (D.bl false))) Sms.nil) Sms.nil) (Sms.cons (Sm.ret (Ex.cmp Cop.eq (Ex.mcall [1] 13 (Ex.var 0) Exs.nil) (Ex.bi Bi.tuple (Exs.cons (Ex.comp ce__law_is_as_1 (Tg.one 7) (It.range1 (Ex.bi Bi.len (Exs.cons (Ex.var 3) Exs.nil))) (Ex.cmp Cop.ne (Ex.idx (Ex.idx (Ex.var 5) (Ex.dat (D.int 0))) (Ex.var 7)) (Ex.idx (Ex.idx (Ex.var 6) (Ex.dat (D.int 0))) (Ex.var 7)))) Exs.nil)))) Sms.nil))
def fd__law_is_as : FD := ⟨5, 8, sm__law_is_as⟩
def ce_are_letters_1 : Ex := Ex.cmp Cop.isin (Ex.var 2) (Ex.dat (D.str [97, 98, 99, 100, 101, 102, 103, 104, 105, 106, 107, 108, 109, 110, 111, 112, 113, 114, 115, 116, 117, 118, 119, 120, 121, 122]))
def sm_are_letters : Sms := Sms.cons (Sm.ret (Ex.and (Ex.isi (Ex.var 0) [Ty.tStr]) (Ex.and (Ex.chain Cop.le Cop.le (Ex.var 1) (Ex.bi Bi.len (Exs.cons (Ex.var 0) Exs.nil)) (Ex.dat (D.int 3))) (Ex.bi Bi.all (Exs.cons (Ex.comp ce_are_letters_1 (Tg.one 2) (It.of (Ex.var 0)) (Ex.dat (D.bl true))) Exs.nil))))) Sms.nil
def fd_are_letters : FD := ⟨2, 3, sm_are_letters⟩
def ce_is_host_1 : Ex := Ex.call 67 (Exs.cons (Ex.var 2) (Exs.cons (Ex.dat (D.int 1)) Exs.nil))
def sm_is_host : Sms := Sms.cons (Sm.ife (Ex.not (Ex.isi (Ex.var 0) [Ty.tStr])) (Sms.cons (Sm.ret (Ex.dat (D.bl false))) Sms.nil) Sms.nil) (Sms.cons (Sm.asg 1 (Ex.meth Me.split (Ex.var 0) (Exs.cons (Ex.dat (D.str [46])) Exs.nil))) (Sms.cons (Sm.ret (Ex.and (Ex.cmp Cop.le (Ex.bi Bi.len (Exs.cons (Ex.var 1) Exs.nil)) (Ex.dat (D.int 4))) (Ex.bi Bi.all (Exs.cons (Ex.comp ce_is_host_1 (Tg.one 2) (It.of (Ex.var 1)) (Ex.dat (D.bl true))) Exs.nil)))) Sms.nil))
def fd_is_host : FD := ⟨1, 3, sm_is_host⟩
def ce_is_path_1 : Ex := Ex.call 67 (Exs.cons (Ex.var 2) (Exs.cons (Ex.dat (D.int 1)) Exs.nil))
def sm_is_path : Sms := Sms.cons (Sm.ife (Ex.or (Ex.not (Ex.isi (Ex.var 0) [Ty.tStr])) (Ex.cmp Cop.ne (Ex.slc (Ex.var 0) (Ex.dat D.non) (Ex.dat (D.int 1))) (Ex.dat (D.str [47])))) (Sms.cons (Sm.ret (Ex.dat (D.bl false))) Sms.nil) Sms.nil) (Sms.cons (Sm.ife (Ex.cmp Cop.eq (Ex.var 0) (Ex.dat (D.str [47]))) (Sms.cons (Sm.ret (Ex.dat (D.bl true))) Sms.nil) Sms.nil) (Sms.cons (Sm.asg 1 (Ex.meth Me.split (Ex.slc (Ex.var 0) (Ex.dat (D.int 1)) (Ex.dat D.non)) (Exs.cons (Ex.dat (D.str [47])) Exs.nil))) (Sms.cons (Sm.ret (Ex.and (Ex.cmp Cop.le (Ex.bi Bi.len (Exs.cons (Ex.var 1) Exs.nil)) (Ex.dat (D.int 4))) (Ex.bi Bi.all (Exs.cons (Ex.comp ce_is_path_1 (Tg.one 2) (It.of (Ex.var 1)) (Ex.dat (D.bl true))) Exs.nil)))) Sms.nil)))
def fd_is_path : FD := ⟨1, 3, sm_is_path⟩
def sm_is_time : Sms := Sms.cons (Sm.ret (Ex.and (Ex.isi (Ex.var 0) [Ty.tInt]) (Ex.and (Ex.not (Ex.isi (Ex.var 0) [Ty.tBool])) (Ex.chain Cop.le Cop.le (Ex.dat (D.int 0)) (Ex.var 0) (Ex.dat (D.int 99)))))) Sms.nil
def fd_is_time : FD := ⟨1, 1, sm_is_time⟩
def sm_is_note : Sms := Sms.cons (Sm.ife (Ex.or (Ex.not (Ex.isi (Ex.var 0) [Ty.tTuple])) (Ex.or (Ex.cmp Cop.ne (Ex.bi Bi.len (Exs.cons (Ex.var 0) Exs.nil)) (Ex.dat (D.int 8))) (Ex.or (Ex.not (Ex.call 67 (Exs.cons (Ex.idx (Ex.var 0) (Ex.dat (D.int 0))) (Exs.cons (Ex.dat (D.int 1)) Exs.nil)))) (Ex.not (Ex.call 67 (Exs.cons (Ex.idx (Ex.var 0) (Ex.dat (D.int 1))) (Exs.cons (Ex.dat (D.int 0)) Exs.nil))))))) (Sms.cons (Sm.ret (Ex.dat (D.bl false))) Sms.nil) Sms.nil) (Sms.cons (Sm.ife (Ex.or (Ex.not (Ex.call 68 (Exs.cons (Ex.idx (Ex.var 0) (Ex.dat (D.int 2))) Exs.nil))) (Ex.or (Ex.not (Ex.isi (Ex.idx (Ex.var 0) (Ex.dat (D.int 3))) [Ty.tBool])) (Ex.not (Ex.call 69 (Exs.cons (Ex.idx (Ex.var 0) (Ex.dat (D.int 4))) Exs.nil))))) (Sms.cons (Sm.ret (Ex.dat (D.bl false))) Sms.nil) Sms.nil) (Sms.cons (Sm.ife (Ex.or (Ex.and (Ex.cmp Cop.isnot (Ex.idx (Ex.var 0) (Ex.dat (D.int 5))) (Ex.dat D.non)) (Ex.not (Ex.call 70 (Exs.cons (Ex.idx (Ex.var 0) (Ex.dat (D.int 5))) Exs.nil)))) (Ex.not (Ex.isi (Ex.idx (Ex.var 0) (Ex.dat (D.int 6))) [Ty.tBool]))) (Sms.cons (Sm.ret (Ex.dat (D.bl false))) Sms.nil) Sms.nil) (Sms.cons (Sm.ret (Ex.and (Ex.isi (Ex.idx (Ex.var 0) (Ex.dat (D.int 7))) [Ty.tStr]) (Ex.cmp Cop.isin (Ex.idx (Ex.var 0) (Ex.dat (D.int 7))) (Ex.dat (D.tup [D.str [111, 119, 110], D.str [110, 101, 97, 114], D.str [97, 110, 121]]))))) Sms.nil)))
def fd_is_note : FD := ⟨1, 1, sm_is_note⟩
def sm__law_do : Sms := Sms.cons (Sm.par [2, 3] (Exs.cons (Ex.call 8 (Exs.cons (Ex.var 1) (Exs.cons (Ex.dat (D.int 9551)) (Exs.cons (Ex.dat (D.int 8)) Exs.nil)))) (Exs.cons (Ex.call 12 (Exs.cons (Ex.bin Bop.add (Ex.var 1) (Ex.dat (D.int 1))) Exs.nil)) Exs.nil))) (Sms.cons (Sm.tryMany (Sms.cons (Sm.ife (Ex.cmp Cop.lt (Ex.var 2) (Ex.dat (D.int 5))) (Sms.cons (Sm.expr (Ex.mcall [0] 2 (Ex.var 0) (Exs.cons (Ex.var 3) (Exs.cons (Ex.idx (Ex.var 3) (Ex.dat (D.int 2))) Exs.nil)))) Sms.nil) (Sms.cons (Sm.ife (Ex.cmp Cop.lt (Ex.var 2) (Ex.dat (D.int 7))) (Sms.cons (Sm.expr (Ex.mcall [0] 4 (Ex.var 0) (Exs.cons (Ex.call 8 (Exs.cons (Ex.var 1) (Exs.cons (Ex.dat (D.int 9547)) (Exs.cons (Ex.dat (D.int 9)) Exs.nil)))) Exs.nil))) Sms.nil) (Sms.cons (Sm.expr (Ex.mcall [0] 8 (Ex.var 0) (Exs.cons (Ex.call 24 (Exs.cons (Ex.var 1) Exs.nil)) Exs.nil))) Sms.nil)) Sms.nil)) (Sms.cons (Sm.ret (Ex.dat (D.bl true))) Sms.nil)) (Hds.cons 1 (Sms.cons (Sm.ret (Ex.dat (D.bl false))) Sms.nil) Hds.nil)) Sms.nil)
def fd__law_do : FD := ⟨2, 4, sm__law_do⟩
def sm__law_now : Sms := Sms.cons (Sm.ret (Ex.tup (Exs.cons (Ex.mcall [0] 7 (Ex.var 0) Exs.nil) (Exs.cons (Ex.mcall [0] 5 (Ex.var 0) Exs.nil) (Exs.cons (Ex.mcall [0] 6 (Ex.var 0) Exs.nil) Exs.nil))))) Sms.nil
def fd__law_now : FD := ⟨1, 1, sm__law_now⟩
def sm__law_are_ticks : Sms := Sms.cons (Sm.expr (Ex.mcall [0] 4 (Ex.var 0) (Exs.cons (Ex.dat (D.int 3)) Exs.nil))) (Sms.cons (Sm.expr (Ex.mcall [0] 4 (Ex.var 0) (Exs.cons (Ex.dat (D.int 4)) Exs.nil))) (Sms.cons (Sm.expr (Ex.mcall [0] 4 (Ex.var 1) (Exs.cons (Ex.dat (D.int 7)) Exs.nil))) (Sms.cons (Sm.ife (Ex.cmp Cop.ne (Ex.call 74 (Exs.cons (Ex.var 0) Exs.nil)) (Ex.call 74 (Exs.cons (Ex.var 1) Exs.nil))) (Sms.cons (Sm.ret (Ex.dat (D.bl false))) Sms.nil) Sms.nil) (Sms.cons (Sm.expr (Ex.mcall [0] 9 (Ex.var 0) Exs.nil)) (Sms.cons (Sm.expr (Ex.mcall [0] 9 (Ex.var 0) Exs.nil)) (Sms.cons (Sm.ret (Ex.dat (D.bl true))) Sms.nil))))))
def fd__law_are_ticks : FD := ⟨2, 2, sm__law_are_ticks⟩
def sm_Jar___init__ : Sms := Sms.cons (Sm.setF [0] 0 (Ex.var 0) (Ex.var 1)) (Sms.cons (Sm.setF [0] 1 (Ex.var 0) (Ex.tup Exs.nil)) (Sms.cons (Sm.setF [0] 2 (Ex.var 0) (Ex.dat (D.int 0))) (Sms.cons (Sm.setF [0] 3 (Ex.var 0) (Ex.lst Exs.nil)) (Sms.cons (Sm.setF [0] 4 (Ex.var 0) (Ex.tup Exs.nil)) Sms.nil))))
def fd_Jar___init__ : FD := ⟨2, 2, sm_Jar___init__⟩
def sm_Jar_become : Sms := Sms.cons (Sm.expr (Ex.meth Me.append (Ex.fld [0] 3 (Ex.var 0)) (Exs.cons (Ex.tup (Exs.cons (Ex.fld [0] 0 (Ex.var 0)) (Exs.cons (Ex.fld [0] 1 (Ex.var 0)) (Exs.cons (Ex.fld [0] 2 (Ex.var 0)) Exs.nil)))) Exs.nil))) (Sms.cons (Sm.setF [0] 0 (Ex.var 0) (Ex.var 1)) (Sms.cons (Sm.setF [0] 1 (Ex.var 0) (Ex.var 2)) (Sms.cons (Sm.setF [0] 2 (Ex.var 0) (Ex.var 3)) Sms.nil)))
def fd_Jar_become : FD := ⟨4, 4, sm_Jar_become⟩
def sm_Jar_take : Sms := Sms.cons (Sm.ife (Ex.not (Ex.call 5 (Exs.cons (Ex.var 1) (Exs.cons (Ex.var 2) Exs.nil)))) (Sms.cons (Sm.raise 5) Sms.nil) Sms.nil) (Sms.cons (Sm.ife (Ex.call 19 (Exs.cons (Ex.fld [0] 0 (Ex.var 0)) (Exs.cons (Ex.var 1) (Exs.cons (Ex.fld [0] 2 (Ex.var 0)) Exs.nil)))) (Sms.cons (Sm.asg 3 (Ex.call 45 (Exs.cons (Ex.fld [0] 1 (Ex.var 0)) (Exs.cons (Ex.call 43 (Exs.cons (Ex.var 1) Exs.nil)) Exs.nil)))) Sms.nil) (Sms.cons (Sm.asg 3 (Ex.call 44 (Exs.cons (Ex.fld [0] 1 (Ex.var 0)) (Exs.cons (Ex.var 1) Exs.nil)))) Sms.nil)) (Sms.cons (Sm.expr (Ex.mcall [0] 1 (Ex.var 0) (Exs.cons (Ex.fld [0] 0 (Ex.var 0)) (Exs.cons (Ex.var 3) (Exs.cons (Ex.fld [0] 2 (Ex.var 0)) Exs.nil))))) Sms.nil))
def fd_Jar_take : FD := ⟨3, 4, sm_Jar_take⟩
def sm_Jar_ask : Sms := Sms.cons (Sm.asg 6 (Ex.tup (Exs.cons (Ex.var 1) (Exs.cons (Ex.var 2) (Exs.cons (Ex.fld [0] 2 (Ex.var 0)) (Exs.cons (Ex.var 3) (Exs.cons (Ex.var 4) (Exs.cons (Ex.var 5) Exs.nil)))))))) (Sms.cons (Sm.asg 7 (Ex.call 35 (Exs.cons (Ex.fld [0] 0 (Ex.var 0)) (Exs.cons (Ex.fld [0] 1 (Ex.var 0)) (Exs.cons (Ex.var 6) Exs.nil))))) (Sms.cons (Sm.setF [0] 4 (Ex.var 0) (Ex.bin Bop.add (Ex.fld [0] 4 (Ex.var 0)) (Ex.tup (Exs.cons (Ex.tup (Exs.cons (Ex.var 6) (Exs.cons (Ex.var 7) Exs.nil))) Exs.nil)))) (Sms.cons (Sm.ret (Ex.var 7)) Sms.nil)))
def fd_Jar_ask : FD := ⟨6, 8, sm_Jar_ask⟩
def sm_Jar_pass_on : Sms := Sms.cons (Sm.asg 2 (Ex.bi Bi.min2 (Exs.cons (Ex.dat (D.int 99)) (Exs.cons (Ex.bin Bop.add (Ex.fld [0] 2 (Ex.var 0)) (Ex.var 1)) Exs.nil)))) (Sms.cons (Sm.expr (Ex.mcall [0] 1 (Ex.var 0) (Exs.cons (Ex.fld [0] 0 (Ex.var 0)) (Exs.cons (Ex.call 47 (Exs.cons (Ex.fld [0] 0 (Ex.var 0)) (Exs.cons (Ex.fld [0] 1 (Ex.var 0)) (Exs.cons (Ex.var 2) Exs.nil)))) (Exs.cons (Ex.var 2) Exs.nil))))) Sms.nil)
def fd_Jar_pass_on : FD := ⟨2, 3, sm_Jar_pass_on⟩
def sm_Jar_notes : Sms := Sms.cons (Sm.ret (Ex.fld [0] 1 (Ex.var 0))) Sms.nil
def fd_Jar_notes : FD := ⟨1, 1, sm_Jar_notes⟩
def sm_Jar_time : Sms := Sms.cons (Sm.ret (Ex.fld [0] 2 (Ex.var 0))) Sms.nil
def fd_Jar_time : FD := ⟨1, 1, sm_Jar_time⟩
def sm_Jar_rules : Sms := Sms.cons (Sm.ret (Ex.fld [0] 0 (Ex.var 0))) Sms.nil
def fd_Jar_rules : FD := ⟨1, 1, sm_Jar_rules⟩
def sm_Jar_change : Sms := Sms.cons (Sm.expr (Ex.mcall [0] 1 (Ex.var 0) (Exs.cons (Ex.var 1) (Exs.cons (Ex.call 47 (Exs.cons (Ex.var 1) (Exs.cons (Ex.fld [0] 1 (Ex.var 0)) (Exs.cons (Ex.fld [0] 2 (Ex.var 0)) Exs.nil)))) (Exs.cons (Ex.fld [0] 2 (Ex.var 0)) Exs.nil))))) Sms.nil
def fd_Jar_change : FD := ⟨2, 2, sm_Jar_change⟩
def sm_Jar_undo : Sms := Sms.cons (Sm.ife (Ex.not (Ex.fld [0] 3 (Ex.var 0))) (Sms.cons (Sm.raise 6) Sms.nil) Sms.nil) (Sms.cons (Sm.setFs [0] [0, 1, 2] 0 (Ex.meth Me.pop (Ex.fld [0] 3 (Ex.var 0)) Exs.nil)) Sms.nil)
def fd_Jar_undo : FD := ⟨1, 1, sm_Jar_undo⟩
def sm_Jar_log : Sms := Sms.cons (Sm.ret (Ex.fld [0] 4 (Ex.var 0))) Sms.nil
def fd_Jar_log : FD := ⟨1, 1, sm_Jar_log⟩
def sm_Sides___init__ : Sms := Sms.cons (Sm.setF [1] 5 (Ex.var 0) (Ex.tup (Exs.cons (Ex.var 1) (Exs.cons (Ex.var 2) Exs.nil)))) (Sms.cons (Sm.setF [1] 6 (Ex.var 0) (Ex.tup Exs.nil)) (Sms.cons (Sm.setF [1] 7 (Ex.var 0) (Ex.tup Exs.nil)) Sms.nil))
def fd_Sides___init__ : FD := ⟨3, 3, sm_Sides___init__⟩
def lb_Sides_notes_1 : Sms := Sms.cons (Sm.expr (Ex.call 53 (Exs.cons (Ex.var 3) (Exs.cons (Ex.var 4) Exs.nil)))) Sms.nil
def lb_Sides_notes_2 : Sms := Sms.cons (Sm.asg 3 (Ex.make 0 (Exs.cons (Ex.var 2) Exs.nil))) (Sms.cons (Sm.loop (Tg.one 4) (It.of (Ex.fld [1] 6 (Ex.var 0))) lb_Sides_notes_1 false) (Sms.cons (Sm.expr (Ex.meth Me.append (Ex.var 1) (Exs.cons (Ex.mcall [0, 1] 5 (Ex.var 3) Exs.nil) Exs.nil))) Sms.nil))
def sm_Sides_notes : Sms := Sms.cons (Sm.asg 1 (Ex.lst Exs.nil)) (Sms.cons (Sm.loop (Tg.one 2) (It.of (Ex.fld [1] 5 (Ex.var 0))) lb_Sides_notes_2 false) (Sms.cons (Sm.ret (Ex.bi Bi.tuple (Exs.cons (Ex.var 1) Exs.nil))) Sms.nil))
def fd_Sides_notes : FD := ⟨1, 5, sm_Sides_notes⟩
def ce_Sides_do_1 : Ex := Ex.idx (Ex.call 63 (Exs.cons (Ex.var 2) (Exs.cons (Ex.fld [1] 6 (Ex.var 0)) Exs.nil))) (Ex.dat (D.int (-1)))
def sm_Sides_do : Sms := Sms.cons (Sm.setF [1] 6 (Ex.var 0) (Ex.bin Bop.add (Ex.fld [1] 6 (Ex.var 0)) (Ex.tup (Exs.cons (Ex.var 1) Exs.nil)))) (Sms.cons (Sm.setF [1] 7 (Ex.var 0) (Ex.tup Exs.nil)) (Sms.cons (Sm.ret (Ex.bi Bi.tuple (Exs.cons (Ex.comp ce_Sides_do_1 (Tg.one 2) (It.of (Ex.fld [1] 5 (Ex.var 0))) (Ex.dat (D.bl true))) Exs.nil))) Sms.nil))
def fd_Sides_do : FD := ⟨2, 3, sm_Sides_do⟩
def sm_Sides_deeds : Sms := Sms.cons (Sm.ret (Ex.fld [1] 6 (Ex.var 0))) Sms.nil
def fd_Sides_deeds : FD := ⟨1, 1, sm_Sides_deeds⟩
def ce_Sides_unlike_1 : Ex := Ex.call 63 (Exs.cons (Ex.var 3) (Exs.cons (Ex.fld [1] 6 (Ex.var 0)) Exs.nil))
def ce_Sides_unlike_2 : Ex := Ex.var 4
def sm_Sides_unlike : Sms := Sms.cons (Sm.asgU [1, 2] (Ex.comp ce_Sides_unlike_1 (Tg.one 3) (It.of (Ex.fld [1] 5 (Ex.var 0))) (Ex.dat (D.bl true)))) (Sms.cons (Sm.ret (Ex.bi Bi.tuple (Exs.cons (Ex.comp ce_Sides_unlike_2 (Tg.one 4) (It.range1 (Ex.bi Bi.len (Exs.cons (Ex.fld [1] 6 (Ex.var 0)) Exs.nil))) (Ex.cmp Cop.ne (Ex.idx (Ex.var 1) (Ex.var 4)) (Ex.idx (Ex.var 2) (Ex.var 4)))) Exs.nil))) Sms.nil)
def fd_Sides_unlike : FD := ⟨1, 5, sm_Sides_unlike⟩
def sm_Sides_back : Sms := Sms.cons (Sm.ife (Ex.not (Ex.fld [1] 6 (Ex.var 0))) (Sms.cons (Sm.raise 6) Sms.nil) Sms.nil) (Sms.cons (Sm.setF [1] 7 (Ex.var 0) (Ex.bin Bop.add (Ex.fld [1] 7 (Ex.var 0)) (Ex.slc (Ex.fld [1] 6 (Ex.var 0)) (Ex.dat (D.int (-1))) (Ex.dat D.non)))) (Sms.cons (Sm.setF [1] 6 (Ex.var 0) (Ex.slc (Ex.fld [1] 6 (Ex.var 0)) (Ex.dat D.non) (Ex.dat (D.int (-1))))) Sms.nil))
def fd_Sides_back : FD := ⟨1, 1, sm_Sides_back⟩
def sm_Sides_forth : Sms := Sms.cons (Sm.ife (Ex.not (Ex.fld [1] 7 (Ex.var 0))) (Sms.cons (Sm.raise 6) Sms.nil) Sms.nil) (Sms.cons (Sm.setF [1] 6 (Ex.var 0) (Ex.bin Bop.add (Ex.fld [1] 6 (Ex.var 0)) (Ex.slc (Ex.fld [1] 7 (Ex.var 0)) (Ex.dat (D.int (-1))) (Ex.dat D.non)))) (Sms.cons (Sm.setF [1] 7 (Ex.var 0) (Ex.slc (Ex.fld [1] 7 (Ex.var 0)) (Ex.dat D.non) (Ex.dat (D.int (-1))))) Sms.nil))
def fd_Sides_forth : FD := ⟨1, 1, sm_Sides_forth⟩
def sm_Sides_steps : Sms := Sms.cons (Sm.ret (Ex.tup (Exs.cons (Ex.bi Bi.len (Exs.cons (Ex.fld [1] 6 (Ex.var 0)) Exs.nil)) (Exs.cons (Ex.bi Bi.len (Exs.cons (Ex.fld [1] 7 (Ex.var 0)) Exs.nil)) Exs.nil)))) Sms.nil
def fd_Sides_steps : FD := ⟨1, 1, sm_Sides_steps⟩
def PG (L : FD) : Nat → Option FD
  | 0 => some L
  | 1 => some fd_is_below
  | 2 => some fd_site
  | 3 => some fd_steps
  | 4 => some fd_all_rules
  | 5 => some fd_may_put
  | 6 => some fd_by_site
  | 7 => some fd__law_cell
  | 8 => some fd__law_mix
  | 9 => some fd__law_same
  | 10 => some fd__law_host
  | 11 => some fd__law_path
  | 12 => some fd__law_note
  | 13 => some fd__law_mark
  | 14 => some fd__law_notes
  | 15 => some fd__law_site
  | 16 => some fd__law_steps
  | 17 => some fd_host_fits
  | 18 => some fd_path_fits
  | 19 => some fd_has_ended
  | 20 => some fd_safe_fits
  | 21 => some fd_side_fits
  | 22 => some fd_why_not
  | 23 => some fd_goes
  | 24 => some fd__law_rules
  | 25 => some fd__law_ask
  | 26 => some fd__law_host_fits
  | 27 => some fd__law_path_fits
  | 28 => some fd__law_ended
  | 29 => some fd__law_safe_fits
  | 30 => some fd__law_side_fits
  | 31 => some fd__law_why
  | 32 => some fd__law_is_narrow
  | 33 => some fd__law_once
  | 34 => some fd_place
  | 35 => some fd_sent
  | 36 => some fd_reasons
  | 37 => some fd_head_of
  | 38 => some fd_head
  | 39 => some fd_named
  | 40 => some fd__law_sent
  | 41 => some fd__law_word
  | 42 => some fd__law_said
  | 43 => some fd_mark
  | 44 => some fd_put
  | 45 => some fd_without
  | 46 => some fd_dropped
  | 47 => some fd_fresh
  | 48 => some fd__law_said__v1
  | 49 => some fd__law_put
  | 51 => some fd__law_take
  | 52 => some fd__law_is_first
  | 53 => some fd_do
  | 54 => some fd_run
  | 55 => some fd_parts_at
  | 56 => some fd__law_row_deed
  | 57 => some fd__law_take__v1
  | 58 => some fd__law_run
  | 59 => some fd__law_by_jar
  | 60 => some fd__law_told
  | 61 => some fd__law_deed
  | 62 => some fd__law_after
  | 63 => some fd_run__v1
  | 64 => some fd__law_sided
  | 65 => some fd__law_side_deed
  | 66 => some fd__law_is_as
  | 67 => some fd_are_letters
  | 68 => some fd_is_host
  | 69 => some fd_is_path
  | 70 => some fd_is_time
  | 71 => some fd_is_note
  | 73 => some fd__law_do
  | 74 => some fd__law_now
  | 75 => some fd__law_are_ticks
  | 500 => some fd_Jar___init__
  | 501 => some fd_Jar_become
  | 502 => some fd_Jar_take
  | 503 => some fd_Jar_ask
  | 504 => some fd_Jar_pass_on
  | 505 => some fd_Jar_notes
  | 506 => some fd_Jar_time
  | 507 => some fd_Jar_rules
  | 508 => some fd_Jar_change
  | 509 => some fd_Jar_undo
  | 510 => some fd_Jar_log
  | 550 => some fd_Sides___init__
  | 555 => some fd_Sides_notes
  | 561 => some fd_Sides_do
  | 562 => some fd_Sides_deeds
  | 563 => some fd_Sides_unlike
  | 564 => some fd_Sides_back
  | 565 => some fd_Sides_forth
  | 566 => some fd_Sides_steps
  | _ => none
end Lw
set_option Elab.async false
set_option linter.all false
set_option maxRecDepth 100000
namespace Lw
open Ev
def lb_law_1 : Sms := Sms.cons (Sm.asg 10 (Ex.call 65 (Exs.cons (Ex.bin Bop.add (Ex.bin Bop.add (Ex.call 7 (Exs.cons (Ex.var 0) (Exs.cons (Ex.bin Bop.mod (Ex.var 3) (Ex.dat (D.int 9))) Exs.nil))) (Ex.bin Bop.mul (Ex.dat (D.int 47)) (Ex.var 3))) (Ex.var 1)) (Exs.cons (Ex.var 4) Exs.nil)))) (Sms.cons (Sm.par [11, 12] (Exs.cons (Ex.call 64 (Exs.cons (Ex.var 7) (Exs.cons (Ex.var 10) Exs.nil))) (Exs.cons (Ex.dat D.non) Exs.nil))) (Sms.cons (Sm.ife (Ex.cmp Cop.isin (Ex.idx (Ex.var 10) (Ex.dat (D.int 0))) (Ex.tup (Exs.cons (Ex.dat (D.str [98, 97, 99, 107])) (Exs.cons (Ex.dat (D.str [102, 111, 114, 116, 104])) Exs.nil)))) (Sms.cons (Sm.asgT [13, 14] (Ex.ife (Ex.cmp Cop.eq (Ex.idx (Ex.var 10) (Ex.dat (D.int 0))) (Ex.dat (D.str [98, 97, 99, 107]))) (Ex.tup (Exs.cons (Ex.var 8) (Exs.cons (Ex.var 9) Exs.nil))) (Ex.tup (Exs.cons (Ex.var 9) (Exs.cons (Ex.var 8) Exs.nil))))) (Sms.cons (Sm.asg 12 (Ex.ife (Ex.cmp Cop.eq (Ex.var 13) (Ex.lst Exs.nil)) (Ex.dat (D.str [110, 111, 32, 100, 101, 101, 100])) (Ex.dat D.non))) (Sms.cons (Sm.ife (Ex.cmp Cop.ne (Ex.var 13) (Ex.lst Exs.nil)) (Sms.cons (Sm.expr (Ex.meth Me.append (Ex.var 14) (Exs.cons (Ex.meth Me.pop (Ex.var 13) Exs.nil) Exs.nil))) Sms.nil) Sms.nil) Sms.nil))) (Sms.cons (Sm.expr (Ex.meth Me.append (Ex.var 8) (Exs.cons (Ex.var 10) Exs.nil))) (Sms.cons (Sm.par [9, 12] (Exs.cons (Ex.lst Exs.nil) (Exs.cons (Ex.tup (Exs.cons (Ex.idx (Ex.idx (Ex.call 58 (Exs.cons (Ex.var 5) (Exs.cons (Ex.var 8) Exs.nil))) (Ex.dat (D.int 0))) (Ex.dat (D.int (-1)))) (Exs.cons (Ex.idx (Ex.idx (Ex.call 58 (Exs.cons (Ex.var 6) (Exs.cons (Ex.var 8) Exs.nil))) (Ex.dat (D.int 0))) (Ex.dat (D.int (-1)))) Exs.nil))) Exs.nil))) Sms.nil))) (Sms.cons (Sm.ife (Ex.or (Ex.cmp Cop.ne (Ex.var 11) (Ex.var 12)) (Ex.not (Ex.call 66 (Exs.cons (Ex.var 7) (Exs.cons (Ex.var 5) (Exs.cons (Ex.var 6) (Exs.cons (Ex.var 8) (Exs.cons (Ex.var 9) Exs.nil)))))))) (Sms.cons (Sm.ret (Ex.dat (D.bl false))) Sms.nil) Sms.nil) Sms.nil)))
def lb_law_2 : Sms := Sms.cons (Sm.asg 2 (Ex.bin Bop.add (Ex.call 7 (Exs.cons (Ex.var 0) (Exs.cons (Ex.var 1) Exs.nil))) (Ex.bin Bop.mul (Ex.dat (D.int 43)) (Ex.var 1)))) (Sms.cons (Sm.par [4, 5, 6] (Exs.cons (Ex.call 14 (Exs.cons (Ex.var 2) (Exs.cons (Ex.dat (D.int 4)) Exs.nil))) (Exs.cons (Ex.call 24 (Exs.cons (Ex.bin Bop.add (Ex.var 2) (Ex.dat (D.int 3))) Exs.nil)) (Exs.cons (Ex.call 24 (Exs.cons (Ex.bin Bop.add (Ex.var 2) (Ex.dat (D.int 7))) Exs.nil)) Exs.nil)))) (Sms.cons (Sm.par [7, 8, 9] (Exs.cons (Ex.make 1 (Exs.cons (Ex.var 5) (Exs.cons (Ex.var 6) Exs.nil))) (Exs.cons (Ex.lst Exs.nil) (Exs.cons (Ex.lst Exs.nil) Exs.nil)))) (Sms.cons (Sm.loop (Tg.one 3) (It.range1 (Ex.dat (D.int 20))) lb_law_1 false) Sms.nil)))
def sm_law : Sms := Sms.cons (Sm.loop (Tg.one 1) (It.range1 (Ex.dat (D.int 6))) lb_law_2 true) (Sms.cons (Sm.ret (Ex.dat (D.bl true))) Sms.nil)
def fd_law : FD := ⟨1, 15, sm_law⟩
end Lw
set_option Elab.async false
set_option linter.all false
set_option maxRecDepth 100000
set_option maxHeartbeats 0
namespace Lw
open PySem L2 Ev
def top (i : Nat) : Stmt := PySem.Challenge.pw_noterules_k24_sides.main.body.getD i (.Pass ⟨0, 0, 0, 0⟩)
def clsBody : Stmt → List Stmt
  | .ClassDef _ _ _ b _ _ _ _ _ _ _ => b
  | _ => []
def mth (i k : Nat) : Stmt := (clsBody (top i)).getD k (.Pass ⟨0, 0, 0, 0⟩)
def dats : List (Str × D) := [("LAST_TIME", (.int (99))), ("MOST_NOTES", (.int (6)))]
def blts : List Str := ["len", "tuple", "sorted", "min", "max", "isinstance", "range", "enumerate", "str", "ValueError"]
def oc : OC := ⟨[("manner", 0, [0]), ("some", 1, [0]), ("now", 2, [0]), ("past", 3, [0]), ("asked", 4, [0]), ("both", 5, [1]), ("row", 6, [1]), ("undone", 7, [1])], [("become", 1, 4, [0]), ("take", 2, 3, [0]), ("ask", 3, 6, [0]), ("pass_on", 4, 2, [0]), ("notes", 5, 1, [0, 1]), ("time", 6, 1, [0]), ("rules", 7, 1, [0]), ("do", 11, 2, [1]), ("deeds", 12, 1, [1]), ("unlike", 13, 1, [1]), ("back", 14, 1, [1]), ("forth", 15, 1, [1]), ("steps", 16, 1, [1])], [("Jar", 0, 2), ("Sides", 1, 3)]⟩
def cls : XOC := ⟨[("NoteError", 1), ("Full", 3), ("NotTheirs", 5), ("NoDeed", 6)], oc⟩
def de0 : DE := ⟨43, "mark", defArgs (top 9), defBody (top 9), defScope (top 9), ["note"], ["note"], [], sm_mark, false, ("mark", none), "mark", none⟩
def de1 : DE := ⟨1, "is_below", defArgs (top 10), defBody (top 10), defScope (top 10), ["one", "other"], ["one", "other"], [], sm_is_below, false, ("is_below", none), "is_below", none⟩
def de2 : DE := ⟨2, "site", defArgs (top 11), defBody (top 11), defScope (top 11), ["host"], ["host"], [], sm_site, false, ("site", none), "site", none⟩
def de3 : DE := ⟨3, "steps", defArgs (top 12), defBody (top 12), defScope (top 12), ["path"], ["path"], [], sm_steps, false, ("steps", none), "steps", none⟩
def de4 : DE := ⟨17, "host_fits", defArgs (top 14), defBody (top 14), defScope (top 14), ["rules", "note", "host", "is_wide"], ["rules", "note", "host"], [], sm_host_fits, false, ("host_fits", none), "host_fits", none⟩
def de5 : DE := ⟨18, "path_fits", defArgs (top 15), defBody (top 15), defScope (top 15), ["rules", "note", "path", "some"], ["rules", "note", "path"], [], sm_path_fits, false, ("path_fits", none), "path_fits", none⟩
def de6 : DE := ⟨19, "has_ended", defArgs (top 16), defBody (top 16), defScope (top 16), ["rules", "note", "time"], ["rules", "note", "time"], [], sm_has_ended, false, ("has_ended", none), "has_ended", none⟩
def de7 : DE := ⟨20, "safe_fits", defArgs (top 17), defBody (top 17), defScope (top 17), ["rules", "note", "ask"], ["rules", "note", "ask"], [], sm_safe_fits, false, ("safe_fits", none), "safe_fits", none⟩
def de8 : DE := ⟨21, "side_fits", defArgs (top 18), defBody (top 18), defScope (top 18), ["rules", "note", "ask"], ["rules", "note", "ask"], [], sm_side_fits, false, ("side_fits", none), "side_fits", none⟩
def de9 : DE := ⟨22, "why_not", defArgs (top 19), defBody (top 19), defScope (top 19), ["rules", "note", "ask"], ["rules", "note", "ask"], [], sm_why_not, false, ("why_not", none), "why_not", none⟩
def de10 : DE := ⟨23, "goes", defArgs (top 20), defBody (top 20), defScope (top 20), ["rules", "note", "ask"], ["rules", "note", "ask"], [], sm_goes, false, ("goes", none), "goes", none⟩
def de11 : DE := ⟨44, "put", defArgs (top 22), defBody (top 22), defScope (top 22), ["notes", "note", "marks", "where", "one"], ["notes", "note"], [], sm_put, false, ("put", none), "put", none⟩
def de12 : DE := ⟨45, "without", defArgs (top 23), defBody (top 23), defScope (top 23), ["notes", "one", "note"], ["notes", "one"], [], sm_without, false, ("without", none), "without", none⟩
def de13 : DE := ⟨47, "fresh", defArgs (top 24), defBody (top 24), defScope (top 24), ["rules", "notes", "time", "note"], ["rules", "notes", "time"], [], sm_fresh, false, ("fresh", none), "fresh", none⟩
def de14 : DE := ⟨5, "may_put", defArgs (top 25), defBody (top 25), defScope (top 25), ["note", "host"], ["note", "host"], [], sm_may_put, false, ("may_put", none), "may_put", none⟩
def de15 : DE := ⟨34, "place", defArgs (top 27), defBody (top 27), defScope (top 27), ["rules", "note"], ["rules", "note"], [], sm_place, false, ("place", none), "place", none⟩
def de16 : DE := ⟨35, "sent", defArgs (top 28), defBody (top 28), defScope (top 28), ["rules", "notes", "ask", "some", "note"], ["rules", "notes", "ask"], [], sm_sent, false, ("sent", none), "sent", none⟩
def de17 : DE := ⟨53, "do", defArgs (top 32), defBody (top 32), defScope (top 32), ["jar", "deed", "found"], ["jar", "deed"], [], sm_do, false, ("do", none), "do", none⟩
def de18 : DE := ⟨63, "run", defArgs (top 34), defBody (top 34), defScope (top 34), ["rules", "deeds", "jar", "deed"], ["rules", "deeds"], [], sm_run__v1, false, ("run", none), "run", none⟩
def de19 : DE := ⟨7, "_law_cell", defArgs (top 38), defBody (top 38), defScope (top 38), ["script", "k"], ["script", "k"], [], sm__law_cell, false, ("_law_cell", none), "_law_cell", none⟩
def de20 : DE := ⟨8, "_law_mix", defArgs (top 39), defBody (top 39), defScope (top 39), ["cell", "prime", "many", "blend"], ["cell", "prime", "many"], [], sm__law_mix, false, ("_law_mix", none), "_law_mix", none⟩
def de21 : DE := ⟨10, "_law_host", defArgs (top 40), defBody (top 40), defScope (top 40), ["cell", "labels", "n"], ["cell"], [], sm__law_host, false, ("_law_host", none), "_law_host", none⟩
def de22 : DE := ⟨11, "_law_path", defArgs (top 41), defBody (top 41), defScope (top 41), ["cell", "some", "n"], ["cell"], [], sm__law_path, false, ("_law_path", none), "_law_path", none⟩
def de23 : DE := ⟨12, "_law_note", defArgs (top 42), defBody (top 42), defScope (top 42), ["cell", "end", "first", "rest"], ["cell"], [], sm__law_note, false, ("_law_note", none), "_law_note", none⟩
def de24 : DE := ⟨13, "_law_mark", defArgs (top 43), defBody (top 43), defScope (top 43), ["note"], ["note"], [], sm__law_mark, false, ("_law_mark", none), "_law_mark", none⟩
def de25 : DE := ⟨14, "_law_notes", defArgs (top 44), defBody (top 44), defScope (top 44), ["cell", "most", "rows", "n", "note", "one"], ["cell", "most"], [], sm__law_notes, false, ("_law_notes", none), "_law_notes", none⟩
def de26 : DE := ⟨24, "_law_rules", defArgs (top 45), defBody (top 45), defScope (top 45), ["cell", "some", "found", "n", "tokens"], ["cell"], [], sm__law_rules, false, ("_law_rules", none), "_law_rules", none⟩
def de27 : DE := ⟨25, "_law_ask", defArgs (top 46), defBody (top 46), defScope (top 46), ["cell", "notes", "time", "origin", "host", "path", "more", "note", "other"], ["cell", "notes"], [], sm__law_ask, false, ("_law_ask", none), "_law_ask", none⟩
def de28 : DE := ⟨56, "_law_row_deed", defArgs (top 47), defBody (top 47), defScope (top 47), ["cell", "notes", "way", "note", "ask"], ["cell", "notes"], [], sm__law_row_deed, false, ("_law_row_deed", none), "_law_row_deed", none⟩
def de29 : DE := ⟨15, "_law_site", defArgs (top 48), defBody (top 48), defScope (top 48), ["host", "labels"], ["host"], [], sm__law_site, false, ("_law_site", none), "_law_site", none⟩
def de30 : DE := ⟨16, "_law_steps", defArgs (top 49), defBody (top 49), defScope (top 49), ["path", "step"], ["path"], [], sm__law_steps, false, ("_law_steps", none), "_law_steps", none⟩
def de31 : DE := ⟨26, "_law_host_fits", defArgs (top 50), defBody (top 50), defScope (top 50), ["rules", "note", "host", "mine", "yours"], ["rules", "note", "host"], [], sm__law_host_fits, false, ("_law_host_fits", none), "_law_host_fits", none⟩
def de32 : DE := ⟨27, "_law_path_fits", defArgs (top 51), defBody (top 51), defScope (top 51), ["rules", "note", "path", "mine", "yours"], ["rules", "note", "path"], [], sm__law_path_fits, false, ("_law_path_fits", none), "_law_path_fits", none⟩
def de33 : DE := ⟨28, "_law_ended", defArgs (top 52), defBody (top 52), defScope (top 52), ["rules", "note", "time"], ["rules", "note", "time"], [], sm__law_ended, false, ("_law_ended", none), "_law_ended", none⟩
def de34 : DE := ⟨29, "_law_safe_fits", defArgs (top 53), defBody (top 53), defScope (top 53), ["rules", "note", "ask"], ["rules", "note", "ask"], [], sm__law_safe_fits, false, ("_law_safe_fits", none), "_law_safe_fits", none⟩
def de35 : DE := ⟨30, "_law_side_fits", defArgs (top 54), defBody (top 54), defScope (top 54), ["rules", "note", "ask"], ["rules", "note", "ask"], [], sm__law_side_fits, false, ("_law_side_fits", none), "_law_side_fits", none⟩
def de36 : DE := ⟨31, "_law_why", defArgs (top 55), defBody (top 55), defScope (top 55), ["rules", "note", "ask"], ["rules", "note", "ask"], [], sm__law_why, false, ("_law_why", none), "_law_why", none⟩
def de37 : DE := ⟨40, "_law_sent", defArgs (top 56), defBody (top 56), defScope (top 56), ["rules", "notes", "ask", "rows", "n", "note", "row"], ["rules", "notes", "ask"], [], sm__law_sent, false, ("_law_sent", none), "_law_sent", none⟩
def de38 : DE := ⟨57, "_law_take", defArgs (top 57), defBody (top 57), defScope (top 57), ["state", "note", "host", "marks", "rules", "notes", "time", "high", "low", "n", "one"], ["state", "note", "host"], [], sm__law_take__v1, false, ("_law_take", none), "_law_take", none⟩
def de39 : DE := ⟨58, "_law_run", defArgs (top 58), defBody (top 58), defScope (top 58), ["rules", "deeds", "deed", "state", "told", "time", "new", "one"], ["rules", "deeds"], [], sm__law_run, false, ("_law_run", none), "_law_run", none⟩
def de40 : DE := ⟨64, "_law_sided", defArgs (top 59), defBody (top 59), defScope (top 59), ["sides", "deed", "told", "e"], ["sides", "deed"], [], sm__law_sided, false, ("_law_sided", none), "_law_sided", none⟩
def de41 : DE := ⟨65, "_law_side_deed", defArgs (top 60), defBody (top 60), defScope (top 60), ["cell", "notes", "way"], ["cell", "notes"], [], sm__law_side_deed, false, ("_law_side_deed", none), "_law_side_deed", none⟩
def de42 : DE := ⟨66, "_law_is_as", defArgs (top 61), defBody (top 61), defScope (top 61), ["sides", "one", "other", "past", "later", "mine", "yours", "n"], ["sides", "one", "other", "past", "later"], [], sm__law_is_as, false, ("_law_is_as", none), "_law_is_as", none⟩
def de43 : DE := ⟨0, "law", defArgs (top 62), defBody (top 62), defScope (top 62), ["script", "k", "cell", "turn", "notes", "one", "other", "sides", "past", "later", "deed", "told", "due", "source", "goal"], ["script"], [361], sm_law, false, ("law", none), "law", none⟩
def de44 : DE := ⟨500, "__init__", defArgs (mth 30 0), defBody (mth 30 0), defScope (mth 30 0), ["self", "rules"], ["self", "rules"], [], sm_Jar___init__, false, ("Jar", some "__init__"), "Jar.__init__", some (0, 0)⟩
def de45 : DE := ⟨501, "become", defArgs (mth 30 1), defBody (mth 30 1), defScope (mth 30 1), ["self", "rules", "notes", "time"], ["self", "rules", "notes", "time"], [], sm_Jar_become, false, ("Jar", some "become"), "Jar.become", some (0, 1)⟩
def de46 : DE := ⟨502, "take", defArgs (mth 30 2), defBody (mth 30 2), defScope (mth 30 2), ["self", "note", "host", "notes"], ["self", "note", "host"], [], sm_Jar_take, false, ("Jar", some "take"), "Jar.take", some (0, 2)⟩
def de47 : DE := ⟨503, "ask", defArgs (mth 30 3), defBody (mth 30 3), defScope (mth 30 3), ["self", "host", "path", "is_safe", "origin", "is_led", "ask", "found"], ["self", "host", "path", "is_safe", "origin", "is_led"], [], sm_Jar_ask, false, ("Jar", some "ask"), "Jar.ask", some (0, 3)⟩
def de48 : DE := ⟨504, "pass_on", defArgs (mth 30 4), defBody (mth 30 4), defScope (mth 30 4), ["self", "many", "time"], ["self", "many"], [], sm_Jar_pass_on, false, ("Jar", some "pass_on"), "Jar.pass_on", some (0, 4)⟩
def de49 : DE := ⟨505, "notes", defArgs (mth 30 5), defBody (mth 30 5), defScope (mth 30 5), ["self"], ["self"], [], sm_Jar_notes, false, ("Jar", some "notes"), "Jar.notes", some (0, 5)⟩
def de50 : DE := ⟨506, "time", defArgs (mth 30 6), defBody (mth 30 6), defScope (mth 30 6), ["self"], ["self"], [], sm_Jar_time, false, ("Jar", some "time"), "Jar.time", some (0, 6)⟩
def de51 : DE := ⟨507, "rules", defArgs (mth 30 7), defBody (mth 30 7), defScope (mth 30 7), ["self"], ["self"], [], sm_Jar_rules, false, ("Jar", some "rules"), "Jar.rules", some (0, 7)⟩
def de52 : DE := ⟨550, "__init__", defArgs (mth 36 0), defBody (mth 36 0), defScope (mth 36 0), ["self", "one", "other"], ["self", "one", "other"], [], sm_Sides___init__, false, ("Sides", some "__init__"), "Sides.__init__", some (1, 0)⟩
def de53 : DE := ⟨561, "do", defArgs (mth 36 1), defBody (mth 36 1), defScope (mth 36 1), ["self", "deed", "rules"], ["self", "deed"], [], sm_Sides_do, false, ("Sides", some "do"), "Sides.do", some (1, 11)⟩
def de54 : DE := ⟨562, "deeds", defArgs (mth 36 2), defBody (mth 36 2), defScope (mth 36 2), ["self"], ["self"], [], sm_Sides_deeds, false, ("Sides", some "deeds"), "Sides.deeds", some (1, 12)⟩
def de55 : DE := ⟨563, "unlike", defArgs (mth 36 3), defBody (mth 36 3), defScope (mth 36 3), ["self", "mine", "yours", "rules", "k"], ["self"], [], sm_Sides_unlike, false, ("Sides", some "unlike"), "Sides.unlike", some (1, 13)⟩
def de56 : DE := ⟨555, "notes", defArgs (mth 36 4), defBody (mth 36 4), defScope (mth 36 4), ["self", "found", "rules", "jar", "deed"], ["self"], [], sm_Sides_notes, false, ("Sides", some "notes"), "Sides.notes", some (1, 5)⟩
def de57 : DE := ⟨564, "back", defArgs (mth 36 5), defBody (mth 36 5), defScope (mth 36 5), ["self"], ["self"], [], sm_Sides_back, false, ("Sides", some "back"), "Sides.back", some (1, 14)⟩
def de58 : DE := ⟨565, "forth", defArgs (mth 36 6), defBody (mth 36 6), defScope (mth 36 6), ["self"], ["self"], [], sm_Sides_forth, false, ("Sides", some "forth"), "Sides.forth", some (1, 15)⟩
def de59 : DE := ⟨566, "steps", defArgs (mth 36 7), defBody (mth 36 7), defScope (mth 36 7), ["self"], ["self"], [], sm_Sides_steps, false, ("Sides", some "steps"), "Sides.steps", some (1, 16)⟩
def de60 : DE := ⟨53, "do", defArgs (top 32), defBody (top 32), defScope (top 32), ["jar", "deed", "found"], ["jar", "deed"], [], sm_do, false, ("do_running", none), "do", none⟩
def tab : List DE := [de0, de1, de2, de3, de4, de5, de6, de7, de8, de9, de10, de11, de12, de13, de14, de15, de16, de17, de18, de19, de20, de21, de22, de23, de24, de25, de26, de27, de28, de29, de30, de31, de32, de33, de34, de35, de36, de37, de38, de39, de40, de41, de42, de43, de44, de45, de46, de47, de48, de49, de50, de51, de52, de53, de54, de55, de56, de57, de58, de59, de60]
def fns0 : List (Str × Nat × Nat) := [(("mark" : Str), 43, 1), (("is_below" : Str), 1, 2), (("site" : Str), 2, 1), (("steps" : Str), 3, 1), (("host_fits" : Str), 17, 3), (("path_fits" : Str), 18, 3), (("has_ended" : Str), 19, 3), (("safe_fits" : Str), 20, 3), (("side_fits" : Str), 21, 3), (("why_not" : Str), 22, 3), (("goes" : Str), 23, 3), (("put" : Str), 44, 2), (("without" : Str), 45, 2), (("fresh" : Str), 47, 3), (("may_put" : Str), 5, 2), (("place" : Str), 34, 2), (("sent" : Str), 35, 3), (("do" : Str), 53, 2), (("run" : Str), 63, 2), (("_law_cell" : Str), 7, 2), (("_law_mix" : Str), 8, 3), (("_law_host" : Str), 10, 1), (("_law_path" : Str), 11, 1), (("_law_note" : Str), 12, 1), (("_law_mark" : Str), 13, 1), (("_law_notes" : Str), 14, 2), (("_law_rules" : Str), 24, 1), (("_law_ask" : Str), 25, 2), (("_law_row_deed" : Str), 56, 2), (("_law_site" : Str), 15, 1), (("_law_steps" : Str), 16, 1), (("_law_host_fits" : Str), 26, 3), (("_law_path_fits" : Str), 27, 3), (("_law_ended" : Str), 28, 3), (("_law_safe_fits" : Str), 29, 3), (("_law_side_fits" : Str), 30, 3), (("_law_why" : Str), 31, 3), (("_law_sent" : Str), 40, 3), (("_law_take" : Str), 57, 3), (("_law_run" : Str), 58, 2), (("_law_sided" : Str), 64, 2), (("_law_side_deed" : Str), 65, 2), (("_law_is_as" : Str), 66, 5), (("law" : Str), 0, 1), (("do_running" : Str), 53, 2)]
def hfn0 : List (Str × Nat) := []
def g1 : Env1 := ⟨fns0, hfn0, dats, blts, cls⟩
theorem g1_eq : envOf tab dats blts cls = g1 := rfl
theorem ok0 : DEOk g1 de0 := ⟨⟨rfl, rfl, rfl, by decide +kernel, by decide +kernel, by decide +kernel, by decide +kernel⟩, fun _ _ _ _ _ _ us hl => match us, hl with | [_], _ => rfl, by kernel_rfl, by decide +kernel⟩
theorem ok1 : DEOk g1 de1 := ⟨⟨rfl, rfl, rfl, by decide +kernel, by decide +kernel, by decide +kernel, by decide +kernel⟩, fun _ _ _ _ _ _ us hl => match us, hl with | [_, _], _ => rfl, by kernel_rfl, by decide +kernel⟩
theorem ok2 : DEOk g1 de2 := ⟨⟨rfl, rfl, rfl, by decide +kernel, by decide +kernel, by decide +kernel, by decide +kernel⟩, fun _ _ _ _ _ _ us hl => match us, hl with | [_], _ => rfl, by kernel_rfl, by decide +kernel⟩
theorem ok3 : DEOk g1 de3 := ⟨⟨rfl, rfl, rfl, by decide +kernel, by decide +kernel, by decide +kernel, by decide +kernel⟩, fun _ _ _ _ _ _ us hl => match us, hl with | [_], _ => rfl, by kernel_rfl, by decide +kernel⟩
theorem ok4 : DEOk g1 de4 := ⟨⟨rfl, rfl, rfl, by decide +kernel, by decide +kernel, by decide +kernel, by decide +kernel⟩, fun _ _ _ _ _ _ us hl => match us, hl with | [_, _, _], _ => rfl, by kernel_rfl, by decide +kernel⟩
theorem ok5 : DEOk g1 de5 := ⟨⟨rfl, rfl, rfl, by decide +kernel, by decide +kernel, by decide +kernel, by decide +kernel⟩, fun _ _ _ _ _ _ us hl => match us, hl with | [_, _, _], _ => rfl, by kernel_rfl, by decide +kernel⟩
theorem ok6 : DEOk g1 de6 := ⟨⟨rfl, rfl, rfl, by decide +kernel, by decide +kernel, by decide +kernel, by decide +kernel⟩, fun _ _ _ _ _ _ us hl => match us, hl with | [_, _, _], _ => rfl, by kernel_rfl, by decide +kernel⟩
theorem ok7 : DEOk g1 de7 := ⟨⟨rfl, rfl, rfl, by decide +kernel, by decide +kernel, by decide +kernel, by decide +kernel⟩, fun _ _ _ _ _ _ us hl => match us, hl with | [_, _, _], _ => rfl, by kernel_rfl, by decide +kernel⟩
theorem ok8 : DEOk g1 de8 := ⟨⟨rfl, rfl, rfl, by decide +kernel, by decide +kernel, by decide +kernel, by decide +kernel⟩, fun _ _ _ _ _ _ us hl => match us, hl with | [_, _, _], _ => rfl, by kernel_rfl, by decide +kernel⟩
theorem ok9 : DEOk g1 de9 := ⟨⟨rfl, rfl, rfl, by decide +kernel, by decide +kernel, by decide +kernel, by decide +kernel⟩, fun _ _ _ _ _ _ us hl => match us, hl with | [_, _, _], _ => rfl, by kernel_rfl, by decide +kernel⟩
theorem ok10 : DEOk g1 de10 := ⟨⟨rfl, rfl, rfl, by decide +kernel, by decide +kernel, by decide +kernel, by decide +kernel⟩, fun _ _ _ _ _ _ us hl => match us, hl with | [_, _, _], _ => rfl, by kernel_rfl, by decide +kernel⟩
theorem ok11 : DEOk g1 de11 := ⟨⟨rfl, rfl, rfl, by decide +kernel, by decide +kernel, by decide +kernel, by decide +kernel⟩, fun _ _ _ _ _ _ us hl => match us, hl with | [_, _], _ => rfl, by kernel_rfl, by decide +kernel⟩
theorem ok12 : DEOk g1 de12 := ⟨⟨rfl, rfl, rfl, by decide +kernel, by decide +kernel, by decide +kernel, by decide +kernel⟩, fun _ _ _ _ _ _ us hl => match us, hl with | [_, _], _ => rfl, by kernel_rfl, by decide +kernel⟩
theorem ok13 : DEOk g1 de13 := ⟨⟨rfl, rfl, rfl, by decide +kernel, by decide +kernel, by decide +kernel, by decide +kernel⟩, fun _ _ _ _ _ _ us hl => match us, hl with | [_, _, _], _ => rfl, by kernel_rfl, by decide +kernel⟩
theorem ok14 : DEOk g1 de14 := ⟨⟨rfl, rfl, rfl, by decide +kernel, by decide +kernel, by decide +kernel, by decide +kernel⟩, fun _ _ _ _ _ _ us hl => match us, hl with | [_, _], _ => rfl, by kernel_rfl, by decide +kernel⟩
theorem ok15 : DEOk g1 de15 := ⟨⟨rfl, rfl, rfl, by decide +kernel, by decide +kernel, by decide +kernel, by decide +kernel⟩, fun _ _ _ _ _ _ us hl => match us, hl with | [_, _], _ => rfl, by kernel_rfl, by decide +kernel⟩
theorem ok16 : DEOk g1 de16 := ⟨⟨rfl, rfl, rfl, by decide +kernel, by decide +kernel, by decide +kernel, by decide +kernel⟩, fun _ _ _ _ _ _ us hl => match us, hl with | [_, _, _], _ => rfl, by kernel_rfl, by decide +kernel⟩
theorem ok17 : DEOk g1 de17 := ⟨⟨rfl, rfl, rfl, by decide +kernel, by decide +kernel, by decide +kernel, by decide +kernel⟩, fun _ _ _ _ _ _ us hl => match us, hl with | [_, _], _ => rfl, by kernel_rfl, by decide +kernel⟩
theorem ok18 : DEOk g1 de18 := ⟨⟨rfl, rfl, rfl, by decide +kernel, by decide +kernel, by decide +kernel, by decide +kernel⟩, fun _ _ _ _ _ _ us hl => match us, hl with | [_, _], _ => rfl, by kernel_rfl, by decide +kernel⟩
theorem ok19 : DEOk g1 de19 := ⟨⟨rfl, rfl, rfl, by decide +kernel, by decide +kernel, by decide +kernel, by decide +kernel⟩, fun _ _ _ _ _ _ us hl => match us, hl with | [_, _], _ => rfl, by kernel_rfl, by decide +kernel⟩
theorem ok20 : DEOk g1 de20 := ⟨⟨rfl, rfl, rfl, by decide +kernel, by decide +kernel, by decide +kernel, by decide +kernel⟩, fun _ _ _ _ _ _ us hl => match us, hl with | [_, _, _], _ => rfl, by kernel_rfl, by decide +kernel⟩
theorem ok21 : DEOk g1 de21 := ⟨⟨rfl, rfl, rfl, by decide +kernel, by decide +kernel, by decide +kernel, by decide +kernel⟩, fun _ _ _ _ _ _ us hl => match us, hl with | [_], _ => rfl, by kernel_rfl, by decide +kernel⟩
theorem ok22 : DEOk g1 de22 := ⟨⟨rfl, rfl, rfl, by decide +kernel, by decide +kernel, by decide +kernel, by decide +kernel⟩, fun _ _ _ _ _ _ us hl => match us, hl with | [_], _ => rfl, by kernel_rfl, by decide +kernel⟩
theorem ok23 : DEOk g1 de23 := ⟨⟨rfl, rfl, rfl, by decide +kernel, by decide +kernel, by decide +kernel, by decide +kernel⟩, fun _ _ _ _ _ _ us hl => match us, hl with | [_], _ => rfl, by kernel_rfl, by decide +kernel⟩
theorem ok24 : DEOk g1 de24 := ⟨⟨rfl, rfl, rfl, by decide +kernel, by decide +kernel, by decide +kernel, by decide +kernel⟩, fun _ _ _ _ _ _ us hl => match us, hl with | [_], _ => rfl, by kernel_rfl, by decide +kernel⟩
theorem ok25 : DEOk g1 de25 := ⟨⟨rfl, rfl, rfl, by decide +kernel, by decide +kernel, by decide +kernel, by decide +kernel⟩, fun _ _ _ _ _ _ us hl => match us, hl with | [_, _], _ => rfl, by kernel_rfl, by decide +kernel⟩
theorem ok26 : DEOk g1 de26 := ⟨⟨rfl, rfl, rfl, by decide +kernel, by decide +kernel, by decide +kernel, by decide +kernel⟩, fun _ _ _ _ _ _ us hl => match us, hl with | [_], _ => rfl, by kernel_rfl, by decide +kernel⟩
theorem ok27 : DEOk g1 de27 := ⟨⟨rfl, rfl, rfl, by decide +kernel, by decide +kernel, by decide +kernel, by decide +kernel⟩, fun _ _ _ _ _ _ us hl => match us, hl with | [_, _], _ => rfl, by kernel_rfl, by decide +kernel⟩
theorem ok28 : DEOk g1 de28 := ⟨⟨rfl, rfl, rfl, by decide +kernel, by decide +kernel, by decide +kernel, by decide +kernel⟩, fun _ _ _ _ _ _ us hl => match us, hl with | [_, _], _ => rfl, by kernel_rfl, by decide +kernel⟩
theorem ok29 : DEOk g1 de29 := ⟨⟨rfl, rfl, rfl, by decide +kernel, by decide +kernel, by decide +kernel, by decide +kernel⟩, fun _ _ _ _ _ _ us hl => match us, hl with | [_], _ => rfl, by kernel_rfl, by decide +kernel⟩
theorem ok30 : DEOk g1 de30 := ⟨⟨rfl, rfl, rfl, by decide +kernel, by decide +kernel, by decide +kernel, by decide +kernel⟩, fun _ _ _ _ _ _ us hl => match us, hl with | [_], _ => rfl, by kernel_rfl, by decide +kernel⟩
theorem ok31 : DEOk g1 de31 := ⟨⟨rfl, rfl, rfl, by decide +kernel, by decide +kernel, by decide +kernel, by decide +kernel⟩, fun _ _ _ _ _ _ us hl => match us, hl with | [_, _, _], _ => rfl, by kernel_rfl, by decide +kernel⟩
theorem ok32 : DEOk g1 de32 := ⟨⟨rfl, rfl, rfl, by decide +kernel, by decide +kernel, by decide +kernel, by decide +kernel⟩, fun _ _ _ _ _ _ us hl => match us, hl with | [_, _, _], _ => rfl, by kernel_rfl, by decide +kernel⟩
theorem ok33 : DEOk g1 de33 := ⟨⟨rfl, rfl, rfl, by decide +kernel, by decide +kernel, by decide +kernel, by decide +kernel⟩, fun _ _ _ _ _ _ us hl => match us, hl with | [_, _, _], _ => rfl, by kernel_rfl, by decide +kernel⟩
theorem ok34 : DEOk g1 de34 := ⟨⟨rfl, rfl, rfl, by decide +kernel, by decide +kernel, by decide +kernel, by decide +kernel⟩, fun _ _ _ _ _ _ us hl => match us, hl with | [_, _, _], _ => rfl, by kernel_rfl, by decide +kernel⟩
theorem ok35 : DEOk g1 de35 := ⟨⟨rfl, rfl, rfl, by decide +kernel, by decide +kernel, by decide +kernel, by decide +kernel⟩, fun _ _ _ _ _ _ us hl => match us, hl with | [_, _, _], _ => rfl, by kernel_rfl, by decide +kernel⟩
theorem ok36 : DEOk g1 de36 := ⟨⟨rfl, rfl, rfl, by decide +kernel, by decide +kernel, by decide +kernel, by decide +kernel⟩, fun _ _ _ _ _ _ us hl => match us, hl with | [_, _, _], _ => rfl, by kernel_rfl, by decide +kernel⟩
theorem ok37 : DEOk g1 de37 := ⟨⟨rfl, rfl, rfl, by decide +kernel, by decide +kernel, by decide +kernel, by decide +kernel⟩, fun _ _ _ _ _ _ us hl => match us, hl with | [_, _, _], _ => rfl, by kernel_rfl, by decide +kernel⟩
theorem ok38 : DEOk g1 de38 := ⟨⟨rfl, rfl, rfl, by decide +kernel, by decide +kernel, by decide +kernel, by decide +kernel⟩, fun _ _ _ _ _ _ us hl => match us, hl with | [_, _, _], _ => rfl, by kernel_rfl, by decide +kernel⟩
theorem ok39 : DEOk g1 de39 := ⟨⟨rfl, rfl, rfl, by decide +kernel, by decide +kernel, by decide +kernel, by decide +kernel⟩, fun _ _ _ _ _ _ us hl => match us, hl with | [_, _], _ => rfl, by kernel_rfl, by decide +kernel⟩
theorem ok40 : DEOk g1 de40 := ⟨⟨rfl, rfl, rfl, by decide +kernel, by decide +kernel, by decide +kernel, by decide +kernel⟩, fun _ _ _ _ _ _ us hl => match us, hl with | [_, _], _ => rfl, by kernel_rfl, by decide +kernel⟩
theorem ok41 : DEOk g1 de41 := ⟨⟨rfl, rfl, rfl, by decide +kernel, by decide +kernel, by decide +kernel, by decide +kernel⟩, fun _ _ _ _ _ _ us hl => match us, hl with | [_, _], _ => rfl, by kernel_rfl, by decide +kernel⟩
theorem ok42 : DEOk g1 de42 := ⟨⟨rfl, rfl, rfl, by decide +kernel, by decide +kernel, by decide +kernel, by decide +kernel⟩, fun _ _ _ _ _ _ us hl => match us, hl with | [_, _, _, _, _], _ => rfl, by kernel_rfl, by decide +kernel⟩
theorem ok43 : DEOk g1 de43 := ⟨⟨rfl, rfl, rfl, by decide +kernel, by decide +kernel, by decide +kernel, by decide +kernel⟩, fun _ _ _ _ _ _ us hl => match us, hl with | [_], _ => rfl, by kernel_rfl, by decide +kernel⟩
theorem ok44 : DEOk g1 de44 := ⟨⟨rfl, rfl, rfl, by decide +kernel, by decide +kernel, by decide +kernel, by decide +kernel⟩, fun _ _ _ _ _ _ us hl => match us, hl with | [_, _], _ => rfl, by kernel_rfl, by decide +kernel⟩
theorem ok45 : DEOk g1 de45 := ⟨⟨rfl, rfl, rfl, by decide +kernel, by decide +kernel, by decide +kernel, by decide +kernel⟩, fun _ _ _ _ _ _ us hl => match us, hl with | [_, _, _, _], _ => rfl, by kernel_rfl, by decide +kernel⟩
theorem ok46 : DEOk g1 de46 := ⟨⟨rfl, rfl, rfl, by decide +kernel, by decide +kernel, by decide +kernel, by decide +kernel⟩, fun _ _ _ _ _ _ us hl => match us, hl with | [_, _, _], _ => rfl, by kernel_rfl, by decide +kernel⟩
theorem ok47 : DEOk g1 de47 := ⟨⟨rfl, rfl, rfl, by decide +kernel, by decide +kernel, by decide +kernel, by decide +kernel⟩, fun _ _ _ _ _ _ us hl => match us, hl with | [_, _, _, _, _, _], _ => rfl, by kernel_rfl, by decide +kernel⟩
theorem ok48 : DEOk g1 de48 := ⟨⟨rfl, rfl, rfl, by decide +kernel, by decide +kernel, by decide +kernel, by decide +kernel⟩, fun _ _ _ _ _ _ us hl => match us, hl with | [_, _], _ => rfl, by kernel_rfl, by decide +kernel⟩
theorem ok49 : DEOk g1 de49 := ⟨⟨rfl, rfl, rfl, by decide +kernel, by decide +kernel, by decide +kernel, by decide +kernel⟩, fun _ _ _ _ _ _ us hl => match us, hl with | [_], _ => rfl, by kernel_rfl, by decide +kernel⟩
theorem ok50 : DEOk g1 de50 := ⟨⟨rfl, rfl, rfl, by decide +kernel, by decide +kernel, by decide +kernel, by decide +kernel⟩, fun _ _ _ _ _ _ us hl => match us, hl with | [_], _ => rfl, by kernel_rfl, by decide +kernel⟩
theorem ok51 : DEOk g1 de51 := ⟨⟨rfl, rfl, rfl, by decide +kernel, by decide +kernel, by decide +kernel, by decide +kernel⟩, fun _ _ _ _ _ _ us hl => match us, hl with | [_], _ => rfl, by kernel_rfl, by decide +kernel⟩
theorem ok52 : DEOk g1 de52 := ⟨⟨rfl, rfl, rfl, by decide +kernel, by decide +kernel, by decide +kernel, by decide +kernel⟩, fun _ _ _ _ _ _ us hl => match us, hl with | [_, _, _], _ => rfl, by kernel_rfl, by decide +kernel⟩
theorem ok53 : DEOk g1 de53 := ⟨⟨rfl, rfl, rfl, by decide +kernel, by decide +kernel, by decide +kernel, by decide +kernel⟩, fun _ _ _ _ _ _ us hl => match us, hl with | [_, _], _ => rfl, by kernel_rfl, by decide +kernel⟩
theorem ok54 : DEOk g1 de54 := ⟨⟨rfl, rfl, rfl, by decide +kernel, by decide +kernel, by decide +kernel, by decide +kernel⟩, fun _ _ _ _ _ _ us hl => match us, hl with | [_], _ => rfl, by kernel_rfl, by decide +kernel⟩
theorem ok55 : DEOk g1 de55 := ⟨⟨rfl, rfl, rfl, by decide +kernel, by decide +kernel, by decide +kernel, by decide +kernel⟩, fun _ _ _ _ _ _ us hl => match us, hl with | [_], _ => rfl, by kernel_rfl, by decide +kernel⟩
theorem ok56 : DEOk g1 de56 := ⟨⟨rfl, rfl, rfl, by decide +kernel, by decide +kernel, by decide +kernel, by decide +kernel⟩, fun _ _ _ _ _ _ us hl => match us, hl with | [_], _ => rfl, by kernel_rfl, by decide +kernel⟩
theorem ok57 : DEOk g1 de57 := ⟨⟨rfl, rfl, rfl, by decide +kernel, by decide +kernel, by decide +kernel, by decide +kernel⟩, fun _ _ _ _ _ _ us hl => match us, hl with | [_], _ => rfl, by kernel_rfl, by decide +kernel⟩
theorem ok58 : DEOk g1 de58 := ⟨⟨rfl, rfl, rfl, by decide +kernel, by decide +kernel, by decide +kernel, by decide +kernel⟩, fun _ _ _ _ _ _ us hl => match us, hl with | [_], _ => rfl, by kernel_rfl, by decide +kernel⟩
theorem ok59 : DEOk g1 de59 := ⟨⟨rfl, rfl, rfl, by decide +kernel, by decide +kernel, by decide +kernel, by decide +kernel⟩, fun _ _ _ _ _ _ us hl => match us, hl with | [_], _ => rfl, by kernel_rfl, by decide +kernel⟩
theorem ok60 : DEOk g1 de60 := ⟨⟨rfl, rfl, rfl, by decide +kernel, by decide +kernel, by decide +kernel, by decide +kernel⟩, fun _ _ _ _ _ _ us hl => match us, hl with | [_, _], _ => rfl, by kernel_rfl, by decide +kernel⟩
-- law: 43
theorem pg_out : ∀ n, 2000 ≤ n → PG fd_law n = none := by
  intro n hn
  unfold PG
  split <;> first | rfl | omega
theorem tab_ok : tabOk (PG fd_law) tab dats blts cls := by
  refine ⟨?_, pg_out, by decide +kernel⟩
  rw [g1_eq]
  intro d hd
  simp only [tab, List.mem_cons, List.not_mem_nil, or_false] at hd
  rcases hd with rfl | rfl | rfl | rfl | rfl | rfl | rfl | rfl | rfl | rfl | rfl | rfl | rfl | rfl | rfl | rfl | rfl | rfl | rfl | rfl | rfl | rfl | rfl | rfl | rfl | rfl | rfl | rfl | rfl | rfl | rfl | rfl | rfl | rfl | rfl | rfl | rfl | rfl | rfl | rfl | rfl | rfl | rfl | rfl | rfl | rfl | rfl | rfl | rfl | rfl | rfl | rfl | rfl | rfl | rfl | rfl | rfl | rfl | rfl | rfl | rfl
  · exact ⟨ok0, rfl⟩
  · exact ⟨ok1, rfl⟩
  · exact ⟨ok2, rfl⟩
  · exact ⟨ok3, rfl⟩
  · exact ⟨ok4, rfl⟩
  · exact ⟨ok5, rfl⟩
  · exact ⟨ok6, rfl⟩
  · exact ⟨ok7, rfl⟩
  · exact ⟨ok8, rfl⟩
  · exact ⟨ok9, rfl⟩
  · exact ⟨ok10, rfl⟩
  · exact ⟨ok11, rfl⟩
  · exact ⟨ok12, rfl⟩
  · exact ⟨ok13, rfl⟩
  · exact ⟨ok14, rfl⟩
  · exact ⟨ok15, rfl⟩
  · exact ⟨ok16, rfl⟩
  · exact ⟨ok17, rfl⟩
  · exact ⟨ok18, rfl⟩
  · exact ⟨ok19, rfl⟩
  · exact ⟨ok20, rfl⟩
  · exact ⟨ok21, rfl⟩
  · exact ⟨ok22, rfl⟩
  · exact ⟨ok23, rfl⟩
  · exact ⟨ok24, rfl⟩
  · exact ⟨ok25, rfl⟩
  · exact ⟨ok26, rfl⟩
  · exact ⟨ok27, rfl⟩
  · exact ⟨ok28, rfl⟩
  · exact ⟨ok29, rfl⟩
  · exact ⟨ok30, rfl⟩
  · exact ⟨ok31, rfl⟩
  · exact ⟨ok32, rfl⟩
  · exact ⟨ok33, rfl⟩
  · exact ⟨ok34, rfl⟩
  · exact ⟨ok35, rfl⟩
  · exact ⟨ok36, rfl⟩
  · exact ⟨ok37, rfl⟩
  · exact ⟨ok38, rfl⟩
  · exact ⟨ok39, rfl⟩
  · exact ⟨ok40, rfl⟩
  · exact ⟨ok41, rfl⟩
  · exact ⟨ok42, rfl⟩
  · exact ⟨ok43, rfl⟩
  · exact ⟨ok44, rfl⟩
  · exact ⟨ok45, rfl⟩
  · exact ⟨ok46, rfl⟩
  · exact ⟨ok47, rfl⟩
  · exact ⟨ok48, rfl⟩
  · exact ⟨ok49, rfl⟩
  · exact ⟨ok50, rfl⟩
  · exact ⟨ok51, rfl⟩
  · exact ⟨ok52, rfl⟩
  · exact ⟨ok53, rfl⟩
  · exact ⟨ok54, rfl⟩
  · exact ⟨ok55, rfl⟩
  · exact ⟨ok56, rfl⟩
  · exact ⟨ok57, rfl⟩
  · exact ⟨ok58, rfl⟩
  · exact ⟨ok59, rfl⟩
  · exact ⟨ok60, rfl⟩
end Lw
set_option Elab.async false
set_option linter.all false
set_option maxRecDepth 100000
namespace Lw
open Ev
theorem run_fd {P : Nat → Option FD} {k f : Nat} {fd : FD} {ds : List D} {S : Store} (h : P f = some fd) (hl : ds.length = fd.np) : run P (k + 1) f ds S = endD (exs (run P k) fd.body (start0 fd.ns ds) S) := by
  rw [run, h]
  exact if_pos hl
/-! ### plain tools -/
@[simp] theorem ok_bind {α β : Type} {a : α} {S : Store} {f : α → Store → Out β} : (Out.ok a S).bind f = f a S := rfl
@[simp] theorem ok_thn {α : Type} {ρ : Env} {a : α} {S : Store} {f : α → Store → SOut} : Out.thn ρ (Out.ok a S) f = f a S := rfl
@[simp] theorem ok_gcO {n : Nat} {d : D} {S : Store} : gcO n (.ok d S) = gc n d S := rfl
@[simp] theorem ev_dat {F : Nat → List D → Store → Out D} {d : D} {ρ : Env} {S : Store} : ev F (.dat d) ρ S = .ok d S := rfl
theorem ev_cmp {F : Nat → List D → Store → Out D} {op : Cop} {a b : Ex} {ρ : Env} {S : Store} : ev F (.cmp op a b) ρ S = (ev F a ρ S).bind fun x S => (ev F b ρ S).bind fun y S => cmpD op x y S := rfl
theorem ev_bin {F : Nat → List D → Store → Out D} {op : Bop} {a b : Ex} {ρ : Env} {S : Store} : ev F (.bin op a b) ρ S = (ev F a ρ S).bind fun x S => (ev F b ρ S).bind fun y S => binD op x y S := rfl
theorem ev_call {F : Nat → List D → Store → Out D} {f : Nat} {es : Exs} {ρ : Env} {S : Store} : ev F (.call f es) ρ S = (evs F es ρ S).bind fun ds S => callF F f ds S := rfl
theorem ev_bi {F : Nat → List D → Store → Out D} {f : Bi} {es : Exs} {ρ : Env} {S : Store} : ev F (.bi f es) ρ S = (evs F es ρ S).bind fun ds S => biD f ds S := rfl
theorem ev_var {F : Nat → List D → Store → Out D} {i : Nat} {ρ : Env} {S : Store} {d : D} (h : ρ[i]? = some (some d)) : ev F (.var i) ρ S = .ok d S := by rw [ev, h]
theorem evs_cons {F : Nat → List D → Store → Out D} {e : Ex} {es : Exs} {ρ : Env} {S : Store} : evs F (.cons e es) ρ S = (ev F e ρ S).bind fun d S => (evs F es ρ S).bind fun ds S => .ok (d :: ds) S := rfl
@[simp] theorem evs_nil {F : Nat → List D → Store → Out D} {ρ : Env} {S : Store} : evs F .nil ρ S = .ok [] S := rfl
@[simp] theorem gc_nil {d : D} : gc 0 d [] = .ok d [] := rfl
/-- a def's value -/
def Gives (F : Nat → List D → Store → Out D) (f : Nat) (ds : List D) (d : D) : Prop := ∃ S', F f ds [] = .ok d S'
theorem callF_ok {F : Nat → List D → Store → Out D} {f : Nat} {ds : List D} {S : Store} {d : D} (hp : D.pureAll ds = true) (h : Gives F f ds d) (hd : d.pure = true) : callF F f ds S = .ok d S := by
  obtain ⟨S', h⟩ := h
  unfold callF impD
  rw [if_pos hp, h]
  exact if_pos hd
/-- .. a new list -/
def GivesL (F : Nat → List D → Store → Out D) (f : Nat) (ds : List D) (xs : List D) : Prop := ∃ S' j, F f ds [] = .ok (.loc j) S' ∧ S'[j]? = some (.lst xs)
theorem callF_lst {F : Nat → List D → Store → Out D} {f : Nat} {ds : List D} {S : Store} {xs : List D} (hp : D.pureAll ds = true) (h : GivesL F f ds xs) : callF F f ds S = .ok (.loc S.length) (S ++ [.lst xs]) := by
  obtain ⟨S', j, h, hd⟩ := h
  unfold callF impD
  rw [if_pos hp, h]
  simp [D.pure, hd]
theorem compLoop_pure {turn : D → Store → Out (Option D)} {g : D → Option D} {S : Store} : ∀ {xs : List D}, (∀ x ∈ xs, turn x S = .ok (g x) S) → compLoop turn xs S = .ok (xs.filterMap g) S
  | [], _ => rfl
  | x :: xs, h => by
    rw [compLoop, h x List.mem_cons_self]
    simp only [Out.bind]
    rw [compLoop_pure fun y hy => h y (List.mem_cons_of_mem _ hy)]
    simp only [List.filterMap_cons]
    cases g x <;> rfl
/-- a comprehension's turn; a loop's turn -/
def compTurn (F : Nat → List D → Store → Out D) (elt : Ex) (tg : Tg) (test : Ex) (ρ : Env) (x : D) (S : Store) : Out (Option D) := match putTg ρ tg x with
  | some ρ' => (ev F test ρ' S).bind fun t S1 => (match truth S1 t with
    | some true => (gcO S.length (ev F elt ρ' S1)).bind fun d S2 => if d.pure then .ok (some d) S2 else .bad
    | some false => (gc S.length .non S1).bind fun _ S2 => .ok none S2
    | none => .bad)
  | none => .bad
theorem ev_comp {F : Nat → List D → Store → Out D} {elt test : Ex} {tg : Tg} {it : It} {ρ : Env} {S : Store} : ev F (.comp elt tg it test) ρ S = (evIt F it ρ S).bind fun w S => (lockEnd w.lock (noexc (compLoop (compTurn F elt tg test ρ) w.xs S))).bind newL := rfl
theorem comp_of {F : Nat → List D → Store → Out D} {elt test : Ex} {tg : Tg} {it : It} {ρ : Env} {S : Store} {xs ys : List D} {g : D → Option D} (hi : evIt F it ρ S = .ok ⟨xs, none⟩ S) (h : ∀ x ∈ xs, compTurn F elt tg test ρ x S = .ok (g x) S)
    (hy : xs.filterMap g = ys) (hp : D.pureAll ys = true) (hl : ys.length ≤ 1000000) : ev F (.comp elt tg it test) ρ S = .ok (.loc S.length) (S ++ [.lst ys]) := by
  rw [ev_comp, hi]
  simp only [Out.bind]
  rw [compLoop_pure h, hy]
  simp only [noexc, lockEnd, unlock, newL]
  rw [if_pos]
  rw [hp, show szOk ys.length = true from decide_eq_true (by unfold lineN; omega)]
  rfl
def loopTurn (F : Nat → List D → Store → Out D) (tg : Tg) (body : Sms) (sc : Bool) (x : D) (ρ : Env) (S : Store) : SOut := match putTg ρ tg x with
  | some ρ' => if sc then scopeEnd S.length (exs F body ρ' S) else exs F body ρ' S
  | none => .bad
theorem ex_loop {F : Nat → List D → Store → Out D} {tg : Tg} {it : It} {body : Sms} {sc : Bool} {ρ : Env} {S : Store} : ex F (.loop tg it body sc) ρ S = (evIt F it ρ S).thn ρ fun w S => lockEndS w.lock (forLoop (loopTurn F tg body sc) w.xs ρ S) := rfl
theorem upFrom_eq (n : Nat) : ∀ i : Int, upFrom i n = (List.range n).map fun (j : Nat) => D.int (i + j) := by
  induction n with
  | zero => intro i; rfl
  | succ n ih =>
    intro i
    rw [upFrom, ih, List.range_succ_eq_map, List.map_cons, List.map_map]
    congr 1
    · simp
    · apply List.map_congr_left
      intro j _
      simp only [Function.comp, D.int.injEq]
      omega
theorem forLoop_inv {turn : D → Env → Store → SOut} {n : Nat} (I : Nat → Env → Store → Prop) : ∀ {xs : List D} {i : Nat} {ρ : Env} {S : Store}, I i ρ S → i + xs.length ≤ n → (∀ x ∈ xs, ∀ i ρ S, i < n → I i ρ S → ∃ ρ' S', turn x ρ S = .nx ρ' S' ∧ I (i + 1) ρ' S') →
    ∃ ρ' S', forLoop turn xs ρ S = .nx ρ' S' ∧ I (i + xs.length) ρ' S'
  | [], i, ρ, S, h0, _, _ => ⟨ρ, S, rfl, h0⟩
  | x :: xs, i, ρ, S, h0, hb, st => by
    rw [List.length_cons] at hb
    obtain ⟨ρ1, S1, e, h1⟩ := st x List.mem_cons_self i ρ S (by omega) h0
    obtain ⟨ρ2, S2, e2, h2⟩ := forLoop_inv (n := n) I (i := i + 1) h1 (by omega) (fun y hy => st y (List.mem_cons_of_mem _ hy))
    refine ⟨ρ2, S2, ?_, ?_⟩
    · rw [forLoop, e]
      exact e2
    · have : i + (x :: xs).length = i + 1 + xs.length := by rw [List.length_cons]; omega
      rw [this]
      exact h2
theorem exs_cons {F : Nat → List D → Store → Out D} {s : Sm} {r : Sms} {ρ ρ1 : Env} {S S1 : Store} (h : ex F s ρ S = .nx ρ1 S1) : exs F (.cons s r) ρ S = exs F r ρ1 S1 := by
  rw [exs, h]
theorem szOk_le {n : Nat} (h : n ≤ 1000000) : szOk n = true := decide_eq_true (by unfold lineN; omega)
@[simp] theorem pureAll_ints (ns : List Int) : D.pureAll (ns.map D.int) = true := by
  induction ns with
  | nil => rfl
  | cons n ns ih => rw [List.map_cons, D.pureAll, ih]; rfl
theorem gc_same {d : D} {S : Store} : gc S.length d S = .ok d S := by
  unfold gc
  rw [if_pos (by simp)]
/-! ### draws -/
def mixF (c p m : Int) : Int := (c * 48271 % p) * (c * 48271 % p + 7) % p % m
theorem mixF_nn {c p m : Int} (hm : 0 < m) : 0 ≤ mixF c p m := Int.emod_nonneg _ (by omega)
theorem mixF_lt {c p m : Int} (hm : 0 < m) : mixF c p m < m := Int.emod_lt_of_pos _ hm
variable {L : FD} {k : Nat}
theorem r_mix {c p m : Int} (hp : 0 < p) (hp2 : p < 100000) (hm : 0 < m) : run (PG L) (k + 1) 8 [.int c, .int p, .int m] [] = .ok (.int (mixF c p m)) [] := by
  rw [run_fd (fd := fd__law_mix) rfl rfl]
  have b1 : 0 ≤ c * 48271 % p := Int.emod_nonneg _ (by omega)
  have b2 : c * 48271 % p < p := Int.emod_lt_of_pos _ hp
  have b3 : sm64 (c * 48271 % p) = true := by unfold sm64; rw [Bool.and_eq_true]; constructor <;> apply decide_eq_true <;> omega
  have b4 : sm64 48271 = true := by decide
  simp [fd__law_mix, sm__law_mix, exs, ex, ev, start0, gc, binD, mulD, addD, modD, hp, hm, b3, b4, endD, mixF]
theorem c_mix {c p m : Int} {S : Store} (hp : 0 < p) (hp2 : p < 100000) (hm : 0 < m) : callF (run (PG L) (k + 1)) 8 [.int c, .int p, .int m] S = .ok (.int (mixF c p m)) S := callF_ok rfl ⟨_, r_mix hp hp2 hm⟩ rfl
def cellF (ns : List Int) (j : Int) : Int := if j < ns.length then ns.getD j.toNat 0 else 0
theorem r_cell {ns : List Int} {j : Int} (hj : 0 ≤ j) : run (PG L) (k + 1) 7 [.lit (ns.map .int), .int j] [] = .ok (.int (cellF ns j)) [] := by
  rw [run_fd (fd := fd__law_cell) rfl rfl]
  unfold cellF
  by_cases h : j < ns.length
  · have h2 : j.toNat < ns.length := by omega
    simp [fd__law_cell, sm__law_cell, exs, ex, ev, evs, start0, gc, cmpD, cmpO, ltO, blO, biD, one, lenD, seqOf, listOf, truth, h, idxD, atZ, hj, retO, endD, h2]
  · simp [fd__law_cell, sm__law_cell, exs, ex, ev, evs, start0, gc, cmpD, cmpO, ltO, blO, biD, one, lenD, seqOf, listOf, truth, h, endD]
theorem c_cell {ns : List Int} {j : Int} {S : Store} (hj : 0 ≤ j) : callF (run (PG L) (k + 1)) 7 [.lit (ns.map .int), .int j] S = .ok (.int (cellF ns j)) S := callF_ok (by simp [D.pureAll, D.pure]) ⟨_, r_cell hj⟩ rfl
/-! ### hosts -/
def lab (j : Int) : List Nat := [[97], [98], [97, 98], [120], [99]].getD j.toNat []
def labs (c : Int) : List (List Nat) := (List.range (1 + mixF c 9967 3).toNat).map fun (i : Nat) => lab (mixF (c + 7 * (i : Int)) 9973 5)
def hostF (c : Int) : List Nat := joinN [46] (labs c)
theorem strsOf_map (ss : List (List Nat)) : strsOf (ss.map D.str) = some ss := by
  induction ss with
  | nil => rfl
  | cons s ss ih => rw [List.map_cons, strsOf, ih]; rfl
@[simp] theorem pureAll_strs (ss : List (List Nat)) : D.pureAll (ss.map D.str) = true := by
  induction ss with
  | nil => rfl
  | cons n ns ih => rw [List.map_cons, D.pureAll, ih]; rfl
theorem lab_at {j : Int} (h0 : 0 ≤ j) (h : j < 5) : atZ [D.str [97], D.str [98], D.str [97, 98], D.str [120], D.str [99]] j = some (.str (lab j)) := by
  have : j = 0 ∨ j = 1 ∨ j = 2 ∨ j = 3 ∨ j = 4 := by omega
  rcases this with h | h | h | h | h <;> subst h <;> rfl
theorem lab_len (j : Int) : (lab j).length ≤ 2 := by
  unfold lab
  rcases h : j.toNat with _ | _ | _ | _ | _ | n <;> simp
theorem labs_len (c : Int) : 1 ≤ (labs c).length ∧ (labs c).length ≤ 3 := by
  have h1 := mixF_nn (c := c) (p := 9967) (m := 3) (by omega)
  have h2 := mixF_lt (c := c) (p := 9967) (m := 3) (by omega)
  unfold labs
  rw [List.length_map, List.length_range]
  omega
theorem labs_sum (c : Int) : ((labs c).map List.length).sum ≤ 2 * (labs c).length := by
  unfold labs
  generalize List.range (1 + mixF c 9967 3).toNat = l
  induction l with
  | nil => simp
  | cons x xs ih =>
    simp only [List.map_cons, List.sum_cons, List.length_cons] at ih ⊢
    have := lab_len (mixF (c + 7 * x) 9973 5)
    omega
theorem r_host {c : Int} : Gives (run (PG L) (k + 2)) 10 [.int c] (.str (hostF c)) := by
  refine ⟨[.lst ((labs c).map D.str)], ?_⟩
  rw [run_fd (fd := fd__law_host) rfl rfl]
  have h1 := mixF_nn (c := c) (p := 9967) (m := 3) (by omega)
  have h2 := mixF_lt (c := c) (p := 9967) (m := 3) (by omega)
  have s1 : sm62 (1 + mixF c 9967 3) = true := by unfold sm62; rw [Bool.and_eq_true]; constructor <;> apply decide_eq_true <;> omega
  have hl := labs_len c
  have hs := labs_sum c
  have b2 : ((labs c).map List.length).sum + (labs c).length ≤ lineN := by unfold lineN; omega
  have b4 : sm64 7 = true := by decide
  show endD (exs _ sm__law_host [some (.int c), none, none] []) = _
  unfold sm__law_host
  rw [exs, ex, comp_of (xs := upFrom 0 (1 + mixF c 9967 3).toNat) (ys := (labs c).map D.str) (g := fun x => match x with | .int i => some (.str (lab (mixF (c + 7 * i) 9973 5))) | _ => none) ?h1 ?h2 ?h3 (pureAll_strs _) (by rw [List.length_map]; omega)]
  case h1 => simp [evIt, ev, evs, c_mix, binD, addD, range1D, s1]
  case h2 =>
    intro x hx
    rw [upFrom_eq] at hx
    obtain ⟨i, hi, rfl⟩ := List.mem_map.mp hx
    simp [compTurn, putTg, ev, evs, truth, gc, binD, addD, mulD, b4, szOk_le, c_mix, idxD, retO, lab_at, mixF_nn, mixF_lt, D.pure]
  case h3 =>
    rw [upFrom_eq, List.filterMap_map, labs, List.map_map, ← List.filterMap_eq_map]
    congr 1
    funext i
    simp [Function.comp]
  simp [gc, closedS, D.low, exs, ex, ev, evs, tyOk, isStr, methD, one, joinD, seqOf, listOf, strsOf_map, b2, endD, hostF]
theorem c_host {c : Int} {S : Store} : callF (run (PG L) (k + 2)) 10 [.int c] S = .ok (.str (hostF c)) S := callF_ok rfl r_host rfl
/-! ### picks -/
def pickS (xs : List (List Nat)) (j : Int) : List Nat := xs.getD j.toNat []
theorem atZ_str {xs : List (List Nat)} {ds : List D} {j : Int} (h : ds = xs.map D.str) (h0 : 0 ≤ j) (h1 : j < xs.length) : atZ ds j = some (.str (pickS xs j)) := by
  subst h
  have h2 : j.toNat < xs.length := by omega
  unfold atZ pickS
  rw [if_pos h0, if_pos (by rw [List.length_map]; exact h1), List.getElem?_map, List.getElem?_eq_getElem h2]
  simp [h2]
theorem pickS_mem {xs : List (List Nat)} {j : Int} (h0 : 0 ≤ j) (h1 : j < xs.length) : pickS xs j ∈ xs := by
  have h2 : j.toNat < xs.length := by omega
  unfold pickS
  rw [List.getD_eq_getElem?_getD, List.getElem?_eq_getElem h2]
  exact List.getElem_mem _
def pickI (xs : List Int) (j : Int) : Int := xs.getD j.toNat 0
theorem atZ_int {xs : List Int} {ds : List D} {j : Int} (h : ds = xs.map D.int) (h0 : 0 ≤ j) (h1 : j < xs.length) : atZ ds j = some (.int (pickI xs j)) := by
  subst h
  have h2 : j.toNat < xs.length := by omega
  unfold atZ pickI
  rw [if_pos h0, if_pos (by rw [List.length_map]; exact h1), List.getElem?_map, List.getElem?_eq_getElem h2]
  simp [h2]
theorem pickI_mem {xs : List Int} {j : Int} (h0 : 0 ≤ j) (h1 : j < xs.length) : pickI xs j ∈ xs := by
  have h2 : j.toNat < xs.length := by omega
  unfold pickI
  rw [List.getD_eq_getElem?_getD, List.getElem?_eq_getElem h2]
  exact List.getElem_mem _
/-! ### paths -/
def plabs : List (List Nat) := [[97], [98], [97, 98], [98, 97]]
def parts (c : Int) : List (List Nat) := (List.range (mixF c 9941 4).toNat).map fun (i : Nat) => pickS plabs (mixF (c + 11 * (i : Int)) 9949 4)
def pathF (c : Int) : List Nat := [47] ++ joinN [47] (parts c)
theorem parts_len (c : Int) : (parts c).length ≤ 3 := by
  have h1 := mixF_nn (c := c) (p := 9941) (m := 4) (by omega)
  have h2 := mixF_lt (c := c) (p := 9941) (m := 4) (by omega)
  unfold parts
  rw [List.length_map, List.length_range]
  omega
theorem parts_mem (c : Int) : ∀ s ∈ parts c, s ∈ plabs := by
  intro s hs
  obtain ⟨i, _, rfl⟩ := List.mem_map.mp hs
  exact pickS_mem (mixF_nn (by omega)) (mixF_lt (by omega))
theorem labs_mem (c : Int) : ∀ s ∈ labs c, s ∈ [[97], [98], [97, 98], [120], [99]] := by
  intro s hs
  obtain ⟨i, _, rfl⟩ := List.mem_map.mp hs
  exact pickS_mem (mixF_nn (by omega)) (mixF_lt (by omega))
theorem sum_le2 {ss : List (List Nat)} (h : ∀ s ∈ ss, s.length ≤ 2) : (ss.map List.length).sum ≤ 2 * ss.length := by
  induction ss with
  | nil => simp
  | cons x xs ih =>
    have := h x List.mem_cons_self
    have := ih fun s hs => h s (List.mem_cons_of_mem _ hs)
    simp only [List.map_cons, List.sum_cons, List.length_cons]
    omega
theorem parts_sum (c : Int) : ((parts c).map List.length).sum ≤ 2 * (parts c).length := sum_le2 fun s hs => by
  have := parts_mem c s hs
  simp only [plabs, List.mem_cons, List.not_mem_nil, or_false] at this
  rcases this with h | h | h | h <;> subst h <;> decide
theorem joinN_len (sep : List Nat) : ∀ ss : List (List Nat), (joinN sep ss).length ≤ (ss.map List.length).sum + ss.length * sep.length
  | [] => by simp [joinN]
  | [p] => by simp [joinN]
  | p :: q :: r => by
    have := joinN_len sep (q :: r)
    simp only [joinN, List.length_append, List.map_cons, List.sum_cons, List.length_cons, Nat.add_mul] at this ⊢
    omega
theorem r_path {c : Int} : Gives (run (PG L) (k + 2)) 11 [.int c] (.str (pathF c)) := by
  refine ⟨[.lst ((parts c).map D.str)], ?_⟩
  rw [run_fd (fd := fd__law_path) rfl rfl]
  have h1 := mixF_nn (c := c) (p := 9941) (m := 4) (by omega)
  have h2 := mixF_lt (c := c) (p := 9941) (m := 4) (by omega)
  have s1 : sm62 (mixF c 9941 4) = true := by unfold sm62; rw [Bool.and_eq_true]; constructor <;> apply decide_eq_true <;> omega
  have hl := parts_len c
  have hs := parts_sum c
  have hj := joinN_len [47] (parts c)
  have b2 : ((parts c).map List.length).sum + (parts c).length ≤ lineN := by unfold lineN; omega
  have b3 : szOk ((joinN [47] (parts c)).length + 1) = true := szOk_le (by simp at hj; omega)
  have b3' : szOk (1 + (joinN [47] (parts c)).length) = true := szOk_le (by simp at hj; omega)
  have b4 : sm64 11 = true := by decide
  show endD (exs _ sm__law_path [some (.int c), none, none] []) = _
  unfold sm__law_path
  rw [exs, ex, comp_of (xs := upFrom 0 (mixF c 9941 4).toNat) (ys := (parts c).map D.str) (g := fun x => match x with | .int i => some (.str (pickS plabs (mixF (c + 11 * i) 9949 4))) | _ => none) ?h1 ?h2 ?h3 (pureAll_strs _) (by rw [List.length_map]; omega)]
  case h1 => simp [evIt, ev, evs, c_mix, range1D, s1]
  case h2 =>
    intro x hx
    rw [upFrom_eq] at hx
    obtain ⟨i, hi, rfl⟩ := List.mem_map.mp hx
    have e := atZ_str (xs := plabs) (ds := [D.str [97], D.str [98], D.str [97, 98], D.str [98, 97]]) (j := mixF (c + 11 * (i : Int)) 9949 4) rfl (mixF_nn (by omega)) (mixF_lt (by omega))
    simp [compTurn, putTg, ev, evs, truth, gc, binD, addD, mulD, b4, szOk_le, c_mix, idxD, retO, e, D.pure]
  case h3 =>
    rw [upFrom_eq, List.filterMap_map, parts, List.map_map, ← List.filterMap_eq_map]
    congr 1
    funext i
    simp [Function.comp]
  simp [gc, closedS, D.low, exs, ex, ev, evs, tyOk, isStr, methD, one, joinD, seqOf, listOf, strsOf_map, b2, binD, addD, b3, b3', endD, pathF]
theorem c_path {c : Int} {S : Store} : callF (run (PG L) (k + 2)) 11 [.int c] S = .ok (.str (pathF c)) S := callF_ok rfl r_path rfl
/-! ### notes -/
structure NT where
  nm : List Nat
  vl : List Nat
  host : List Nat
  deep : Bool
  path : List Nat
  fin : Option Int
  safe : Bool
  side : List Nat
def finD : Option Int → D
  | none => .non
  | some i => .int i
def NT.d (n : NT) : D := .tup [.str n.nm, .str n.vl, .str n.host, .bl n.deep, .str n.path, finD n.fin, .bl n.safe, .str n.side]
@[simp] theorem finD_pure (o : Option Int) : (finD o).pure = true := by cases o <;> rfl
theorem NT.pure (n : NT) : n.d.pure = true := by simp [NT.d, D.pure, D.pureAll]
def nms : List (List Nat) := [[110], [107], [109]]
def vls : List (List Nat) := [[], [97], [98]]
def fins : List Int := [0, 1, 5, 9, 10, 98, 99]
def sides : List (List Nat) := [[111, 119, 110], [110, 101, 97, 114], [97, 110, 121]]
def noteF (c : Int) : NT := ⟨pickS nms (mixF c 9923 3), pickS vls (mixF c 9907 3), hostF (c + 1), mixF c 9901 2 == 0, pathF (c + 2), if mixF c 9931 3 = 0 then none else some (pickI fins (mixF c 9929 7)), mixF c 9887 3 == 0, pickS sides (mixF c 9883 3)⟩
theorem r_note {c : Int} : Gives (run (PG L) (k + 3)) 12 [.int c] (noteF c).d := by
  refine ⟨[], ?_⟩
  rw [run_fd (fd := fd__law_note) rfl rfl]
  have e1 := atZ_str (xs := nms) (ds := [D.str [110], D.str [107], D.str [109]]) (j := mixF c 9923 3) rfl (mixF_nn (by omega)) (mixF_lt (by omega))
  have e2 := atZ_str (xs := vls) (ds := [D.str [], D.str [97], D.str [98]]) (j := mixF c 9907 3) rfl (mixF_nn (by omega)) (mixF_lt (by omega))
  have e3 := atZ_str (xs := sides) (ds := [D.str [111, 119, 110], D.str [110, 101, 97, 114], D.str [97, 110, 121]]) (j := mixF c 9883 3) rfl (mixF_nn (by omega)) (mixF_lt (by omega))
  have e4 := atZ_int (xs := fins) (ds := [D.int 0, D.int 1, D.int 5, D.int 9, D.int 10, D.int 98, D.int 99]) (j := mixF c 9929 7) rfl (mixF_nn (by omega)) (mixF_lt (by omega))
  by_cases h : mixF c 9931 3 = 0
  · simp [fd__law_note, sm__law_note, exs, ex, ev, evs, start0, gc, c_mix, c_host, c_path, binD, addD, idxD, retO, e1, e2, e3, e4, cmpD, cmpO, eqS, der, D.pure, D.depth, eqD, blO, truth, szOk_le, endD, noteF, NT.d, h, finD]
  · have hb : (mixF c 9931 3 == 0) = false := by simpa using h
    simp [fd__law_note, sm__law_note, exs, ex, ev, evs, start0, gc, c_mix, c_host, c_path, binD, addD, idxD, retO, e1, e2, e3, e4, cmpD, cmpO, eqS, der, D.pure, D.depth, eqD, blO, truth, szOk_le, endD, noteF, NT.d, h, hb, finD]
theorem c_note {c : Int} {S : Store} : callF (run (PG L) (k + 3)) 12 [.int c] S = .ok (noteF c).d S := callF_ok rfl r_note (NT.pure _)
end Lw
set_option Elab.async false
set_option linter.all false
set_option maxRecDepth 100000
namespace Lw
open Ev
variable {L : FD} {k : Nat}
def hlabs : List (List Nat) := [[97], [98], [97, 98], [120], [99]]
structure HostOk (h : List Nat) : Prop where
  ex : ∃ ls, h = joinN [46] ls ∧ 1 ≤ ls.length ∧ ls.length ≤ 3 ∧ ∀ l ∈ ls, l ∈ hlabs
structure PathOk (p : List Nat) : Prop where
  ex : ∃ ps, p = [47] ++ joinN [47] ps ∧ ps.length ≤ 3 ∧ ∀ l ∈ ps, l ∈ plabs
theorem host_ok (c : Int) : HostOk (hostF c) := ⟨labs c, rfl, (labs_len c).1, (labs_len c).2, labs_mem c⟩
theorem path_ok (c : Int) : PathOk (pathF c) := ⟨parts c, rfl, parts_len c, parts_mem c⟩
structure NT.Ok (n : NT) : Prop where
  nm : n.nm ∈ nms
  vl : n.vl ∈ vls
  host : HostOk n.host
  path : PathOk n.path
  fin : n.fin = none ∨ ∃ i ∈ fins, n.fin = some i
  side : n.side ∈ sides
theorem note_ok (c : Int) : (noteF c).Ok where
  nm := pickS_mem (mixF_nn (by omega)) (mixF_lt (by omega))
  vl := pickS_mem (mixF_nn (by omega)) (mixF_lt (by omega))
  host := host_ok _
  path := path_ok _
  fin := by
    show (if mixF c 9931 3 = 0 then none else some (pickI fins (mixF c 9929 7))) = none ∨ ∃ i ∈ fins, (if mixF c 9931 3 = 0 then none else some (pickI fins (mixF c 9929 7))) = some i
    split
    · exact .inl rfl
    · exact .inr ⟨_, pickI_mem (mixF_nn (m := 7) (by omega)) (mixF_lt (m := 7) (by omega)), rfl⟩
  side := pickS_mem (mixF_nn (by omega)) (mixF_lt (by omega))
theorem hlab_len {l : List Nat} (h : l ∈ hlabs) : l.length ≤ 2 := by
  simp only [hlabs, List.mem_cons, List.not_mem_nil, or_false] at h
  rcases h with h | h | h | h | h <;> subst h <;> decide
theorem plab_len {l : List Nat} (h : l ∈ plabs) : l.length ≤ 2 := by
  simp only [plabs, List.mem_cons, List.not_mem_nil, or_false] at h
  rcases h with h | h | h | h <;> subst h <;> decide
theorem HostOk.len {h : List Nat} (o : HostOk h) : h.length ≤ 9 := by
  obtain ⟨ls, rfl, h1, h2, h3⟩ := o.ex
  have := joinN_len [46] ls
  have := sum_le2 fun s hs => hlab_len (h3 s hs)
  simp only [List.length_singleton] at *
  omega
theorem PathOk.len {h : List Nat} (o : PathOk h) : h.length ≤ 10 := by
  obtain ⟨ls, rfl, h2, h3⟩ := o.ex
  have := joinN_len [47] ls
  have := sum_le2 fun s hs => plab_len (h3 s hs)
  simp only [List.length_singleton, List.length_append] at *
  omega
/-! ### split, join -/
def noC (c : Nat) (l : List Nat) : Prop := ∀ x ∈ l, x ≠ c
theorem splitC_no {c : Nat} : ∀ {l : List Nat}, noC c l → splitC c l = [l]
  | [], _ => rfl
  | x :: r, h => by
    rw [splitC, if_neg (h x List.mem_cons_self), splitC_no fun y hy => h y (List.mem_cons_of_mem _ hy)]
theorem splitC_app {c : Nat} {r : List Nat} : ∀ {l : List Nat}, noC c l → splitC c (l ++ c :: r) = l :: splitC c r
  | [], _ => by
    rw [List.nil_append, splitC, if_pos rfl]
  | x :: l, h => by
    rw [List.cons_append, splitC, if_neg (h x List.mem_cons_self), splitC_app fun y hy => h y (List.mem_cons_of_mem _ hy)]
theorem split_join {c : Nat} : ∀ {ls : List (List Nat)}, ls ≠ [] → (∀ l ∈ ls, noC c l) → splitC c (joinN [c] ls) = ls
  | [], h, _ => absurd rfl h
  | [l], _, h => by rw [joinN]; exact splitC_no (h l (by simp))
  | l :: q :: r, _, h => by
    rw [joinN, List.singleton_append, splitC_app (h l (by simp)), split_join (by simp) fun y hy => h y (List.mem_cons_of_mem _ hy)]
theorem hlab_no {l : List Nat} (h : l ∈ hlabs) : noC 46 l := by
  simp only [hlabs, List.mem_cons, List.not_mem_nil, or_false] at h
  rcases h with h | h | h | h | h <;> subst h <;> intro x hx <;> simp at hx <;> omega
theorem plab_no {l : List Nat} (h : l ∈ plabs) : noC 47 l := by
  simp only [plabs, List.mem_cons, List.not_mem_nil, or_false] at h
  rcases h with h | h | h | h <;> subst h <;> intro x hx <;> simp at hx <;> omega
theorem plab_ne {l : List Nat} (h : l ∈ plabs) : l ≠ [] := by
  simp only [plabs, List.mem_cons, List.not_mem_nil, or_false] at h
  rcases h with h | h | h | h <;> subst h <;> simp
theorem join_snoc {c : Nat} {l : List Nat} : ∀ {ls : List (List Nat)}, ls ≠ [] → joinN [c] (ls ++ [l]) = joinN [c] ls ++ c :: l
  | [], h => absurd rfl h
  | [a], _ => by simp [joinN]
  | a :: b :: r, _ => by
    have := join_snoc (c := c) (l := l) (ls := b :: r) (by simp)
    rw [List.cons_append, List.cons_append, joinN, joinN, ← List.cons_append, this]
    simp
theorem join_nil {c : Nat} {ls : List (List Nat)} (h : ∀ l ∈ ls, l ≠ []) (e : joinN [c] ls = []) : ls = [] := by
  match ls, h, e with
  | [], _, _ => rfl
  | [a], h, e => exact absurd e (h a (by simp))
  | a :: b :: r, _, e => simp [joinN] at e
theorem split_path {ps : List (List Nat)} (h : ∀ l ∈ ps, l ∈ plabs) (hn : ps ≠ []) : splitC 47 ([47] ++ joinN [47] ps) = [] :: ps := by
  rw [List.singleton_append, splitC, if_pos rfl, split_join hn fun l hl => plab_no (h l hl)]
/-! ### marks, notes -/
def NT.mk3 (n : NT) : D := .tup [.str n.nm, .str n.host, .str n.path]
theorem r_mark {n : NT} : Gives (run (PG L) (k + 1)) 13 [n.d] n.mk3 := by
  refine ⟨[], ?_⟩
  rw [run_fd (fd := fd__law_mark) rfl rfl]
  simp [fd__law_mark, sm__law_mark, exs, ex, ev, evs, start0, NT.d, idxD, atZ, retO, szOk_le, endD, NT.mk3]
theorem c_mark {n : NT} {S : Store} : callF (run (PG L) (k + 1)) 13 [n.d] S = .ok n.mk3 S := callF_ok (by simp [D.pureAll, NT.pure]) r_mark rfl
def NT.key (n : NT) : List Nat × List Nat × List Nat := (n.nm, n.host, n.path)
theorem eqD_mk3 (a b : NT) : eqD a.mk3 b.mk3 = decide (a.key = b.key) := by
  rw [Bool.eq_iff_iff, decide_eq_true_iff]
  simp [NT.mk3, NT.key, eqD, eqDs]
@[simp] theorem pureAll_nts (ns : List NT) : D.pureAll (ns.map NT.d) = true := by
  induction ns with
  | nil => rfl
  | cons n ns ih => rw [List.map_cons, D.pureAll, ih, NT.pure]; rfl
theorem pureAll_mk3 (ns : List NT) : D.pureAll (ns.map NT.mk3) = true := by
  induction ns with
  | nil => rfl
  | cons n ns ih => rw [List.map_cons, D.pureAll, ih]; rfl
def ρN (c m i : Int) (n : NT) : Env := [some (.int c), some (.int m), some (.loc 0), some (.int i), some n.d, none]
def s2 : Sm := Sm.ife (Ex.and (Ex.cmp Cop.ne (Ex.var 2) (Ex.lst Exs.nil)) (Ex.cmp Cop.eq (Ex.call 8 (Exs.cons (Ex.bin Bop.add (Ex.var 0) (Ex.var 3)) (Exs.cons (Ex.dat (D.int 9859)) (Exs.cons (Ex.dat (D.int 2)) Exs.nil)))) (Ex.dat (D.int 0)))) (Sms.cons (Sm.asg 4 (Ex.bin Bop.add (Ex.bin Bop.add (Ex.slc (Ex.var 4) (Ex.dat D.non) (Ex.dat (D.int 2))) (Ex.tup (Exs.cons (Ex.idx (Ex.idx (Ex.var 2) (Ex.dat (D.int 0))) (Ex.dat (D.int 2))) Exs.nil))) (Ex.slc (Ex.var 4) (Ex.dat (D.int 3)) (Ex.dat D.non)))) Sms.nil) Sms.nil
theorem n_s2 {c m i : Int} {n : NT} {ns : List NT} (hn : n.Ok) (hs : ∀ r ∈ ns, r.Ok) : ∃ n', n'.Ok ∧ ex (run (PG L) (k + 1)) s2 (ρN c m i n) [.lst (ns.map NT.d)] = .nx (ρN c m i n') [.lst (ns.map NT.d)] := by
  have m1 : ∀ a, min a 1 ≤ 60 := fun a => by omega
  cases ns with
  | nil =>
    refine ⟨n, hn, ?_⟩
    simp [s2, ρN, ex, exs, ev, evs, newL, D.pureAll, szOk_le, cmpD, cmpO, eqS, der, D.depth, D.depthAll, eqD, eqDs, blO, truth, gc, closedS, MO.closed, D.low]
  | cons r0 rest =>
    by_cases h : mixF (c + i) 9859 2 = 0
    · refine ⟨{ n with host := r0.host }, { hn with host := (hs r0 (by simp)).host }, ?_⟩
      simp [s2, ρN, ex, exs, ev, evs, newL, D.pureAll, szOk_le, cmpD, cmpO, eqS, der, D.pure, D.depth, D.depthAll, m1, eqD, eqDs, blO, truth, gc, closedS, MO.closed, D.low, c_mix, binD, addD, h, slcD, partO, cutL, cutIx, idxD, atZ, retO, NT.d]
    · refine ⟨n, hn, ?_⟩
      have hb : (mixF (c + i) 9859 2 == 0) = false := by simpa using h
      simp [s2, ρN, ex, exs, ev, evs, newL, D.pureAll, szOk_le, cmpD, cmpO, eqS, der, D.pure, D.depth, D.depthAll, m1, eqD, eqDs, blO, truth, gc, closedS, MO.closed, D.low, c_mix, binD, addD, h, hb]
def putPath : Ex → Ex := fun e => (Ex.bin Bop.add (Ex.bin Bop.add (Ex.slc (Ex.var 4) (Ex.dat D.non) (Ex.dat (D.int 4))) (Ex.tup (Exs.cons e Exs.nil))) (Ex.slc (Ex.var 4) (Ex.dat (D.int 5)) (Ex.dat D.non)))
def s3a : Ex := (Ex.ife (Ex.cmp Cop.eq (Ex.idx (Ex.idx (Ex.var 2) (Ex.dat (D.int 0))) (Ex.dat (D.int 4))) (Ex.dat (D.str [47]))) (Ex.idx (Ex.idx (Ex.var 2) (Ex.dat (D.int 0))) (Ex.dat (D.int 4))) (Ex.bin Bop.add (Ex.idx (Ex.idx (Ex.var 2) (Ex.dat (D.int 0))) (Ex.dat (D.int 4))) (Ex.dat (D.str [47, 97]))))
def s3b : Ex := (Ex.ife (Ex.cmp Cop.lt (Ex.bi Bi.len (Exs.cons (Ex.meth Me.split (Ex.idx (Ex.var 4) (Ex.dat (D.int 4))) (Exs.cons (Ex.dat (D.str [47])) Exs.nil)) Exs.nil)) (Ex.dat (D.int 5))) (Ex.var 4) (putPath (Ex.dat (D.str [47]))))
def s3 : Sm := (Sm.ife (Ex.and (Ex.cmp Cop.ne (Ex.var 2) (Ex.lst Exs.nil)) (Ex.cmp Cop.eq (Ex.call 8 (Exs.cons (Ex.bin Bop.add (Ex.var 0) (Ex.var 3)) (Exs.cons (Ex.dat (D.int 9857)) (Exs.cons (Ex.dat (D.int 3)) Exs.nil)))) (Ex.dat (D.int 0)))) (Sms.cons (Sm.asg 4 (putPath s3a)) (Sms.cons (Sm.asg 4 s3b) Sms.nil)) Sms.nil)
theorem ex_ife {F : Nat → List D → Store → Out D} {t : Ex} {a b : Sms} {ρ : Env} {S S1 S2 : Store} {x : D} {q : Bool} (h : ev F t ρ S = .ok x S1) (ht : truth S1 x = some q) (hg : gc S.length .non S1 = .ok .non S2) : ex F (.ife t a b) ρ S = exs F (if q then a else b) ρ S2 := by
  rw [ex, h]
  simp only [ok_thn]
  rw [ht, hg]
  cases q <;> rfl
theorem ex_asg {F : Nat → List D → Store → Out D} {e : Ex} {i : Nat} {ρ : Env} {S S1 S2 : Store} {d d' : D} (h : ev F e ρ S = .ok d S1) (hg : gc S.length d S1 = .ok d' S2) (hi : i < ρ.length) : ex F (.asg i e) ρ S = .nx (ρ.set i (some d')) S2 := by
  rw [ex, h, ok_gcO, hg]
  exact if_pos hi
theorem gc_new {d : D} {S : Store} {o : MO} (hc : closedS S.length S = true) (hd : d.low S.length = true) : gc S.length d (S ++ [o]) = .ok d S := by
  unfold gc
  rw [if_neg (by simp), List.take_left, if_pos hc, if_pos hd]
theorem cond2 {c m i p q : Int} {n : NT} {ns : List NT} (hp : 0 < p) (hp2 : p < 100000) (hq : 0 < q) : ev (run (PG L) (k + 1)) (Ex.and (Ex.cmp Cop.ne (Ex.var 2) (Ex.lst Exs.nil)) (Ex.cmp Cop.eq (Ex.call 8 (Exs.cons (Ex.bin Bop.add (Ex.var 0) (Ex.var 3)) (Exs.cons (Ex.dat (D.int p)) (Exs.cons (Ex.dat (D.int q)) Exs.nil)))) (Ex.dat (D.int 0)))) (ρN c m i n) [.lst (ns.map NT.d)]
    = .ok (.bl (!ns.isEmpty && (mixF (c + i) p q == 0))) ([.lst (ns.map NT.d)] ++ [.lst []]) := by
  have m1 : ∀ a, min a 1 ≤ 60 := fun a => by omega
  cases ns with
  | nil => simp [ρN, ev, evs, newL, D.pureAll, szOk_le, cmpD, cmpO, eqS, der, D.depth, D.depthAll, eqD, eqDs, blO, truth]
  | cons r0 rest => simp [ρN, ev, evs, newL, D.pureAll, szOk_le, cmpD, cmpO, eqS, der, D.pure, D.depth, D.depthAll, m1, eqD, eqDs, blO, truth, c_mix, hp, hp2, hq, binD, addD]
theorem ev_putPath {F : Nat → List D → Store → Out D} {e : Ex} {c m i : Int} {n : NT} {S : Store} {p : List Nat} (h : ev F e (ρN c m i n) S = .ok (.str p) S) : ev F (putPath e) (ρN c m i n) S = .ok ({ n with path := p } : NT).d S := by
  have v : (ρN c m i n)[4]? = some (some n.d) := rfl
  simp [putPath, ev, evs, h, v, binD, addD, slcD, partO, cutL, cutIx, szOk_le, NT.d]
theorem low_d (n : NT) (j : Nat) : n.d.low j = true := by
  cases h : n.fin <;> simp [NT.d, D.low, D.lowAll, h, finD]
/-- the cut of too long a path -/
theorem n_s3b {F : Nat → List D → Store → Out D} {c m i : Int} {n : NT} {xs : List D} {ls : List (List Nat)} (hl : n.path.length ≤ 100) (hs : splitC 47 n.path = ls) (h2 : ls.length ≤ 100) : ∃ S1, ev F s3b (ρN c m i n) [.lst xs] = .ok (if ls.length < 5 then n else { n with path := [47] }).d S1 ∧ gc 1 (if ls.length < 5 then n else { n with path := [47] }).d S1 = .ok (if ls.length < 5 then n else { n with path := [47] }).d [.lst xs] := by
  have v : (ρN c m i n)[4]? = some (some n.d) := rfl
  have l2 : szOk (n.path.length + 2) = true := szOk_le (by omega)
  have q2 : szOk ls.length = true := szOk_le (by omega)
  have e1 : ∀ S, idxD n.d (.int 4) S = .ok (.str n.path) S := fun S => by simp [idxD, atZ, retO, NT.d]
  refine ⟨[.lst xs, .lst (ls.map D.str)], ?_, gc_new (S := [.lst xs]) rfl (low_d _ _)⟩
  unfold s3b
  have ec : ev F (Ex.cmp Cop.lt (Ex.bi Bi.len (Exs.cons (Ex.meth Me.split (Ex.idx (Ex.var 4) (Ex.dat (D.int 4))) (Exs.cons (Ex.dat (D.str [47])) Exs.nil)) Exs.nil)) (Ex.dat (D.int 5))) (ρN c m i n) [.lst xs] = .ok (.bl (decide (ls.length < 5))) [.lst xs, .lst (ls.map D.str)] := by
    have c5 : decide ((ls.length : Int) < 5) = decide (ls.length < 5) := by congr 1; apply propext; omega
    simp [ev, evs, v, e1, c5, tyOk, isStr, methD, one, splitD, l2, hs, newL, q2, biD, lenD, seqOf, listOf, cmpD, cmpO, ltO, blO]
  rw [ev, ec]
  simp only [ok_bind, truth]
  by_cases h5 : ls.length < 5
  · simp only [h5, decide_true, if_true]
    rfl
  · simp only [h5, decide_false, if_false]
    exact ev_putPath rfl
theorem n_s3 {c m i : Int} {n : NT} {ns : List NT} (hn : n.Ok) (hs : ∀ r ∈ ns, r.Ok) : ∃ n', n'.Ok ∧ ex (run (PG L) (k + 1)) s3 (ρN c m i n) [.lst (ns.map NT.d)] = .nx (ρN c m i n') [.lst (ns.map NT.d)] := by
  unfold s3
  rw [ex_ife (cond2 (p := 9857) (q := 3) (by omega) (by omega) (by omega)) rfl (gc_new (S := [.lst (ns.map NT.d)]) rfl rfl)]
  cases hc : (!ns.isEmpty && (mixF (c + i) 9857 3 == 0)) with
  | false => exact ⟨n, hn, rfl⟩
  | true =>
    rw [if_pos rfl]
    cases ns with
    | nil => exact nomatch hc
    | cons r0 rest =>
      have hlen := (hs r0 (by simp)).path.len
      have l1 : szOk (r0.path.length + 2) = true := szOk_le (by omega)
      have ix : ∀ n : NT, ev (run (PG L) (k + 1)) (Ex.idx (Ex.idx (Ex.var 2) (Ex.dat (D.int 0))) (Ex.dat (D.int 4))) (ρN c m i n) [.lst ((r0 :: rest).map NT.d)] = .ok (.str r0.path) [.lst ((r0 :: rest).map NT.d)] := fun n => by
        simp [ev, ρN, idxD, atZ, retO, NT.d]
      have main : ∀ (p : List Nat) (ls : List (List Nat)), p.length ≤ 100 → splitC 47 p = ls → ls.length ≤ 100 → ev (run (PG L) (k + 1)) s3a (ρN c m i n) [.lst ((r0 :: rest).map NT.d)] = .ok (.str p) [.lst ((r0 :: rest).map NT.d)] → (ls.length < 5 → PathOk p) →
          ∃ n', n'.Ok ∧ exs (run (PG L) (k + 1)) (Sms.cons (Sm.asg 4 (putPath s3a)) (Sms.cons (Sm.asg 4 s3b) Sms.nil)) (ρN c m i n) [.lst ((r0 :: rest).map NT.d)] = .nx (ρN c m i n') [.lst ((r0 :: rest).map NT.d)] := fun p ls g1 g2 g3 g4 g5 => by
        obtain ⟨S1, q1, q2⟩ := n_s3b (F := run (PG L) (k + 1)) (c := c) (m := m) (i := i) (n := { n with path := p }) (xs := (r0 :: rest).map NT.d) g1 g2 g3
        refine ⟨if ls.length < 5 then { n with path := p } else { n with path := [47] }, ?_, ?_⟩
        · split
          · rename_i h5
            exact { hn with path := g5 h5 }
          · exact { hn with path := ⟨[], rfl, by simp, by simp⟩ }
        · rw [exs_cons (ex_asg (i := 4) (ev_putPath g4) gc_same (by simp [ρN]))]
          show exs _ _ (ρN c m i { n with path := p }) _ = _
          rw [exs_cons (ex_asg (i := 4) q1 q2 (by simp [ρN]))]
          rfl
      obtain ⟨ps, hp, p1, p2⟩ := (hs r0 (by simp)).path.ex
      by_cases he : ps = []
      · subst he
        have e0 : r0.path = [47] := by rw [hp]; rfl
        refine main [47] [[], []] (by simp) rfl (by simp) ?_ fun _ => ⟨[], rfl, by simp, by simp⟩
        unfold s3a
        rw [ev, ev, ix, e0]
        simp [ev, cmpD, cmpO, eqS, der, D.pure, D.depth, eqD, blO, truth, -List.map_cons]
        rw [← e0]
        exact ix n
      · have ej : joinN [47] ps ≠ [] := fun z => he (join_nil (fun l hl => plab_ne (p2 l hl)) z)
        have e0 : (r0.path == [47]) = false := by
          rw [hp, beq_eq_false_iff_ne]
          intro z
          rw [List.singleton_append] at z
          exact ej (List.cons.inj z).2
        have e1 : r0.path ++ [47, 97] = [47] ++ joinN [47] (ps ++ [[97]]) := by
          rw [hp, join_snoc he]
          simp
        have e2 : ∀ l ∈ ps ++ [[97]], l ∈ plabs := by
          intro l hl
          rcases List.mem_append.mp hl with hl | hl
          · exact p2 l hl
          · rw [List.mem_singleton.mp hl]; decide
        refine main (r0.path ++ [47, 97]) ([] :: (ps ++ [[97]])) (by simp; omega) (by rw [e1, split_path e2 (by simp)]) (by simp; omega) ?_ fun h5 => ⟨ps ++ [[97]], e1, by simp at h5 ⊢; omega, e2⟩
        unfold s3a
        have e3 : eqD (.str r0.path) (.str [47]) = false := e0
        rw [ev, ev, ix]
        simp only [ok_bind, ev_dat]
        rw [show cmpD Cop.eq (D.str r0.path) (D.str [47]) [MO.lst (List.map NT.d (r0 :: rest))] = .ok (.bl false) [MO.lst (List.map NT.d (r0 :: rest))] by simp [cmpD, cmpO, eqS, der, D.pure, D.depth, e3, blO]]
        simp only [ok_bind, truth]
        rw [ev, ix]
        simp [ev, binD, addD, l1]
def s4 : Sm := (Sm.ife (Ex.cmp Cop.notin (Ex.call 13 (Exs.cons (Ex.var 4) Exs.nil)) (Ex.comp (Ex.call 13 (Exs.cons (Ex.var 5) Exs.nil)) (Tg.one 5) (It.of (Ex.var 2)) (Ex.dat (D.bl true)))) (Sms.cons (Sm.expr (Ex.meth Me.append (Ex.var 2) (Exs.cons (Ex.var 4) Exs.nil))) Sms.nil) Sms.nil)
theorem walk_lock {n : Nat} {S : Store} {j : Nat} {xs : List D} (h : S[j]? = some (.lst xs)) (hj : j < n) : walkOf n (.loc j) S = .ok ⟨xs, some j⟩ (S.set j (.frz xs)) := by
  unfold walkOf
  dsimp only
  rw [h]
  have : decide (n ≤ j) = false := decide_eq_false (by omega)
  simp [this]
/-- over a list that is locked meanwhile -/
theorem comp_lock {F : Nat → List D → Store → Out D} {elt test : Ex} {tg : Tg} {i j : Nat} {ρ : Env} {S : Store} {xs ys : List D} {g : D → Option D} (hi : ρ[i]? = some (some (.loc j))) (hj : S[j]? = some (.lst xs)) (h : ∀ x ∈ xs, compTurn F elt tg test ρ x (S.set j (.frz xs)) = .ok (g x) (S.set j (.frz xs)))
    (hy : xs.filterMap g = ys) (hp : D.pureAll ys = true) (hl : ys.length ≤ 1000000) : ev F (.comp elt tg (.of (.var i)) test) ρ S = .ok (.loc S.length) (S ++ [.lst ys]) := by
  have hlt : j < S.length := (List.getElem?_eq_some_iff.mp hj).1
  rw [ev_comp, evIt, ev, hi]
  simp only [ok_bind]
  rw [walk_lock hj hlt]
  simp only [ok_bind]
  rw [compLoop_pure h, hy]
  have e : unlock (some j) (S.set j (.frz xs)) = S := by
    unfold unlock
    dsimp only
    rw [List.getElem?_set_self hlt]
    simp only [unlockO, List.set_set]
    apply List.ext_getElem?
    intro m
    by_cases hm : j = m
    · subst hm
      rw [List.getElem?_set_self hlt, hj]
    · rw [List.getElem?_set_ne hm]
  simp only [noexc, lockEnd, ok_bind, newL, e]
  rw [if_pos]
  rw [hp, show szOk ys.length = true from decide_eq_true (by unfold lineN; omega)]
  rfl
theorem n_s4 {c m i : Int} {n : NT} {ns : List NT} (hn : n.Ok) (hl : ns.length ≤ 1000) : ex (run (PG L) (k + 1)) s4 (ρN c m i n) [.lst (ns.map NT.d)] = .nx (ρN c m i n) [.lst ((if n.key ∈ ns.map NT.key then ns else ns ++ [n]).map NT.d)] := by
  have hv : (ρN c m i n)[4]? = some (some n.d) := rfl
  have h2 : (ρN c m i n)[2]? = some (some (.loc 0)) := rfl
  have ec := comp_lock (F := run (PG L) (k + 1)) (elt := Ex.call 13 (Exs.cons (Ex.var 5) Exs.nil)) (test := Ex.dat (D.bl true)) (tg := .one 5) (i := 2) (j := 0) (ρ := ρN c m i n) (S := [.lst (ns.map NT.d)]) (xs := ns.map NT.d) (ys := ns.map NT.mk3)
    (g := fun x => match x with | .tup [a, _, b, _, d, _, _, _] => some (.tup [a, b, d]) | _ => none) h2 rfl (fun x hx => by
      obtain ⟨r, hr, rfl⟩ := List.mem_map.mp hx
      have e1 : putTg (ρN c m i n) (.one 5) r.d = some ((ρN c m i n).set 5 (some r.d)) := rfl
      have e2 : ((ρN c m i n).set 5 (some r.d))[5]? = some (some r.d) := rfl
      simp only [compTurn, e1, ev_dat, ok_bind, truth, ev, evs, e2, c_mark, ok_gcO, gc_same]
      rfl) (by
      rw [List.filterMap_map, ← List.filterMap_eq_map]
      rfl) (pureAll_mk3 _) (by rw [List.length_map]; omega)
  have hin : (ns.map NT.mk3).any (fun y => eqD y n.mk3) = decide (n.key ∈ ns.map NT.key) := by
    rw [Bool.eq_iff_iff, List.any_eq_true, decide_eq_true_iff]
    constructor
    · rintro ⟨x, hx, e⟩
      obtain ⟨r, hr, rfl⟩ := List.mem_map.mp hx
      rw [eqD_mk3, decide_eq_true_iff] at e
      rw [← e]
      exact List.mem_map_of_mem hr
    · intro h
      obtain ⟨r, hr, e⟩ := List.mem_map.mp h
      exact ⟨r.mk3, List.mem_map_of_mem hr, by rw [eqD_mk3, decide_eq_true_iff]; exact e⟩
  have et : ev (run (PG L) (k + 1)) (Ex.cmp Cop.notin (Ex.call 13 (Exs.cons (Ex.var 4) Exs.nil)) (Ex.comp (Ex.call 13 (Exs.cons (Ex.var 5) Exs.nil)) (Tg.one 5) (It.of (Ex.var 2)) (Ex.dat (D.bl true)))) (ρN c m i n) [.lst (ns.map NT.d)] = .ok (.bl (!decide (n.key ∈ ns.map NT.key))) ([.lst (ns.map NT.d)] ++ [.lst (ns.map NT.mk3)]) := by
    rw [ev_cmp, ev_call, evs_cons, ev_var hv]
    simp only [ok_bind, evs_nil, c_mark]
    rw [ec]
    simp only [ok_bind]
    have dp : decide (n.mk3.depth ≤ 60) = true := rfl
    have dr : der ([.lst (ns.map NT.d)] ++ [.lst (ns.map NT.mk3)]) n.mk3 = some n.mk3 := rfl
    have dl : der ([.lst (ns.map NT.d)] ++ [.lst (ns.map NT.mk3)]) (.loc 1) = some (.lit (ns.map NT.mk3)) := rfl
    have hi : inS ([.lst (ns.map NT.d)] ++ [.lst (ns.map NT.mk3)]) n.mk3 (.loc 1) = some (decide (n.key ∈ ns.map NT.key)) := by
      have : inS ([.lst (ns.map NT.d)] ++ [.lst (ns.map NT.mk3)]) n.mk3 (.loc 1) = some ((ns.map NT.mk3).any (fun y => eqD y n.mk3)) := rfl
      rw [this, hin]
    show blO ((inS ([.lst (ns.map NT.d)] ++ [.lst (ns.map NT.mk3)]) n.mk3 (.loc 1)).map (!·)) _ = _
    rw [hi]
    rfl
  unfold s4
  rw [ex_ife et rfl (gc_new (S := [.lst (ns.map NT.d)]) rfl rfl)]
  by_cases hm : n.key ∈ ns.map NT.key
  · simp only [hm, decide_true, if_true]
    rfl
  · simp only [hm, decide_false, if_false]
    have lt : ns.length < lineN := by unfold lineN; omega
    simp [exs, ex, ev, evs, hv, h2, tyOk, listOf, methD, one, appendD, NT.pure, lt, gc]
/-! ### the notes' loop -/
def sNote : Sms := .cons (Sm.asg 4 (Ex.call 12 (Exs.cons (Ex.bin Bop.add (Ex.var 0) (Ex.bin Bop.mul (Ex.dat (D.int 97)) (Ex.var 3))) Exs.nil))) (.cons s2 (.cons s3 (.cons s4 .nil)))
theorem sm_notes_eq : sm__law_notes = Sms.cons (Sm.asg 2 (Ex.lst Exs.nil)) (Sms.cons (Sm.loop (Tg.one 3) (It.range1 (Ex.call 8 (Exs.cons (Ex.var 0) (Exs.cons (Ex.dat (D.int 9871)) (Exs.cons (Ex.bin Bop.add (Ex.var 1) (Ex.dat (D.int 1))) Exs.nil))))) sNote false) (Sms.cons (Sm.ret (Ex.bi Bi.tuple (Exs.cons (Ex.var 2) Exs.nil))) Sms.nil)) := rfl
/-- good notes, no two of one mark -/
structure NtsOk (ns : List NT) : Prop where
  ok : ∀ n ∈ ns, n.Ok
  nd : (ns.map NT.key).Nodup
def INote (c m : Int) (j : Nat) (ρ : Env) (S : Store) : Prop := ∃ ns v3 v4, ρ = [some (.int c), some (.int m), some (.loc 0), v3, v4, none] ∧ S = [.lst (ns.map NT.d)] ∧ NtsOk ns ∧ ns.length ≤ j
theorem note_turn {c m i : Int} {j : Nat} {ρ : Env} {S : Store} (hj : j ≤ 900) (h : INote c m j ρ S) : ∃ ρ' S', loopTurn (run (PG L) (k + 3)) (.one 3) sNote false (.int i) ρ S = .nx ρ' S' ∧ INote c m (j + 1) ρ' S' := by
  obtain ⟨ns, v3, v4, rfl, rfl, hn, hl⟩ := h
  have b4 : sm64 97 = true := by decide
  obtain ⟨n2, o2, e2⟩ := n_s2 (L := L) (k := k + 2) (c := c) (m := m) (i := i) (note_ok (c + 97 * i)) hn.ok
  obtain ⟨n3, o3, e3⟩ := n_s3 (L := L) (k := k + 2) (c := c) (m := m) (i := i) o2 hn.ok
  have e4 := n_s4 (L := L) (k := k + 2) (c := c) (m := m) (i := i) (n := n3) (ns := ns) o3 (by omega)
  refine ⟨ρN c m i n3, [.lst ((if n3.key ∈ ns.map NT.key then ns else ns ++ [n3]).map NT.d)], ?_, ?_⟩
  · have p1 : putTg [some (.int c), some (.int m), some (.loc 0), v3, v4, none] (.one 3) (.int i) = some [some (.int c), some (.int m), some (.loc 0), some (.int i), v4, none] := rfl
    rw [loopTurn, p1]
    simp only [Bool.false_eq_true, if_false]
    unfold sNote
    rw [exs_cons (ρ1 := ρN c m i (noteF (c + 97 * i))) (S1 := [.lst (ns.map NT.d)]) ?a, exs_cons e2, exs_cons e3, exs_cons e4]
    · rfl
    case a => simp [ex, ev, evs, binD, mulD, addD, b4, c_note, gc, ρN]
  · refine ⟨if n3.key ∈ ns.map NT.key then ns else ns ++ [n3], some (.int i), some n3.d, rfl, rfl, ?_, ?_⟩
    · split
      · exact hn
      · rename_i hk
        refine ⟨fun n h => ?_, ?_⟩
        · rcases List.mem_append.mp h with h | h
          · exact hn.ok n h
          · rw [List.mem_singleton.mp h]; exact o3
        · rw [List.map_append, List.map_singleton, List.nodup_append]
          exact ⟨hn.nd, by simp, fun a ha b hb => by rw [List.mem_singleton.mp hb]; exact fun z => hk (z ▸ ha)⟩
    · split
      · omega
      · rw [List.length_append, List.length_singleton]; omega
theorem r_notes {c m : Int} (hm : 0 ≤ m) (hm2 : m ≤ 800) : ∃ ns, Gives (run (PG L) (k + 4)) 14 [.int c, .int m] (.tup (ns.map NT.d)) ∧ NtsOk ns ∧ ns.length ≤ m.toNat := by
  have h1 := mixF_nn (c := c) (p := 9871) (m := m + 1) (by omega)
  have h2 := mixF_lt (c := c) (p := 9871) (m := m + 1) (by omega)
  have s1 : sm62 (mixF c 9871 (m + 1)) = true := by unfold sm62; rw [Bool.and_eq_true]; constructor <;> apply decide_eq_true <;> omega
  have hlen : (upFrom 0 (mixF c 9871 (m + 1)).toNat).length = (mixF c 9871 (m + 1)).toNat := by rw [upFrom_eq]; simp
  obtain ⟨ρ', S', e, j⟩ := forLoop_inv (turn := loopTurn (run (PG L) (k + 3)) (.one 3) sNote false) (n := 801) (INote c m) (xs := upFrom 0 (mixF c 9871 (m + 1)).toNat) (i := 0) (ρ := [some (.int c), some (.int m), some (.loc 0), none, none, none]) (S := [.lst []])
    ⟨[], none, none, rfl, rfl, ⟨by simp, by simp⟩, by simp⟩ (by rw [hlen]; omega) (fun x hx j ρ S hj hI => by
      rw [upFrom_eq] at hx
      obtain ⟨i, hi, rfl⟩ := List.mem_map.mp hx
      exact note_turn (by omega) hI)
  obtain ⟨ns, v3, v4, rfl, rfl, hn, hl⟩ := j
  refine ⟨ns, ⟨[.lst (ns.map NT.d)], ?_⟩, hn, by rw [hlen] at hl; omega⟩
  rw [run_fd (fd := fd__law_notes) rfl rfl]
  show endD (exs _ sm__law_notes [some (.int c), some (.int m), none, none, none, none] []) = _
  rw [sm_notes_eq, exs_cons (ρ1 := [some (.int c), some (.int m), some (.loc 0), none, none, none]) (S1 := [.lst []]) (by simp [ex, ev, newL, D.pureAll, szOk_le, gc, closedS, D.low])]
  rw [exs_cons (ρ1 := [some (.int c), some (.int m), some (.loc 0), v3, v4, none]) (S1 := [.lst (ns.map NT.d)])]
  · simp [exs, ex, ev, evs, biD, one, tupleD, listOf, endD]
  · rw [ex_loop]
    have ei : evIt (run (PG L) (k + 3)) (It.range1 (Ex.call 8 (Exs.cons (Ex.var 0) (Exs.cons (Ex.dat (D.int 9871)) (Exs.cons (Ex.bin Bop.add (Ex.var 1) (Ex.dat (D.int 1))) Exs.nil))))) [some (.int c), some (.int m), some (.loc 0), none, none, none] [.lst []] = .ok ⟨upFrom 0 (mixF c 9871 (m + 1)).toNat, none⟩ [.lst []] := by
      have := c_mix (L := L) (k := k + 2) (c := c) (p := 9871) (m := m + 1) (S := [.lst []]) (by omega) (by omega) (by omega)
      simp [evIt, ev, evs, binD, addD, this, range1D, s1]
    rw [ei]
    simp only [ok_thn]
    rw [e]
    rfl
theorem c_notes {c m : Int} {S : Store} (hm : 0 ≤ m) (hm2 : m ≤ 800) : ∃ ns, callF (run (PG L) (k + 4)) 14 [.int c, .int m] S = .ok (.tup (ns.map NT.d)) S ∧ NtsOk ns ∧ ns.length ≤ m.toNat := by
  obtain ⟨ns, h1, h2, h3⟩ := r_notes (L := L) (k := k) (c := c) hm hm2
  exact ⟨ns, callF_ok rfl h1 (by simp [D.pure]), h2, h3⟩
end Lw
set_option Elab.async false
set_option linter.all false
set_option maxRecDepth 100000
namespace Lw
open Ev
variable {L : FD} {k : Nat}
theorem exs_rt {F : Nat → List D → Store → Out D} {s : Sm} {r : Sms} {ρ : Env} {S S1 : Store} {d : D} (h : ex F s ρ S = .rt d S1) : exs F (.cons s r) ρ S = .rt d S1 := by
  rw [exs, h]
theorem ex_ret {F : Nat → List D → Store → Out D} {e : Ex} {ρ : Env} {S S1 : Store} {d : D} (h : ev F e ρ S = .ok d S1) : ex F (.ret e) ρ S = .rt d S1 := by
  rw [ex, h]; rfl
/-! ### _law_same of one thing twice -/
mutual
def plainD : D → Bool
  | .non => true | .bl _ => true | .int _ => true | .str _ => true
  | .tup ds => decide (ds.length ≤ 100000) && plainAll ds
  | _ => false
def plainAll : List D → Bool
  | [] => true
  | d :: ds => plainD d && plainAll ds
end
mutual
theorem plainD.pure : ∀ {d : D}, plainD d = true → d.pure = true
  | .non, _ => rfl
  | .bl _, _ => rfl
  | .int _, _ => rfl
  | .str _, _ => rfl
  | .tup ds, h => by
    rw [plainD, Bool.and_eq_true] at h
    rw [D.pure]; exact plainAll.pure h.2
  | .lit _, h => by cases h
  | .loc _, h => by cases h
theorem plainAll.pure : ∀ {ds : List D}, plainAll ds = true → D.pureAll ds = true
  | [], _ => rfl
  | d :: ds, h => by
    rw [plainAll, Bool.and_eq_true] at h
    rw [D.pureAll, plainD.pure h.1, plainAll.pure h.2]; rfl
end
theorem plainAll.of_mem {ds : List D} (h : ∀ d ∈ ds, plainD d = true) : plainAll ds = true := by
  induction ds with
  | nil => rfl
  | cons d ds ih => rw [plainAll, h d (by simp), ih fun e he => h e (by simp [he])]; rfl
theorem zipD_self (ds : List D) : zipD ds ds = ds.map fun d => .tup [d, d] := by
  induction ds with
  | nil => rfl
  | cons d ds ih => rw [zipD, ih]; rfl
theorem blsOf_trues {α : Type} (ds : List α) : blsOf (ds.map fun _ => D.bl true) = some (ds.map fun _ => true) := by
  induction ds with
  | nil => rfl
  | cons d ds ih => rw [List.map_cons, blsOf, ih]; rfl
theorem pureAll_trues {α : Type} (ds : List α) : D.pureAll (ds.map fun _ => D.bl true) = true := by
  induction ds with
  | nil => rfl
  | cons d ds ih => rw [List.map_cons, D.pureAll, ih]; rfl
theorem same_tup {ds : List D} (hl : ds.length ≤ 100000) (hp : D.pureAll ds = true) (h : ∀ d ∈ ds, Gives (run (PG L) k) 9 [d, d] (.bl true)) : Gives (run (PG L) (k + 1)) 9 [.tup ds, .tup ds] (.bl true) := by
  refine ⟨[.lst (ds.map fun _ => D.bl true)], ?_⟩
  rw [run_fd (fd := fd__law_same) rfl rfl]
  have hpm : ∀ d ∈ ds, d.pure = true := by
    intro d hd
    induction ds with
    | nil => cases hd
    | cons e es ih =>
      rw [D.pureAll, Bool.and_eq_true] at hp
      rcases List.mem_cons.mp hd with rfl | hd
      · exact hp.1
      · exact ih (by simp at hl; omega) hp.2 (fun d hd => h d (by simp [hd])) hd
  have ec := comp_of (F := run (PG L) k) (elt := Ex.call 9 (Exs.cons (Ex.var 2) (Exs.cons (Ex.var 3) Exs.nil))) (test := Ex.dat (D.bl true)) (tg := Tg.many [2, 3]) (it := It.zip (Ex.var 0) (Ex.var 1)) (ρ := [some (.tup ds), some (.tup ds), none, none]) (S := [])
    (xs := zipD ds ds) (ys := ds.map fun _ => D.bl true) (g := fun _ => some (.bl true)) (by simp [evIt, ev, zipOf]) (fun x hx => by
      rw [zipD_self] at hx
      obtain ⟨d, hd, rfl⟩ := List.mem_map.mp hx
      have c := callF_ok (S := []) (by simp [D.pureAll, hpm d hd]) (h d hd) rfl
      simp [compTurn, putTg, setAll, truth, ev, evs, c, D.pure]) (by rw [zipD_self, List.filterMap_map, ← List.filterMap_eq_map]; rfl) (pureAll_trues _) (by rw [List.length_map]; omega)
  have al : (ds.map fun _ => true).all id = true := by simp
  show endD (exs _ sm__law_same [some (.tup ds), some (.tup ds), none, none] []) = _
  unfold sm__law_same
  rw [exs_rt (d := .bl true) (S1 := [.lst (ds.map fun _ => D.bl true)])]
  · rfl
  rw [ex_ife (q := true) (S1 := []) (S2 := []) (x := .bl true) rfl rfl rfl, if_pos rfl, exs_cons (ρ1 := [some (.tup ds), some (.tup ds), none, none]) (S1 := []), exs_rt]
  · rw [ex_ret (d := .bl true) (S1 := [.lst (ds.map fun _ => D.bl true)])]
    rw [ev_bi, evs_cons, ec]
    have e3 : (blsOf (ds.map fun _ => D.bl true)) = some (ds.map fun _ => true) := blsOf_trues ds
    simp [biD, one, allD, listOf, e3]
  · rw [ex_ife (q := false) (S1 := []) (S2 := []) (x := .bl false) _ rfl rfl]
    · rfl
    · simp [ev, evs, isTys, isTy, blO, truth, biD, one, lenD, seqOf, cmpD, cmpO, eqS, der, D.pure, D.depth, eqD]
mutual
theorem same_ok : ∀ (d : D), plainD d = true → ∀ k, d.depth ≤ k → Gives (run (PG L) (k + 1)) 9 [d, d] (.bl true)
  | .non, _, k, _ => ⟨[], by
    rw [run_fd (fd := fd__law_same) rfl rfl]; rfl⟩
  | .bl b, _, k, _ => ⟨[], by
    rw [run_fd (fd := fd__law_same) rfl rfl]; cases b <;> rfl⟩
  | .int i, _, k, _ => ⟨[], by
    rw [run_fd (fd := fd__law_same) rfl rfl]
    simp [fd__law_same, sm__law_same, exs, ex, ev, start0, isTys, isTy, blO, truth, cmpD, cmpO, isS, eqS, der, D.pure, D.depth, eqD, endD]⟩
  | .str s, _, k, _ => ⟨[], by
    rw [run_fd (fd := fd__law_same) rfl rfl]
    simp [fd__law_same, sm__law_same, exs, ex, ev, start0, isTys, isTy, blO, truth, cmpD, cmpO, isS, eqS, der, D.pure, D.depth, eqD, endD]⟩
  | .tup ds, h, k, hk => by
    rw [plainD, Bool.and_eq_true] at h
    rw [D.depth] at hk
    obtain ⟨j, rfl⟩ : ∃ j, k = j + 1 := ⟨k - 1, by omega⟩
    exact same_tup (of_decide_eq_true h.1) (plainAll.pure h.2) (sames_ok ds h.2 j (by omega))
  | .lit _, h, _, _ => by cases h
  | .loc _, h, _, _ => by cases h
theorem sames_ok : ∀ (ds : List D), plainAll ds = true → ∀ k, D.depthAll ds ≤ k → ∀ d ∈ ds, Gives (run (PG L) (k + 1)) 9 [d, d] (.bl true)
  | [], _, _, _, d, hd => by cases hd
  | e :: es, h, k, hk, d, hd => by
    rw [plainAll, Bool.and_eq_true] at h
    rw [D.depthAll] at hk
    rcases List.mem_cons.mp hd with e0 | hd
    · rw [e0]; exact same_ok e h.1 k (by omega)
    · exact sames_ok es h.2 k (by omega) d hd
end
theorem c_same {d : D} {S : Store} (h : plainD d = true) (hk : d.depth ≤ k) : callF (run (PG L) (k + 1)) 9 [d, d] S = .ok (.bl true) S := callF_ok (by simp [D.pureAll, plainD.pure h]) (same_ok d h k hk) rfl
end Lw
set_option Elab.async false
set_option linter.all false
set_option maxRecDepth 100000
namespace Lw
open Ev
variable {L : FD} {k : Nat}
/-! ### labels -/
theorem splitC_ne (c : Nat) (l : List Nat) : splitC c l ≠ [] := by
  cases l with
  | nil => simp [splitC]
  | cons x r =>
    rw [splitC]
    split
    · simp
    · split <;> simp
theorem splitC_cat {c : Nat} {y : List Nat} : ∀ x : List Nat, splitC c (x ++ c :: y) = splitC c x ++ splitC c y
  | [] => by
    show (if c = c then [] :: splitC c y else _) = _
    rw [if_pos rfl]; rfl
  | a :: x => by
    rw [List.cons_append, splitC, splitC_cat x]
    by_cases h : a = c
    · rw [if_pos h, splitC.eq_2, if_pos h]; rfl
    · rw [if_neg h, splitC.eq_2, if_neg h]
      cases e : splitC c x with
      | nil => exact absurd e (splitC_ne c x)
      | cons p ps => rfl
theorem join_cons {c : Nat} {p : List Nat} {ps : List (List Nat)} (h : ps ≠ []) : joinN [c] (p :: ps) = p ++ c :: joinN [c] ps := by
  cases ps with
  | nil => exact absurd rfl h
  | cons q r => rw [joinN]; rfl
theorem join_split {c : Nat} : ∀ l : List Nat, joinN [c] (splitC c l) = l
  | [] => rfl
  | x :: r => by
    have ih := join_split (c := c) r
    rw [splitC]
    by_cases h : x = c
    · rw [if_pos h, join_cons (splitC_ne c r), ih, h]; rfl
    · rw [if_neg h]
      cases e : splitC c r with
      | nil => exact absurd e (splitC_ne c r)
      | cons p ps =>
        rw [e] at ih
        cases ps with
        | nil =>
          rw [joinN] at ih ⊢
          rw [ih]
        | cons q qs =>
          rw [joinN] at ih ⊢
          rw [List.cons_append, ih]
theorem join_app {c : Nat} {ys : List (List Nat)} (hy : ys ≠ []) : ∀ {xs : List (List Nat)}, xs ≠ [] → joinN [c] (xs ++ ys) = joinN [c] xs ++ c :: joinN [c] ys
  | [], h => absurd rfl h
  | [x], _ => by rw [List.singleton_append, join_cons hy]; rfl
  | x :: z :: r, _ => by
    rw [List.cons_append, join_cons (ps := (z :: r) ++ ys) (by simp), join_app hy (xs := z :: r) (by simp), join_cons (p := x) (ps := z :: r) (by simp)]
    simp
/-- the one ends by a point and the other: the labels -/
theorem below_iff (a b : List Nat) : (46 :: b).isSuffixOf a = true ↔ ∃ pre, pre ≠ [] ∧ splitC 46 a = pre ++ splitC 46 b := by
  rw [List.isSuffixOf_iff_suffix]
  constructor
  · rintro ⟨x, rfl⟩
    exact ⟨splitC 46 x, splitC_ne _ _, splitC_cat x⟩
  · rintro ⟨pre, h1, h2⟩
    refine ⟨joinN [46] pre, ?_⟩
    have := join_split (c := 46) a
    rw [h2, join_app (splitC_ne _ _) h1, join_split] at this
    exact this
theorem below_eq (a b : List Nat) : (46 :: b).isSuffixOf a = (decide ((splitC 46 b).length < (splitC 46 a).length) && ((splitC 46 a).drop ((splitC 46 a).length - (splitC 46 b).length) == splitC 46 b)) := by
  rw [Bool.eq_iff_iff, below_iff, Bool.and_eq_true, decide_eq_true_iff, beq_iff_eq]
  constructor
  · rintro ⟨pre, h1, h2⟩
    have : 0 < pre.length := List.length_pos_iff.mpr h1
    rw [h2, List.length_append]
    refine ⟨by omega, ?_⟩
    have e : pre.length + (splitC 46 b).length - (splitC 46 b).length = pre.length := by omega
    rw [e, List.drop_left]
  · rintro ⟨h1, h2⟩
    refine ⟨(splitC 46 a).take ((splitC 46 a).length - (splitC 46 b).length), ?_, ?_⟩
    · intro z
      have := congrArg List.length z
      rw [List.length_take, List.length_nil] at this
      omega
    · conv => lhs; rw [← List.take_append_drop ((splitC 46 a).length - (splitC 46 b).length) (splitC 46 a), h2]
theorem split_sz (c : Nat) : ∀ l : List Nat, ((splitC c l).map List.length).sum + (splitC c l).length ≤ l.length + 1
  | [] => by simp [splitC]
  | x :: r => by
    have ih := split_sz c r
    rw [splitC]
    by_cases h : x = c
    · rw [if_pos h]
      simp only [List.map_cons, List.sum_cons, List.length_cons, List.length_nil]
      omega
    · rw [if_neg h]
      cases e : splitC c r with
      | nil => exact absurd e (splitC_ne c r)
      | cons p ps =>
        rw [e] at ih
        simp only [List.map_cons, List.sum_cons, List.length_cons] at ih ⊢
        omega
theorem split_len (c : Nat) (l : List Nat) : (splitC c l).length ≤ l.length + 1 := by have := split_sz c l; omega
theorem sum_drop (ss : List (List Nat)) : ∀ n, ((ss.drop n).map List.length).sum + (ss.drop n).length ≤ (ss.map List.length).sum + ss.length := by
  induction ss with
  | nil => simp
  | cons s ss ih =>
    intro n
    cases n with
    | zero => exact Nat.le_refl _
    | succ n =>
      have := ih n
      simp only [List.drop_succ_cons, List.map_cons, List.sum_cons, List.length_cons]
      omega
theorem cutL_lo {α : Type} (xs : List α) (v : Int) : cutL xs (some v) none = xs.drop (cutIx xs.length 0 (some v)) := by
  unfold cutL
  rw [List.take_of_length_le]
  rw [List.length_drop]
  exact Nat.le_refl _
def lastTwo {α : Type} (xs : List α) : List α := xs.drop (xs.length - 2)
theorem cut_two {α : Type} (xs : List α) : cutL xs (some (-2)) none = lastTwo xs := by
  rw [cutL_lo, lastTwo]
  congr 1
  simp [cutIx]
  omega
def siteF (h : List Nat) : List Nat := joinN [46] (lastTwo (splitC 46 h))
theorem r_below {a b : List Nat} (hb : b.length ≤ 100000) : Gives (run (PG L) (k + 1)) 1 [.str a, .str b] (.bl ((46 :: b).isSuffixOf a)) := by
  refine ⟨[], ?_⟩
  rw [run_fd (fd := fd_is_below) rfl rfl]
  have l1 : szOk (1 + b.length) = true := szOk_le (by omega)
  simp [fd_is_below, sm_is_below, exs, ex, ev, evs, start0, tyOk, isStr, binD, addD, l1, methD, one, endsD, endD]
theorem c_below {a b : List Nat} {S : Store} (hb : b.length ≤ 100000) : callF (run (PG L) (k + 1)) 1 [.str a, .str b] S = .ok (.bl ((46 :: b).isSuffixOf a)) S := callF_ok rfl (r_below hb) rfl
theorem splitD_ok {s : List Nat} {c : Nat} {S : Store} (h : s.length ≤ 100000) (hc : c < 256) : splitD (.str s) (.str [c]) S = .ok (.loc S.length) (S ++ [.lst ((splitC c s).map .str)]) := by
  have l1 : szOk (s.length + 2) = true := szOk_le (by omega)
  have l2 : szOk (splitC c s).length = true := szOk_le (by have := split_len c s; omega)
  simp [splitD, l1, hc, newL, l2]
theorem joinD_ok {ss : List (List Nat)} {c : Nat} {d : D} {S : Store} (hd : seqOf S d = some (ss.map .str)) (h : (ss.map List.length).sum + ss.length ≤ 1000000) : joinD (.str [c]) d S = .ok (.str (joinN [c] ss)) S := by
  have b2 : (ss.map List.length).sum + ss.length ≤ lineN := by unfold lineN; omega
  simp [joinD, hd, strsOf_map, b2]
theorem last_sz {h : List Nat} (hl : h.length ≤ 100000) : ((lastTwo (splitC 46 h)).map List.length).sum + (lastTwo (splitC 46 h)).length ≤ 1000000 := by
  have := sum_drop (splitC 46 h) ((splitC 46 h).length - 2)
  have := split_sz 46 h
  unfold lastTwo
  omega
theorem r_site {h : List Nat} (hl : h.length ≤ 100000) : Gives (run (PG L) (k + 1)) 2 [.str h] (.str (siteF h)) := by
  refine ⟨[.lst ((splitC 46 h).map .str), .lst ((lastTwo (splitC 46 h)).map .str)], ?_⟩
  rw [run_fd (fd := fd_site) rfl rfl]
  have l2 : szOk (lastTwo (splitC 46 h)).length = true := szOk_le (by have := last_sz hl; omega)
  have c2 : cutL ((splitC 46 h).map D.str) (some (-2)) none = (lastTwo (splitC 46 h)).map D.str := by
    rw [cut_two]; simp [lastTwo, List.map_drop]
  have j := joinD_ok (c := 46) (d := .loc 1) (S := [.lst ((splitC 46 h).map .str), .lst ((lastTwo (splitC 46 h)).map .str)]) rfl (last_sz hl)
  simp [fd_site, sm_site, exs, ex, ev, evs, start0, tyOk, isStr, methD, one, splitD_ok hl, slcD, partO, listOf, c2, newL, l2, j, endD, siteF]
theorem c_site {h : List Nat} {S : Store} (hl : h.length ≤ 100000) : callF (run (PG L) (k + 1)) 2 [.str h] S = .ok (.str (siteF h)) S := callF_ok rfl (r_site hl) rfl
theorem r_lsite {h : List Nat} (hl : h.length ≤ 100000) : Gives (run (PG L) (k + 1)) 15 [.str h] (.tup ((lastTwo (splitC 46 h)).map .str)) := by
  refine ⟨[.lst ((splitC 46 h).map .str), .lst ((lastTwo (splitC 46 h)).map .str)], ?_⟩
  rw [run_fd (fd := fd__law_site) rfl rfl]
  have l2 : szOk (lastTwo (splitC 46 h)).length = true := szOk_le (by have := last_sz hl; omega)
  have c2 : cutL ((splitC 46 h).map D.str) (some (if (2 : Int) < (splitC 46 h).length then ((splitC 46 h).length : Int) - 2 else 0)) none = (lastTwo (splitC 46 h)).map D.str := by
    rw [cutL_lo, lastTwo, List.map_drop]
    congr 1
    rw [List.length_map, cutIx]
    split <;> split <;> omega
  simp [fd__law_site, sm__law_site, exs, ex, ev, evs, start0, tyOk, isStr, methD, one, splitD_ok hl, gc, closedS, D.low, biD, lenD, seqOf, listOf, binD, subD, two, max2D, slcD, partO, newL, l2, c2, tupleD, endD]
theorem c_lsite {h : List Nat} {S : Store} (hl : h.length ≤ 100000) : callF (run (PG L) (k + 1)) 15 [.str h] S = .ok (.tup ((lastTwo (splitC 46 h)).map .str)) S := callF_ok rfl (r_lsite hl) (by simp [D.pure])
/-! ### steps -/
theorem r_steps {p : List Nat} {ps : List (List Nat)} (hp : p = [47] ++ joinN [47] ps) (h : ∀ l ∈ ps, l ∈ plabs) (hl : p.length ≤ 1000) : Gives (run (PG L) (k + 1)) 3 [.str p] (.tup (ps.map .str)) := by
  rw [Gives]
  rw [show run (PG L) (k + 1) 3 [.str p] [] = endD (exs (run (PG L) k) sm_steps [some (.str p)] []) from run_fd (fd := fd_steps) rfl rfl]
  by_cases he : ps = []
  · subst he
    have : p = [47] := hp
    subst this
    exact ⟨[], rfl⟩
  · have ej : joinN [47] ps ≠ [] := fun z => he (join_nil (fun l hl => plab_ne (h l hl)) z)
    have e0 : (p == [47]) = false := by
      rw [hp, beq_eq_false_iff_ne]
      intro z
      rw [List.singleton_append] at z
      exact ej (List.cons.inj z).2
    have e1 : cutL p (some 1) none = joinN [47] ps := by
      rw [cutL_lo, hp]
      simp [cutIx]
    have e2 : splitC 47 (joinN [47] ps) = ps := split_join he fun l hl => plab_no (h l hl)
    have l1 : szOk p.length = true := szOk_le (by omega)
    have l3 : (joinN [47] ps).length ≤ 100000 := by rw [hp] at hl; simp at hl; omega
    refine ⟨[.lst (ps.map .str)], ?_⟩
    simp [sm_steps, exs, ex, ev, evs, cmpD, cmpO, eqS, der, D.pure, D.depth, eqD, e0, blO, truth, slcD, partO, l1, e1, tyOk, isStr, methD, one, splitD_ok l3, e2, biD, tupleD, listOf, endD]
theorem c_steps {p : List Nat} {ps : List (List Nat)} {S : Store} (hp : p = [47] ++ joinN [47] ps) (h : ∀ l ∈ ps, l ∈ plabs) (hl : p.length ≤ 1000) : callF (run (PG L) (k + 1)) 3 [.str p] S = .ok (.tup (ps.map .str)) S := callF_ok rfl (r_steps hp h hl) (by simp [D.pure])
theorem r_lsteps {p : List Nat} {ps : List (List Nat)} (hp : p = [47] ++ joinN [47] ps) (h : ∀ l ∈ ps, l ∈ plabs) (hl : p.length ≤ 1000) : GivesL (run (PG L) (k + 1)) 16 [.str p] (ps.map .str) := by
  rw [GivesL]
  rw [show run (PG L) (k + 1) 16 [.str p] [] = endD (exs (run (PG L) k) sm__law_steps [some (.str p), none] []) from run_fd (fd := fd__law_steps) rfl rfl]
  have fil : ((splitC 47 p).map D.str).filterMap (fun x => if eqD x (.str []) then none else some x) = ps.map .str := by
    by_cases he : ps = []
    · subst he
      have : p = [47] := hp
      subst this
      rfl
    · rw [hp, split_path h he]
      have : ∀ qs : List (List Nat), (∀ l ∈ qs, l ∈ plabs) → (qs.map D.str).filterMap (fun x => if eqD x (.str []) then none else some x) = qs.map .str := by
        intro qs
        induction qs with
        | nil => intro _; rfl
        | cons q qs ih =>
          intro hq
          have e : eqD (.str q) (.str []) = false := by
            show (q == []) = false
            exact beq_eq_false_iff_ne.mpr (plab_ne (hq q (by simp)))
          rw [List.map_cons, List.filterMap_cons, e, ih fun l hl => hq l (by simp [hl])]
          rfl
      rw [List.map_cons, List.filterMap_cons]
      exact this ps h
  have pl : ps.length ≤ 2000 := by
    have := congrArg List.length fil
    rw [List.length_map] at this
    have h2 := List.length_filterMap_le (fun x => if eqD x (.str []) then none else some x) ((splitC 47 p).map D.str)
    rw [List.length_map] at h2
    have := split_len 47 p
    omega
  have ei : evIt (run (PG L) k) (.of (Ex.meth Me.split (Ex.var 0) (Exs.cons (Ex.dat (D.str [47])) Exs.nil))) [some (.str p), none] [] = .ok ⟨(splitC 47 p).map .str, none⟩ [] := by
    simp [evIt, ev, evs, tyOk, isStr, methD, one, splitD_ok (s := p) (c := 47) (S := []) (by omega) (by omega), walkOf, closedS]
  refine ⟨[.lst (ps.map .str)], 0, ?_, rfl⟩
  unfold sm__law_steps
  rw [exs_rt (ex_ret (comp_of (g := fun x => if eqD x (.str []) then none else some x) ei ?h fil (pureAll_strs _) (by rw [List.length_map]; omega)))]
  · rfl
  · intro x hx
    obtain ⟨q, _, rfl⟩ := List.mem_map.mp hx
    cases e : (q == []) <;> simp [compTurn, putTg, ev, cmpD, cmpO, eqS, der, D.pure, D.depth, eqD, blO, truth, e]
theorem c_lsteps {p : List Nat} {ps : List (List Nat)} {S : Store} (hp : p = [47] ++ joinN [47] ps) (h : ∀ l ∈ ps, l ∈ plabs) (hl : p.length ≤ 1000) : callF (run (PG L) (k + 1)) 16 [.str p] S = .ok (.loc S.length) (S ++ [.lst (ps.map .str)]) := callF_lst rfl (r_lsteps hp h hl)
/-! ### may_put -/
def mayPut (n : NT) (h : List Nat) : Bool := !(n.deep && !n.host.contains 46) && ((h == n.host) || (46 :: n.host).isSuffixOf h)
theorem r_may {n : NT} {h : List Nat} (hn : n.host.length ≤ 10000) (hh : h.length ≤ 10000) : Gives (run (PG L) (k + 2)) 5 [n.d, .str h] (.bl (mayPut n h)) := by
  refine ⟨[], ?_⟩
  rw [run_fd (fd := fd_may_put) rfl rfl]
  show endD (exs _ sm_may_put [some n.d, some (.str h)] []) = _
  have i3 : ∀ S, idxD n.d (.int 3) S = .ok (.bl n.deep) S := fun S => by simp [idxD, atZ, retO, NT.d]
  have i2 : ∀ S, idxD n.d (.int 2) S = .ok (.str n.host) S := fun S => by simp [idxD, atZ, retO, NT.d]
  have cb := c_below (L := L) (k := k) (a := h) (b := n.host) (S := []) (by omega)
  unfold mayPut
  cases hd : n.deep <;> by_cases hc : 46 ∈ n.host <;> cases he : (h == n.host) <;>
    simp [sm_may_put, exs, ex, ev, evs, i3, i2, hd, truth, cmpD, cmpO, inS, hc, blO, eqS, der, D.pure, D.depth, eqD, he, cb, endD]
theorem c_may {n : NT} {h : List Nat} {S : Store} (hn : n.host.length ≤ 10000) (hh : h.length ≤ 10000) : callF (run (PG L) (k + 2)) 5 [n.d, .str h] S = .ok (.bl (mayPut n h)) S := callF_ok (by simp [D.pureAll, D.pure, NT.pure]) (r_may hn hh) rfl
end Lw
set_option Elab.async false
set_option linter.all false
set_option maxRecDepth 100000
namespace Lw
open Ev
variable {L : FD} {k : Nat}
/-! ### paths of any steps -/
structure PathG (p : List Nat) : Prop where
  ex : ∃ ps, p = [47] ++ joinN [47] ps ∧ ∀ l ∈ ps, l ≠ [] ∧ noC 47 l
  len : p.length ≤ 100
theorem PathOk.g {p : List Nat} (h : PathOk p) : PathG p := by
  have hl := h.len
  obtain ⟨ps, e, _, h2⟩ := h.ex
  exact ⟨⟨ps, e, fun l hl => ⟨plab_ne (h2 l hl), plab_no (h2 l hl)⟩⟩, by omega⟩
def stepsF (p : List Nat) : List (List Nat) := (splitC 47 p).filter (· ≠ [])
theorem stepsF_eq {p : List Nat} {ps : List (List Nat)} (e : p = [47] ++ joinN [47] ps) (h : ∀ l ∈ ps, l ≠ [] ∧ noC 47 l) : stepsF p = ps := by
  unfold stepsF
  by_cases he : ps = []
  · subst he
    have : p = [47] := e
    subst this
    rfl
  · rw [e, List.singleton_append, splitC, if_pos rfl, split_join he fun l hl => (h l hl).2]
    rw [List.filter_cons_of_neg (by simp), List.filter_eq_self.mpr]
    intro l hl
    simpa using (h l hl).1
theorem r_stepsG {p : List Nat} (g : PathG p) : Gives (run (PG L) (k + 1)) 3 [.str p] (.tup ((stepsF p).map .str)) := by
  have hl := g.len
  obtain ⟨ps, hp, h⟩ := g.ex
  rw [stepsF_eq hp h, Gives]
  rw [show run (PG L) (k + 1) 3 [.str p] [] = endD (exs (run (PG L) k) sm_steps [some (.str p)] []) from run_fd (fd := fd_steps) rfl rfl]
  by_cases he : ps = []
  · subst he
    have : p = [47] := hp
    subst this
    exact ⟨[], rfl⟩
  · have ej : joinN [47] ps ≠ [] := fun z => he (join_nil (fun l hl => (h l hl).1) z)
    have e0 : (p == [47]) = false := by
      rw [hp, beq_eq_false_iff_ne]
      intro z
      rw [List.singleton_append] at z
      exact ej (List.cons.inj z).2
    have e1 : cutL p (some 1) none = joinN [47] ps := by
      rw [cutL_lo, hp]
      simp [cutIx]
    have e2 : splitC 47 (joinN [47] ps) = ps := split_join he fun l hl => (h l hl).2
    have l1 : szOk p.length = true := szOk_le (by omega)
    have l3 : (joinN [47] ps).length ≤ 100000 := by rw [hp] at hl; simp at hl; omega
    refine ⟨[.lst (ps.map .str)], ?_⟩
    simp [sm_steps, exs, ex, ev, evs, cmpD, cmpO, eqS, der, D.pure, D.depth, eqD, e0, blO, truth, slcD, partO, l1, e1, tyOk, isStr, methD, one, splitD_ok l3, e2, biD, tupleD, listOf, endD]
theorem c_stepsG {p : List Nat} {S : Store} (g : PathG p) : callF (run (PG L) (k + 1)) 3 [.str p] S = .ok (.tup ((stepsF p).map .str)) S := callF_ok rfl (r_stepsG g) (by simp [D.pure])
theorem r_lstepsG {p : List Nat} (hl : p.length ≤ 1000) : GivesL (run (PG L) (k + 1)) 16 [.str p] ((stepsF p).map .str) := by
  rw [GivesL]
  rw [show run (PG L) (k + 1) 16 [.str p] [] = endD (exs (run (PG L) k) sm__law_steps [some (.str p), none] []) from run_fd (fd := fd__law_steps) rfl rfl]
  have fil : ((splitC 47 p).map D.str).filterMap (fun x => if eqD x (.str []) then none else some x) = (stepsF p).map .str := by
    unfold stepsF
    generalize splitC 47 p = qs
    induction qs with
    | nil => rfl
    | cons q qs ih =>
      rw [List.map_cons, List.filterMap_cons, ih]
      have e : eqD (.str q) (.str []) = (q == []) := rfl
      rw [e]
      by_cases hq : q = []
      · subst hq
        rw [List.filter_cons_of_neg (by simp)]
        rfl
      · rw [beq_eq_false_iff_ne.mpr hq, List.filter_cons_of_pos (by simpa using hq)]
        rfl
  have pl : (stepsF p).length ≤ 2000 := by
    have h1 := split_len 47 p
    have h2 := List.length_filter_le (· ≠ ([] : List Nat)) (splitC 47 p)
    unfold stepsF
    omega
  have ei : evIt (run (PG L) k) (.of (Ex.meth Me.split (Ex.var 0) (Exs.cons (Ex.dat (D.str [47])) Exs.nil))) [some (.str p), none] [] = .ok ⟨(splitC 47 p).map .str, none⟩ [] := by
    simp [evIt, ev, evs, tyOk, isStr, methD, one, splitD_ok (s := p) (c := 47) (S := []) (by omega) (by omega), walkOf, closedS]
  refine ⟨[.lst ((stepsF p).map .str)], 0, ?_, rfl⟩
  unfold sm__law_steps
  rw [exs_rt (ex_ret (comp_of (g := fun x => if eqD x (.str []) then none else some x) ei ?h fil (pureAll_strs _) (by rw [List.length_map]; omega)))]
  · rfl
  · intro x hx
    obtain ⟨q, _, rfl⟩ := List.mem_map.mp hx
    cases e : (q == []) <;> simp [compTurn, putTg, ev, cmpD, cmpO, eqS, der, D.pure, D.depth, eqD, blO, truth, e]
theorem c_lstepsG {p : List Nat} {S : Store} (hl : p.length ≤ 1000) : callF (run (PG L) (k + 1)) 16 [.str p] S = .ok (.loc S.length) (S ++ [.lst ((stepsF p).map .str)]) := callF_lst rfl (r_lstepsG hl)
end Lw
set_option Elab.async false
set_option linter.all false
set_option maxRecDepth 100000
set_option maxHeartbeats 1000000
namespace Lw
open Ev
variable {L : FD} {k : Nat}
/-! ### rules -/
def tk0 : List (List Nat) := [[115, 105, 103, 110, 115], [115, 116, 101, 112, 115]]
def tk1 : List (List Nat) := [[97, 108, 119, 97, 121, 115], [110, 101, 118, 101, 114], [116, 111, 108, 100]]
def tk2 : List (List Nat) := [[117, 110, 116, 105, 108], [119, 105, 116, 104]]
def tk3 : List (List Nat) := [[102, 114, 101, 101], [109, 117, 115, 116]]
def tk4 : List (List Nat) := [[107, 101, 101, 112], [108, 111, 111, 115, 101], [110, 111, 110, 101]]
def tk5 : List (List Nat) := [[108, 111, 110, 103], [110, 97, 109, 101, 115], [111, 108, 100]]
structure RT where
  r0 : List Nat
  r1 : List Nat
  r2 : List Nat
  r3 : List Nat
  r4 : List Nat
  r5 : List Nat
def RT.d (r : RT) : D := .tup [.str r.r0, .str r.r1, .str r.r2, .str r.r3, .str r.r4, .str r.r5]
theorem RT.pure (r : RT) : r.d.pure = true := rfl
structure RT.Ok (r : RT) : Prop where
  o0 : r.r0 ∈ tk0
  o1 : r.r1 ∈ tk1
  o2 : r.r2 ∈ tk2
  o3 : r.r3 ∈ tk3
  o4 : r.r4 ∈ tk4
  o5 : r.r5 ∈ tk5
def rulesF (c : Int) : RT := ⟨pickS tk0 (mixF (c + 13 * 0) 9851 2), pickS tk1 (mixF (c + 13 * 1) 9851 3), pickS tk2 (mixF (c + 13 * 2) 9851 2), pickS tk3 (mixF (c + 13 * 3) 9851 2), pickS tk4 (mixF (c + 13 * 4) 9851 3), pickS tk5 (mixF c 9839 3)⟩
theorem rules_ok (c : Int) : (rulesF c).Ok where
  o0 := pickS_mem (mixF_nn (m := 2) (by omega)) (mixF_lt (m := 2) (by omega))
  o1 := pickS_mem (mixF_nn (m := 3) (by omega)) (mixF_lt (m := 3) (by omega))
  o2 := pickS_mem (mixF_nn (m := 2) (by omega)) (mixF_lt (m := 2) (by omega))
  o3 := pickS_mem (mixF_nn (m := 2) (by omega)) (mixF_lt (m := 2) (by omega))
  o4 := pickS_mem (mixF_nn (m := 3) (by omega)) (mixF_lt (m := 3) (by omega))
  o5 := pickS_mem (mixF_nn (m := 3) (by omega)) (mixF_lt (m := 3) (by omega))
def tokD (ws : List (List Nat)) : D := .tup (ws.map .str)
def toks : List D := [tokD tk0, tokD tk1, tokD tk2, tokD tk3, tokD tk4]
def found5 (c : Int) : List D := [.str (rulesF c).r0, .str (rulesF c).r1, .str (rulesF c).r2, .str (rulesF c).r3, .str (rulesF c).r4]
theorem tok_turn {c n : Int} {a : D} {ws : List (List Nat)} {S : Store} (hw : 0 < ws.length) (hn : sm64 13 = true) :
    compTurn (run (PG L) (k + 1)) (Ex.idx (Ex.var 4) (Ex.call 8 (Exs.cons (Ex.bin Bop.add (Ex.var 0) (Ex.bin Bop.mul (Ex.dat (D.int 13)) (Ex.var 3))) (Exs.cons (Ex.dat (D.int 9851)) (Exs.cons (Ex.bi Bi.len (Exs.cons (Ex.var 4) Exs.nil)) Exs.nil))))) (Tg.many [3, 4]) (Ex.dat (D.bl true)) [some (.int c), some a, none, none, none] (.tup [.int n, tokD ws]) S
      = .ok (some (.str (pickS ws (mixF (c + 13 * n) 9851 ws.length)))) S := by
  have h1 : 0 ≤ mixF (c + 13 * n) 9851 ws.length := mixF_nn (by omega)
  have h2 : mixF (c + 13 * n) 9851 ws.length < ws.length := mixF_lt (by omega)
  have cm := c_mix (L := L) (k := k) (c := c + 13 * n) (p := 9851) (m := ws.length) (S := S) (by omega) (by omega) (by omega)
  have ea := atZ_str (xs := ws) rfl h1 h2
  simp [compTurn, putTg, setAll, truth, ev, evs, binD, mulD, addD, hn, tokD, biD, one, lenD, seqOf, cm, idxD, ea, retO, gc_same, D.pure]
theorem r_rules {c : Int} : Gives (run (PG L) (k + 2)) 24 [.int c] (rulesF c).d := by
  refine ⟨[.lst (found5 c)], ?_⟩
  rw [run_fd (fd := fd__law_rules) rfl rfl]
  show endD (exs _ sm__law_rules [some (.int c), none, none, none, none] []) = _
  have b4 : sm64 13 = true := by decide
  unfold sm__law_rules
  rw [exs_cons (ρ1 := [some (.int c), some (.tup [tokD tk0, tokD tk1, tokD tk2]), none, none, none]) (S1 := []) (by simp [ex, ev, evs, szOk_le, tokD, tk0, tk1, tk2])]
  rw [exs_cons (ρ1 := [some (.int c), some (.tup toks), none, none, none]) (S1 := []) (by simp [ex, ev, evs, szOk_le, binD, addD, tokD, toks, tk3, tk4])]
  have ec := comp_of (F := run (PG L) (k + 1)) (elt := (Ex.idx (Ex.var 4) (Ex.call 8 (Exs.cons (Ex.bin Bop.add (Ex.var 0) (Ex.bin Bop.mul (Ex.dat (D.int 13)) (Ex.var 3))) (Exs.cons (Ex.dat (D.int 9851)) (Exs.cons (Ex.bi Bi.len (Exs.cons (Ex.var 4) Exs.nil)) Exs.nil)))))) (tg := Tg.many [3, 4]) (it := It.enum (Ex.var 1)) (test := Ex.dat (D.bl true)) (ρ := [some (.int c), some (.tup toks), none, none, none]) (S := [])
    (xs := [.tup [.int 0, tokD tk0], .tup [.int 1, tokD tk1], .tup [.int 2, tokD tk2], .tup [.int 3, tokD tk3], .tup [.int 4, tokD tk4]]) (ys := found5 c) (g := fun x => match x with | .tup [.int n, .tup ws] => atZ ws (mixF (c + 13 * n) 9851 ws.length) | _ => none) rfl (fun x hx => by
      have ga : ∀ (n : Int) (ws : List (List Nat)), 0 < ws.length → atZ (ws.map D.str) (mixF (c + 13 * n) 9851 (ws.map D.str).length) = some (.str (pickS ws (mixF (c + 13 * n) 9851 ws.length))) := fun n ws hw => by
        rw [List.length_map]
        exact atZ_str rfl (mixF_nn (by omega)) (mixF_lt (by omega))
      simp only [List.mem_cons, List.not_mem_nil, or_false] at hx
      rcases hx with rfl | rfl | rfl | rfl | rfl
      · rw [tok_turn (by decide) b4, ← ga 0 tk0 (by decide)]; rfl
      · rw [tok_turn (by decide) b4, ← ga 1 tk1 (by decide)]; rfl
      · rw [tok_turn (by decide) b4, ← ga 2 tk2 (by decide)]; rfl
      · rw [tok_turn (by decide) b4, ← ga 3 tk3 (by decide)]; rfl
      · rw [tok_turn (by decide) b4, ← ga 4 tk4 (by decide)]; rfl) (by
      have ga : ∀ (n : Int) (ws : List (List Nat)), 0 < ws.length → atZ (ws.map D.str) (mixF (c + 13 * n) 9851 (ws.map D.str).length) = some (.str (pickS ws (mixF (c + 13 * n) 9851 ws.length))) := fun n ws hw => by
        rw [List.length_map]
        exact atZ_str rfl (mixF_nn (by omega)) (mixF_lt (by omega))
      simp only [List.filterMap_cons, List.filterMap_nil, tokD, ga 0 tk0 (by decide), ga 1 tk1 (by decide), ga 2 tk2 (by decide), ga 3 tk3 (by decide), ga 4 tk4 (by decide)]
      rfl) rfl (by simp [found5])
  rw [exs_cons (ex_asg (i := 2) ec (d' := .loc 0) (S2 := [.lst (found5 c)]) (by simp [gc, closedS, D.low]) (by simp))]
  have e5 := atZ_str (xs := tk5) (ds := [D.str [108, 111, 110, 103], D.str [110, 97, 109, 101, 115], D.str [111, 108, 100]]) (j := mixF c 9839 3) rfl (mixF_nn (by omega)) (mixF_lt (by omega))
  have sz : szOk ((found5 c).length + 1) = true := rfl
  simp [exs, ex, ev, evs, biD, one, tupleD, listOf, szOk_le, c_mix, idxD, e5, retO, binD, addD, sz, endD]
  rfl
theorem c_rules {c : Int} {S : Store} : callF (run (PG L) (k + 2)) 24 [.int c] S = .ok (rulesF c).d S := callF_ok rfl r_rules rfl
end Lw
set_option Elab.async false
set_option linter.all false
set_option maxRecDepth 100000
set_option maxHeartbeats 1000000
namespace Lw
open Ev
variable {L : FD} {k : Nat}
/-! ### asks -/
structure AT where
  host : List Nat
  path : List Nat
  time : Int
  safe : Bool
  org : Option (List Nat)
  near : Bool
def orgD : Option (List Nat) → D
  | none => .non
  | some s => .str s
def AT.d (a : AT) : D := .tup [.str a.host, .str a.path, .int a.time, .bl a.safe, orgD a.org, .bl a.near]
@[simp] theorem orgD_pure (o : Option (List Nat)) : (orgD o).pure = true := by cases o <;> rfl
theorem AT.pure (a : AT) : a.d.pure = true := by simp [AT.d, D.pure, D.pureAll]
structure AT.Ok (a : AT) : Prop where
  host : a.host.length ≤ 50
  path : PathG a.path
  t0 : 0 ≤ a.time
  t1 : a.time ≤ 99
  org : ∀ s, a.org = some s → s.length ≤ 100
theorem atZ_nt {ns : List NT} {j : Int} (h0 : 0 ≤ j) (h1 : j < ns.length) : ∃ n ∈ ns, atZ (ns.map NT.d) j = some n.d := by
  have h2 : j.toNat < ns.length := by omega
  refine ⟨ns[j.toNat], List.getElem_mem _, ?_⟩
  unfold atZ
  rw [if_pos h0, if_pos (by rw [List.length_map]; exact h1), List.getElem?_map, List.getElem?_eq_getElem h2]
  rfl
/-- the four paths near to a note's -/
theorem near_path {p q : List Nat} {j : Int} (hp : PathOk p) (hq : PathG q) (h0 : 0 ≤ j) (h1 : j < 4) : PathG (pickS [p, (if p == [47] then [] else p) ++ [47, 113], p ++ [113], q] j) := by
  have hl := hp.len
  have m := pickS_mem (xs := [p, (if p == [47] then [] else p) ++ [47, 113], p ++ [113], q]) h0 h1
  obtain ⟨ps, e, p1, p2⟩ := hp.ex
  have good : ∀ l ∈ ps, l ≠ [] ∧ noC 47 l := fun l hl => ⟨plab_ne (p2 l hl), plab_no (p2 l hl)⟩
  have gq : ([113] : List Nat) ≠ [] ∧ noC 47 [113] := ⟨by simp, by intro x hx; simp at hx; omega⟩
  simp only [List.mem_cons, List.not_mem_nil, or_false] at m
  rcases m with m | m | m | m <;> rw [m]
  · exact hp.g
  · by_cases he : ps = []
    · subst he
      have : p = [47] := e
      subst this
      exact ⟨⟨[[113]], rfl, fun l hl => by rw [List.mem_singleton.mp hl]; exact gq⟩, by decide⟩
    · have ej : joinN [47] ps ≠ [] := fun z => he (join_nil (fun l hl => (good l hl).1) z)
      have e0 : (p == [47]) = false := by
        rw [e, beq_eq_false_iff_ne]
        intro z
        rw [List.singleton_append] at z
        exact ej (List.cons.inj z).2
      rw [e0]
      refine ⟨⟨ps ++ [[113]], ?_, fun l hl => ?_⟩, by simp; omega⟩
      · rw [join_snoc he, e]; simp
      · rcases List.mem_append.mp hl with hl | hl
        · exact good l hl
        · rw [List.mem_singleton.mp hl]; exact gq
  · by_cases he : ps = []
    · subst he
      have : p = [47] := e
      subst this
      exact ⟨⟨[[113]], rfl, fun l hl => by rw [List.mem_singleton.mp hl]; exact gq⟩, by decide⟩
    · -- the last step grows
      obtain ⟨qs, l, rfl⟩ : ∃ qs l, ps = qs ++ [l] := ⟨ps.dropLast, ps.getLast he, (List.dropLast_concat_getLast he).symm⟩
      have gl := good l (by simp)
      refine ⟨⟨qs ++ [l ++ [113]], ?_, fun x hx => ?_⟩, by simp; omega⟩
      · rw [e]
        by_cases hqs : qs = []
        · subst hqs; rfl
        · rw [join_snoc hqs, join_snoc hqs]; simp
      · rcases List.mem_append.mp hx with hx | hx
        · exact good x (by simp [hx])
        · rw [List.mem_singleton.mp hx]
          refine ⟨by simp, fun y hy => ?_⟩
          rcases List.mem_append.mp hy with hy | hy
          · exact gl.2 y hy
          · exact gq.2 y hy
  · exact hq
def askIf : Sm := (Sm.ife (Ex.and (Ex.cmp Cop.ne (Ex.var 1) (Ex.tup Exs.nil)) (Ex.cmp Cop.gt (Ex.call 8 (Exs.cons (Ex.var 0) (Exs.cons (Ex.dat (D.int 9829)) (Exs.cons (Ex.dat (D.int 5)) Exs.nil)))) (Ex.dat (D.int 0)))) (Sms.cons (Sm.par [7, 8] (Exs.cons (Ex.idx (Ex.var 1) (Ex.call 8 (Exs.cons (Ex.var 0) (Exs.cons (Ex.dat (D.int 9817)) (Exs.cons (Ex.bi Bi.len (Exs.cons (Ex.var 1) Exs.nil)) Exs.nil))))) (Exs.cons (Ex.idx (Ex.var 1) (Ex.call 8 (Exs.cons (Ex.var 0) (Exs.cons (Ex.dat (D.int 9811)) (Exs.cons (Ex.bi Bi.len (Exs.cons (Ex.var 1) Exs.nil)) Exs.nil))))) Exs.nil))) (Sms.cons (Sm.asg 4 (Ex.idx (Ex.tup (Exs.cons (Ex.idx (Ex.var 7) (Ex.dat (D.int 2))) (Exs.cons (Ex.idx (Ex.var 7) (Ex.dat (D.int 2))) (Exs.cons (Ex.bin Bop.add (Ex.dat (D.str [113, 46])) (Ex.idx (Ex.var 7) (Ex.dat (D.int 2)))) (Exs.cons (Ex.var 4) Exs.nil))))) (Ex.call 8 (Exs.cons (Ex.var 0) (Exs.cons (Ex.dat (D.int 9803)) (Exs.cons (Ex.dat (D.int 4)) Exs.nil)))))) (Sms.cons (Sm.asg 6 (Ex.ife (Ex.cmp Cop.eq (Ex.idx (Ex.var 8) (Ex.dat (D.int 4))) (Ex.dat (D.str [47]))) (Ex.dat (D.str [])) (Ex.idx (Ex.var 8) (Ex.dat (D.int 4))))) (Sms.cons (Sm.asg 5 (Ex.idx (Ex.tup (Exs.cons (Ex.idx (Ex.var 8) (Ex.dat (D.int 4))) (Exs.cons (Ex.bin Bop.add (Ex.var 6) (Ex.dat (D.str [47, 113]))) (Exs.cons (Ex.bin Bop.add (Ex.idx (Ex.var 8) (Ex.dat (D.int 4))) (Ex.dat (D.str [113]))) (Exs.cons (Ex.var 5) Exs.nil))))) (Ex.call 8 (Exs.cons (Ex.var 0) (Exs.cons (Ex.dat (D.int 9791)) (Exs.cons (Ex.dat (D.int 4)) Exs.nil)))))) (Sms.cons (Sm.ife (Ex.cmp Cop.isnot (Ex.idx (Ex.var 7) (Ex.dat (D.int 5))) (Ex.dat D.non)) (Sms.cons (Sm.asg 2 (Ex.bi Bi.max2 (Exs.cons (Ex.dat (D.int 0)) (Exs.cons (Ex.bi Bi.min2 (Exs.cons (Ex.dat (D.int 99)) (Exs.cons (Ex.bin Bop.sub (Ex.bin Bop.add (Ex.idx (Ex.var 7) (Ex.dat (D.int 5))) (Ex.call 8 (Exs.cons (Ex.var 0) (Exs.cons (Ex.dat (D.int 9787)) (Exs.cons (Ex.dat (D.int 3)) Exs.nil))))) (Ex.dat (D.int 1))) Exs.nil))) Exs.nil)))) Sms.nil) Sms.nil) Sms.nil))))) Sms.nil)
def askNote : Sms := .cons (Sm.par [7, 8] (Exs.cons (Ex.idx (Ex.var 1) (Ex.call 8 (Exs.cons (Ex.var 0) (Exs.cons (Ex.dat (D.int 9817)) (Exs.cons (Ex.bi Bi.len (Exs.cons (Ex.var 1) Exs.nil)) Exs.nil))))) (Exs.cons (Ex.idx (Ex.var 1) (Ex.call 8 (Exs.cons (Ex.var 0) (Exs.cons (Ex.dat (D.int 9811)) (Exs.cons (Ex.bi Bi.len (Exs.cons (Ex.var 1) Exs.nil)) Exs.nil))))) Exs.nil))) (.cons (Sm.asg 4 (Ex.idx (Ex.tup (Exs.cons (Ex.idx (Ex.var 7) (Ex.dat (D.int 2))) (Exs.cons (Ex.idx (Ex.var 7) (Ex.dat (D.int 2))) (Exs.cons (Ex.bin Bop.add (Ex.dat (D.str [113, 46])) (Ex.idx (Ex.var 7) (Ex.dat (D.int 2)))) (Exs.cons (Ex.var 4) Exs.nil))))) (Ex.call 8 (Exs.cons (Ex.var 0) (Exs.cons (Ex.dat (D.int 9803)) (Exs.cons (Ex.dat (D.int 4)) Exs.nil)))))) (.cons (Sm.asg 6 (Ex.ife (Ex.cmp Cop.eq (Ex.idx (Ex.var 8) (Ex.dat (D.int 4))) (Ex.dat (D.str [47]))) (Ex.dat (D.str [])) (Ex.idx (Ex.var 8) (Ex.dat (D.int 4))))) (.cons (Sm.asg 5 (Ex.idx (Ex.tup (Exs.cons (Ex.idx (Ex.var 8) (Ex.dat (D.int 4))) (Exs.cons (Ex.bin Bop.add (Ex.var 6) (Ex.dat (D.str [47, 113]))) (Exs.cons (Ex.bin Bop.add (Ex.idx (Ex.var 8) (Ex.dat (D.int 4))) (Ex.dat (D.str [113]))) (Exs.cons (Ex.var 5) Exs.nil))))) (Ex.call 8 (Exs.cons (Ex.var 0) (Exs.cons (Ex.dat (D.int 9791)) (Exs.cons (Ex.dat (D.int 4)) Exs.nil)))))) (.cons (Sm.ife (Ex.cmp Cop.isnot (Ex.idx (Ex.var 7) (Ex.dat (D.int 5))) (Ex.dat D.non)) (Sms.cons (Sm.asg 2 (Ex.bi Bi.max2 (Exs.cons (Ex.dat (D.int 0)) (Exs.cons (Ex.bi Bi.min2 (Exs.cons (Ex.dat (D.int 99)) (Exs.cons (Ex.bin Bop.sub (Ex.bin Bop.add (Ex.idx (Ex.var 7) (Ex.dat (D.int 5))) (Ex.call 8 (Exs.cons (Ex.var 0) (Exs.cons (Ex.dat (D.int 9787)) (Exs.cons (Ex.dat (D.int 3)) Exs.nil))))) (Ex.dat (D.int 1))) Exs.nil))) Exs.nil)))) Sms.nil) Sms.nil) .nil))))
theorem ask_note {c t : Int} {h p : List Nat} {ns : List NT} (hn : ∀ n ∈ ns, n.Ok) (h0 : 0 < ns.length) (hh : h.length ≤ 9) (hp : PathG p) (t0 : 0 ≤ t) (t1 : t ≤ 99) :
    ∃ t' h' p' v6 v7 v8, exs (run (PG L) (k + 1)) askNote [some (.int c), some (.tup (ns.map NT.d)), some (.int t), none, some (.str h), some (.str p), none, none, none] [] = .nx [some (.int c), some (.tup (ns.map NT.d)), some (.int t'), none, some (.str h'), some (.str p'), v6, v7, v8] [] ∧ h'.length ≤ 50 ∧ PathG p' ∧ 0 ≤ t' ∧ t' ≤ 99 := by
  obtain ⟨n, hnm, en⟩ := atZ_nt (ns := ns) (j := mixF c 9817 ns.length) (mixF_nn (by omega)) (mixF_lt (by omega))
  obtain ⟨o, hom, eo⟩ := atZ_nt (ns := ns) (j := mixF c 9811 ns.length) (mixF_nn (by omega)) (mixF_lt (by omega))
  have c1 := fun S => c_mix (L := L) (k := k) (c := c) (p := 9817) (m := ns.length) (S := S) (by omega) (by omega) (by omega)
  have c2 := fun S => c_mix (L := L) (k := k) (c := c) (p := 9811) (m := ns.length) (S := S) (by omega) (by omega) (by omega)
  have hnh := (hn n hnm).host.len
  have hop := (hn o hom).path
  have hol := hop.len
  have i2 : ∀ S, idxD n.d (.int 2) S = .ok (.str n.host) S := fun S => by simp [idxD, atZ, retO, NT.d]
  have i4 : ∀ S, idxD o.d (.int 4) S = .ok (.str o.path) S := fun S => by simp [idxD, atZ, retO, NT.d]
  have i5 : ∀ S, idxD n.d (.int 5) S = .ok (finD n.fin) S := fun S => by simp [idxD, atZ, retO, NT.d]
  have x1 : ex (run (PG L) (k + 1)) (Sm.par [7, 8] (Exs.cons (Ex.idx (Ex.var 1) (Ex.call 8 (Exs.cons (Ex.var 0) (Exs.cons (Ex.dat (D.int 9817)) (Exs.cons (Ex.bi Bi.len (Exs.cons (Ex.var 1) Exs.nil)) Exs.nil))))) (Exs.cons (Ex.idx (Ex.var 1) (Ex.call 8 (Exs.cons (Ex.var 0) (Exs.cons (Ex.dat (D.int 9811)) (Exs.cons (Ex.bi Bi.len (Exs.cons (Ex.var 1) Exs.nil)) Exs.nil))))) Exs.nil))) [some (.int c), some (.tup (ns.map NT.d)), some (.int t), none, some (.str h), some (.str p), none, none, none] [] = .nx [some (.int c), some (.tup (ns.map NT.d)), some (.int t), none, some (.str h), some (.str p), none, some n.d, some o.d] [] := by
    simp [ex, ev, evs, biD, one, lenD, seqOf, c1, c2, idxD, en, eo, retO, setAll]
  have e4 := atZ_str (xs := [n.host, n.host, [113, 46] ++ n.host, h]) (j := mixF c 9803 4) rfl (mixF_nn (by omega)) (mixF_lt (by omega))
  have m4 := pickS_mem (xs := [n.host, n.host, [113, 46] ++ n.host, h]) (j := mixF c 9803 4) (mixF_nn (by omega)) (mixF_lt (by omega))
  have hlen : (pickS [n.host, n.host, [113, 46] ++ n.host, h] (mixF c 9803 4)).length ≤ 50 := by
    simp only [List.mem_cons, List.not_mem_nil, or_false] at m4
    rcases m4 with m | m | m | m <;> rw [m] <;> (try simp only [List.length_append, List.length_cons, List.length_nil]) <;> omega
  generalize pickS [n.host, n.host, [113, 46] ++ n.host, h] (mixF c 9803 4) = h' at *
  have s1 : szOk (n.host.length + 2) = true := szOk_le (by omega)
  have s1' : szOk (2 + n.host.length) = true := szOk_le (by omega)
  simp only [List.map_cons, List.map_nil, List.cons_append, List.nil_append] at e4
  have x2 : ex (run (PG L) (k + 1)) (Sm.asg 4 (Ex.idx (Ex.tup (Exs.cons (Ex.idx (Ex.var 7) (Ex.dat (D.int 2))) (Exs.cons (Ex.idx (Ex.var 7) (Ex.dat (D.int 2))) (Exs.cons (Ex.bin Bop.add (Ex.dat (D.str [113, 46])) (Ex.idx (Ex.var 7) (Ex.dat (D.int 2)))) (Exs.cons (Ex.var 4) Exs.nil))))) (Ex.call 8 (Exs.cons (Ex.var 0) (Exs.cons (Ex.dat (D.int 9803)) (Exs.cons (Ex.dat (D.int 4)) Exs.nil)))))) [some (.int c), some (.tup (ns.map NT.d)), some (.int t), none, some (.str h), some (.str p), none, some n.d, some o.d] [] = .nx [some (.int c), some (.tup (ns.map NT.d)), some (.int t), none, some (.str h'), some (.str p), none, some n.d, some o.d] [] := by
    have et : ∀ S, idxD (.tup [.str n.host, .str n.host, .str (113 :: 46 :: n.host), .str h]) (.int (mixF c 9803 4)) S = .ok (.str h') S := fun S => by simp [idxD, e4, retO]
    simp [ex, ev, evs, i2, binD, addD, s1, s1', szOk_le, c_mix, et]
  have x3 : ex (run (PG L) (k + 1)) (Sm.asg 6 (Ex.ife (Ex.cmp Cop.eq (Ex.idx (Ex.var 8) (Ex.dat (D.int 4))) (Ex.dat (D.str [47]))) (Ex.dat (D.str [])) (Ex.idx (Ex.var 8) (Ex.dat (D.int 4))))) [some (.int c), some (.tup (ns.map NT.d)), some (.int t), none, some (.str h'), some (.str p), none, some n.d, some o.d] [] = .nx [some (.int c), some (.tup (ns.map NT.d)), some (.int t), none, some (.str h'), some (.str p), some (.str (if o.path == [47] then [] else o.path)), some n.d, some o.d] [] := by
    cases he : (o.path == [47]) <;> simp [ex, ev, evs, i4, cmpD, cmpO, eqS, der, D.pure, D.depth, eqD, he, blO, truth]
  generalize hmo : (if o.path == [47] then [] else o.path) = mo at *
  have hml : mo.length ≤ 10 := by
    rw [← hmo]
    split
    · simp
    · exact hol
  have np := near_path (p := o.path) (q := p) (j := mixF c 9791 4) hop hp (mixF_nn (by omega)) (mixF_lt (by omega))
  rw [hmo] at np
  have e5 := atZ_str (xs := [o.path, mo ++ [47, 113], o.path ++ [113], p]) (j := mixF c 9791 4) rfl (mixF_nn (by omega)) (mixF_lt (by omega))
  generalize pickS [o.path, mo ++ [47, 113], o.path ++ [113], p] (mixF c 9791 4) = p' at *
  simp only [List.map_cons, List.map_nil] at e5
  have s2 : szOk (mo.length + 2) = true := szOk_le (by omega)
  have s3 : szOk (o.path.length + 1) = true := szOk_le (by omega)
  have x4 : ex (run (PG L) (k + 1)) (Sm.asg 5 (Ex.idx (Ex.tup (Exs.cons (Ex.idx (Ex.var 8) (Ex.dat (D.int 4))) (Exs.cons (Ex.bin Bop.add (Ex.var 6) (Ex.dat (D.str [47, 113]))) (Exs.cons (Ex.bin Bop.add (Ex.idx (Ex.var 8) (Ex.dat (D.int 4))) (Ex.dat (D.str [113]))) (Exs.cons (Ex.var 5) Exs.nil))))) (Ex.call 8 (Exs.cons (Ex.var 0) (Exs.cons (Ex.dat (D.int 9791)) (Exs.cons (Ex.dat (D.int 4)) Exs.nil)))))) [some (.int c), some (.tup (ns.map NT.d)), some (.int t), none, some (.str h'), some (.str p), some (.str mo), some n.d, some o.d] [] = .nx [some (.int c), some (.tup (ns.map NT.d)), some (.int t), none, some (.str h'), some (.str p'), some (.str mo), some n.d, some o.d] [] := by
    have et : ∀ S, idxD (.tup [.str o.path, .str (mo ++ [47, 113]), .str (o.path ++ [113]), .str p]) (.int (mixF c 9791 4)) S = .ok (.str p') S := fun S => by simp [idxD, e5, retO]
    simp [ex, ev, evs, i4, binD, addD, s2, s3, szOk_le, c_mix, et]
  have m3a := mixF_nn (c := c) (p := 9787) (m := 3) (by omega)
  have m3b := mixF_lt (c := c) (p := 9787) (m := 3) (by omega)
  cases hf : n.fin with
  | none =>
    refine ⟨t, h', p', some (.str mo), some n.d, some o.d, ?_, hlen, np, t0, t1⟩
    refine (exs_cons x1).trans ((exs_cons x2).trans ((exs_cons x3).trans ((exs_cons x4).trans ?_)))
    simp [exs, ex, ev, evs, i5, hf, finD, cmpD, cmpO, isS, blO, truth]
  | some f =>
    refine ⟨if (if f + mixF c 9787 3 - 1 < 99 then f + mixF c 9787 3 - 1 else 99) > 0 then (if f + mixF c 9787 3 - 1 < 99 then f + mixF c 9787 3 - 1 else 99) else 0, h', p', some (.str mo), some n.d, some o.d, ?_, hlen, np, ?_, ?_⟩
    · refine (exs_cons x1).trans ((exs_cons x2).trans ((exs_cons x3).trans ((exs_cons x4).trans ?_)))
      simp [exs, ex, ev, evs, i5, hf, finD, cmpD, cmpO, isS, blO, truth, biD, two, min2D, max2D, binD, addD, subD, c_mix]
    · split <;> omega
    · split <;> (try split) <;> omega
theorem ask_if {c t : Int} {h p : List Nat} {ns : List NT} (hn : ∀ n ∈ ns, n.Ok) (hh : h.length ≤ 9) (hp : PathG p) (t0 : 0 ≤ t) (t1 : t ≤ 99) :
    ∃ t' h' p' v6 v7 v8, ex (run (PG L) (k + 1)) askIf [some (.int c), some (.tup (ns.map NT.d)), some (.int t), none, some (.str h), some (.str p), none, none, none] [] = .nx [some (.int c), some (.tup (ns.map NT.d)), some (.int t'), none, some (.str h'), some (.str p'), v6, v7, v8] [] ∧ h'.length ≤ 50 ∧ PathG p' ∧ 0 ≤ t' ∧ t' ≤ 99 := by
  have m1 : ∀ a, min a 1 ≤ 60 := fun a => by omega
  have ec : ev (run (PG L) (k + 1)) (Ex.and (Ex.cmp Cop.ne (Ex.var 1) (Ex.tup Exs.nil)) (Ex.cmp Cop.gt (Ex.call 8 (Exs.cons (Ex.var 0) (Exs.cons (Ex.dat (D.int 9829)) (Exs.cons (Ex.dat (D.int 5)) Exs.nil)))) (Ex.dat (D.int 0)))) [some (.int c), some (.tup (ns.map NT.d)), some (.int t), none, some (.str h), some (.str p), none, none, none] [] = .ok (.bl (!ns.isEmpty && decide (0 < mixF c 9829 5))) [] := by
    cases ns with
    | nil => simp [ev, evs, szOk_le, cmpD, cmpO, eqS, der, D.pure, D.pureAll, D.depth, D.depthAll, eqD, eqDs, blO, truth]
    | cons r0 rest =>
      have pa := pureAll_nts (r0 :: rest)
      rw [List.map_cons] at pa
      simp [ev, evs, szOk_le, cmpD, cmpO, eqS, der, D.pure, NT.pure, D.pureAll, D.depth, D.depthAll, m1, eqD, eqDs, blO, truth, c_mix, ltO]
  unfold askIf
  rw [ex_ife ec rfl rfl]
  cases hc : (!ns.isEmpty && decide (0 < mixF c 9829 5)) with
  | false => exact ⟨t, h, p, none, none, none, rfl, by omega, hp, t0, t1⟩
  | true =>
    rw [if_pos rfl]
    have h0 : 0 < ns.length := by
      cases ns with
      | nil => exact nomatch hc
      | cons _ _ => simp
    exact ask_note hn h0 hh hp t0 t1
theorem ask_org {c t : Int} {h p : List Nat} {a b v6 v7 v8 : Option D} (hh : h.length ≤ 50) : ∃ o : Option (List Nat), (∀ s, o = some s → s.length ≤ 100) ∧ ex (run (PG L) (k + 1)) (Sm.asg 3 (Ex.idx (Ex.tup (Exs.cons (Ex.dat D.non) (Exs.cons (Ex.dat (D.str [113, 46, 113])) (Exs.cons (Ex.var 4) (Exs.cons (Ex.bin Bop.add (Ex.dat (D.str [113, 46])) (Ex.meth Me.join (Ex.dat (D.str [46])) (Exs.cons (Ex.slc (Ex.meth Me.split (Ex.var 4) (Exs.cons (Ex.dat (D.str [46])) Exs.nil)) (Ex.dat (D.int (-2))) (Ex.dat D.non)) Exs.nil))) (Exs.cons (Ex.dat (D.str [97])) Exs.nil)))))) (Ex.call 8 (Exs.cons (Ex.var 0) (Exs.cons (Ex.dat (D.int 9781)) (Exs.cons (Ex.dat (D.int 5)) Exs.nil)))))) [some (.int c), a, b, none, some (.str h), some (.str p), v6, v7, v8] [] = .nx [some (.int c), a, b, some (orgD o), some (.str h), some (.str p), v6, v7, v8] [] := by
  have ls := last_sz (h := h) (by omega)
  have sl := sum_drop (splitC 46 h) ((splitC 46 h).length - 2)
  have ss := split_sz 46 h
  have jl := joinN_len [46] (lastTwo (splitC 46 h))
  have hsl : (siteF h).length ≤ 60 := by
    unfold siteF lastTwo at *
    simp only [List.length_singleton, Nat.mul_one] at jl
    omega
  have l2 : szOk (lastTwo (splitC 46 h)).length = true := szOk_le (by omega)
  have c2 : cutL ((splitC 46 h).map D.str) (some (-2)) none = (lastTwo (splitC 46 h)).map D.str := by
    rw [cut_two]; simp [lastTwo, List.map_drop]
  have j := joinD_ok (c := 46) (d := .loc 1) (S := [.lst ((splitC 46 h).map .str), .lst ((lastTwo (splitC 46 h)).map .str)]) rfl ls
  have sz : szOk (2 + (siteF h).length) = true := szOk_le (by omega)
  have et : ev (run (PG L) (k + 1)) (Ex.tup (Exs.cons (Ex.dat D.non) (Exs.cons (Ex.dat (D.str [113, 46, 113])) (Exs.cons (Ex.var 4) (Exs.cons (Ex.bin Bop.add (Ex.dat (D.str [113, 46])) (Ex.meth Me.join (Ex.dat (D.str [46])) (Exs.cons (Ex.slc (Ex.meth Me.split (Ex.var 4) (Exs.cons (Ex.dat (D.str [46])) Exs.nil)) (Ex.dat (D.int (-2))) (Ex.dat D.non)) Exs.nil))) (Exs.cons (Ex.dat (D.str [97])) Exs.nil)))))) [some (.int c), a, b, none, some (.str h), some (.str p), v6, v7, v8] []
      = .ok (.tup [.non, .str [113, 46, 113], .str h, .str ([113, 46] ++ siteF h), .str [97]]) [.lst ((splitC 46 h).map .str), .lst ((lastTwo (splitC 46 h)).map .str)] := by
    have sp := fun S => splitD_ok (s := h) (c := 46) (S := S) (by omega) (by omega)
    have j' : joinD (.str [46]) (.loc 1) [.lst ((splitC 46 h).map .str), .lst ((lastTwo (splitC 46 h)).map .str)] = .ok (.str (siteF h)) [.lst ((splitC 46 h).map .str), .lst ((lastTwo (splitC 46 h)).map .str)] := j
    simp [ev, evs, tyOk, isStr, methD, one, sp, slcD, partO, listOf, c2, newL, l2, j', binD, addD, sz, szOk_le]
  have hm0 := mixF_nn (c := c) (p := 9781) (m := 5) (by omega)
  have hm1 := mixF_lt (c := c) (p := 9781) (m := 5) (by omega)
  have fin : ∀ o : Option (List Nat), atZ [.non, .str [113, 46, 113], .str h, .str ([113, 46] ++ siteF h), .str [97]] (mixF c 9781 5) = some (orgD o) → ex (run (PG L) (k + 1)) (Sm.asg 3 (Ex.idx (Ex.tup (Exs.cons (Ex.dat D.non) (Exs.cons (Ex.dat (D.str [113, 46, 113])) (Exs.cons (Ex.var 4) (Exs.cons (Ex.bin Bop.add (Ex.dat (D.str [113, 46])) (Ex.meth Me.join (Ex.dat (D.str [46])) (Exs.cons (Ex.slc (Ex.meth Me.split (Ex.var 4) (Exs.cons (Ex.dat (D.str [46])) Exs.nil)) (Ex.dat (D.int (-2))) (Ex.dat D.non)) Exs.nil))) (Exs.cons (Ex.dat (D.str [97])) Exs.nil)))))) (Ex.call 8 (Exs.cons (Ex.var 0) (Exs.cons (Ex.dat (D.int 9781)) (Exs.cons (Ex.dat (D.int 5)) Exs.nil)))))) [some (.int c), a, b, none, some (.str h), some (.str p), v6, v7, v8] [] = .nx [some (.int c), a, b, some (orgD o), some (.str h), some (.str p), v6, v7, v8] [] := fun o ho => by
    have lo : (orgD o).low 0 = true := by cases o <;> rfl
    refine ex_asg (d := orgD o) (d' := orgD o) (S1 := [.lst ((splitC 46 h).map .str), .lst ((lastTwo (splitC 46 h)).map .str)]) (S2 := []) ?_ (by simp [gc, closedS, lo]) (by simp)
    rw [ev, et]
    simp only [ok_bind]
    rw [ev_call, evs_cons, ev_var (d := .int c) rfl]
    simp only [ok_bind, evs_cons, ev_dat, evs_nil]
    rw [c_mix (by omega) (by omega) (by omega)]
    simp only [ok_bind, idxD, ho, retO]
  have : mixF c 9781 5 = 0 ∨ mixF c 9781 5 = 1 ∨ mixF c 9781 5 = 2 ∨ mixF c 9781 5 = 3 ∨ mixF c 9781 5 = 4 := by omega
  rcases this with z | z | z | z | z
  · exact ⟨none, by simp, fin none (by rw [z]; rfl)⟩
  · exact ⟨some [113, 46, 113], by simp, fin (some _) (by rw [z]; rfl)⟩
  · exact ⟨some h, fun s hs => by cases hs; omega, fin (some _) (by rw [z]; rfl)⟩
  · exact ⟨some ([113, 46] ++ siteF h), fun s hs => by cases hs; simp; omega, fin (some _) (by rw [z]; rfl)⟩
  · exact ⟨some [97], by simp, fin (some _) (by rw [z]; rfl)⟩
theorem r_ask {c : Int} {ns : List NT} (hn : ∀ n ∈ ns, n.Ok) : ∃ a : AT, Gives (run (PG L) (k + 3)) 25 [.int c, .tup (ns.map NT.d)] a.d ∧ a.Ok := by
  have hh := (host_ok (c + 3)).len
  obtain ⟨t', h', p', v6, v7, v8, x3, hl, hp, t0, t1⟩ := ask_if (L := L) (k := k + 1) (c := c) (t := mixF c 9833 100) (h := hostF (c + 3)) (p := pathF (c + 4)) hn hh (path_ok _).g (mixF_nn (by omega)) (by have := mixF_lt (c := c) (p := 9833) (m := 100) (by omega); omega)
  obtain ⟨o, ho, x4⟩ := ask_org (L := L) (k := k + 1) (c := c) (t := t') (h := h') (p := p') (a := some (.tup (ns.map NT.d))) (b := some (.int t')) (v6 := v6) (v7 := v7) (v8 := v8) hl
  refine ⟨⟨h', p', t', mixF c 9769 2 == 0, o, mixF c 9767 2 == 0⟩, ⟨[], ?_⟩, ⟨hl, hp, t0, t1, ho⟩⟩
  rw [run_fd (fd := fd__law_ask) rfl rfl]
  show endD (exs _ sm__law_ask [some (.int c), some (.tup (ns.map NT.d)), none, none, none, none, none, none, none] []) = _
  have x1 : ex (run (PG L) (k + 2)) (Sm.par [4, 5] (Exs.cons (Ex.call 10 (Exs.cons (Ex.bin Bop.add (Ex.var 0) (Ex.dat (D.int 3))) Exs.nil)) (Exs.cons (Ex.call 11 (Exs.cons (Ex.bin Bop.add (Ex.var 0) (Ex.dat (D.int 4))) Exs.nil)) Exs.nil))) [some (.int c), some (.tup (ns.map NT.d)), none, none, none, none, none, none, none] [] = .nx [some (.int c), some (.tup (ns.map NT.d)), none, none, some (.str (hostF (c + 3))), some (.str (pathF (c + 4))), none, none, none] [] := by
    simp [ex, ev, evs, binD, addD, c_host, c_path, setAll]
  have x2 : ex (run (PG L) (k + 2)) (Sm.asg 2 (Ex.call 8 (Exs.cons (Ex.var 0) (Exs.cons (Ex.dat (D.int 9833)) (Exs.cons (Ex.dat (D.int 100)) Exs.nil))))) [some (.int c), some (.tup (ns.map NT.d)), none, none, some (.str (hostF (c + 3))), some (.str (pathF (c + 4))), none, none, none] [] = .nx [some (.int c), some (.tup (ns.map NT.d)), some (.int (mixF c 9833 100)), none, some (.str (hostF (c + 3))), some (.str (pathF (c + 4))), none, none, none] [] := by
    simp [ex, ev, evs, c_mix]
  have x5 : ex (run (PG L) (k + 2)) (Sm.ret (Ex.tup (Exs.cons (Ex.var 4) (Exs.cons (Ex.var 5) (Exs.cons (Ex.var 2) (Exs.cons (Ex.cmp Cop.eq (Ex.call 8 (Exs.cons (Ex.var 0) (Exs.cons (Ex.dat (D.int 9769)) (Exs.cons (Ex.dat (D.int 2)) Exs.nil)))) (Ex.dat (D.int 0))) (Exs.cons (Ex.var 3) (Exs.cons (Ex.cmp Cop.eq (Ex.call 8 (Exs.cons (Ex.var 0) (Exs.cons (Ex.dat (D.int 9767)) (Exs.cons (Ex.dat (D.int 2)) Exs.nil)))) (Ex.dat (D.int 0))) Exs.nil)))))))) [some (.int c), some (.tup (ns.map NT.d)), some (.int t'), some (orgD o), some (.str h'), some (.str p'), v6, v7, v8] [] = .rt (AT.d ⟨h', p', t', mixF c 9769 2 == 0, o, mixF c 9767 2 == 0⟩) [] := by
    simp [ex, ev, evs, c_mix, cmpD, cmpO, eqS, der, D.pure, D.depth, eqD, blO, szOk_le, AT.d]
  have y : exs (run (PG L) (k + 2)) sm__law_ask [some (.int c), some (.tup (ns.map NT.d)), none, none, none, none, none, none, none] [] = .rt (AT.d ⟨h', p', t', mixF c 9769 2 == 0, o, mixF c 9767 2 == 0⟩) [] :=
    (exs_cons x1).trans ((exs_cons x2).trans ((exs_cons x3).trans ((exs_cons x4).trans (exs_rt x5))))
  rw [y]
  rfl
theorem c_ask {c : Int} {ns : List NT} {S : Store} (hn : ∀ n ∈ ns, n.Ok) : ∃ a : AT, callF (run (PG L) (k + 3)) 25 [.int c, .tup (ns.map NT.d)] S = .ok a.d S ∧ a.Ok := by
  obtain ⟨a, h1, h2⟩ := r_ask (L := L) (k := k) (c := c) hn
  exact ⟨a, callF_ok (by simp [D.pureAll, D.pure]) h1 (AT.pure a), h2⟩
end Lw
set_option Elab.async false
set_option linter.all false
set_option maxRecDepth 100000
set_option maxHeartbeats 1000000
namespace Lw
open Ev
variable {L : FD} {k : Nat} {r : RT} {n : NT} {a : AT}
/-! ### what fits -/
theorem ir0 (S : Store) : idxD r.d (.int 0) S = .ok (.str r.r0) S := by simp [idxD, atZ, retO, RT.d]
theorem ir1 (S : Store) : idxD r.d (.int 1) S = .ok (.str r.r1) S := by simp [idxD, atZ, retO, RT.d]
theorem ir2 (S : Store) : idxD r.d (.int 2) S = .ok (.str r.r2) S := by simp [idxD, atZ, retO, RT.d]
theorem ir3 (S : Store) : idxD r.d (.int 3) S = .ok (.str r.r3) S := by simp [idxD, atZ, retO, RT.d]
theorem ir4 (S : Store) : idxD r.d (.int 4) S = .ok (.str r.r4) S := by simp [idxD, atZ, retO, RT.d]
theorem in0 (S : Store) : idxD n.d (.int 0) S = .ok (.str n.nm) S := by simp [idxD, atZ, retO, NT.d]
theorem in2 (S : Store) : idxD n.d (.int 2) S = .ok (.str n.host) S := by simp [idxD, atZ, retO, NT.d]
theorem in3 (S : Store) : idxD n.d (.int 3) S = .ok (.bl n.deep) S := by simp [idxD, atZ, retO, NT.d]
theorem in4 (S : Store) : idxD n.d (.int 4) S = .ok (.str n.path) S := by simp [idxD, atZ, retO, NT.d]
theorem in5 (S : Store) : idxD n.d (.int 5) S = .ok (finD n.fin) S := by simp [idxD, atZ, retO, NT.d]
theorem in6 (S : Store) : idxD n.d (.int 6) S = .ok (.bl n.safe) S := by simp [idxD, atZ, retO, NT.d]
theorem in7 (S : Store) : idxD n.d (.int 7) S = .ok (.str n.side) S := by simp [idxD, atZ, retO, NT.d]
theorem ia0 (S : Store) : idxD a.d (.int 0) S = .ok (.str a.host) S := by simp [idxD, atZ, retO, AT.d]
theorem ia1 (S : Store) : idxD a.d (.int 1) S = .ok (.str a.path) S := by simp [idxD, atZ, retO, AT.d]
theorem ia2 (S : Store) : idxD a.d (.int 2) S = .ok (.int a.time) S := by simp [idxD, atZ, retO, AT.d]
theorem ia3 (S : Store) : idxD a.d (.int 3) S = .ok (.bl a.safe) S := by simp [idxD, atZ, retO, AT.d]
theorem ia4 (S : Store) : idxD a.d (.int 4) S = .ok (orgD a.org) S := by simp [idxD, atZ, retO, AT.d]
theorem ia5 (S : Store) : idxD a.d (.int 5) S = .ok (.bl a.near) S := by simp [idxD, atZ, retO, AT.d]
theorem cmp_eqs {x y : List Nat} {S : Store} : cmpD .eq (.str x) (.str y) S = .ok (.bl (x == y)) S := by simp [cmpD, cmpO, eqS, der, D.pure, D.depth, eqD, blO]
def always : List Nat := [97, 108, 119, 97, 121, 115]
def never : List Nat := [110, 101, 118, 101, 114]
def told : List Nat := [116, 111, 108, 100]
def hostFits (r : RT) (n : NT) (h : List Nat) : Bool := (h == n.host) || ((r.r1 == always || (r.r1 == told && n.deep)) && (46 :: n.host).isSuffixOf h)
theorem r_host_fits {h : List Nat} (hn : n.host.length ≤ 1000) : Gives (run (PG L) (k + 2)) 17 [r.d, n.d, .str h] (.bl (hostFits r n h)) := by
  refine ⟨[], ?_⟩
  rw [run_fd (fd := fd_host_fits) rfl rfl]
  show endD (exs _ sm_host_fits [some r.d, some n.d, some (.str h), none] []) = _
  have cb := fun S => c_below (L := L) (k := k) (a := h) (b := n.host) (S := S) (by omega)
  unfold hostFits always told
  cases e1 : (h == n.host) <;> cases e2 : (r.r1 == [97, 108, 119, 97, 121, 115]) <;> cases e3 : (r.r1 == [116, 111, 108, 100]) <;> cases e4 : n.deep <;>
    simp [sm_host_fits, exs, ex, ev, evs, ir1, in2, in3, cmp_eqs, e1, e2, e3, e4, truth, cb, endD]
theorem c_host_fits {h : List Nat} {S : Store} (hn : n.host.length ≤ 1000) : callF (run (PG L) (k + 2)) 17 [r.d, n.d, .str h] S = .ok (.bl (hostFits r n h)) S := callF_ok (by simp [D.pureAll, NT.pure, RT.pure, D.pure]) (r_host_fits hn) rfl
def hasEnded (r : RT) (n : NT) (t : Int) : Bool := match n.fin with
  | none => false
  | some f => if r.r2 == [117, 110, 116, 105, 108] then decide (f ≤ t) else decide (f < t)
theorem r_ended {t : Int} : Gives (run (PG L) (k + 1)) 19 [r.d, n.d, .int t] (.bl (hasEnded r n t)) := by
  refine ⟨[], ?_⟩
  rw [run_fd (fd := fd_has_ended) rfl rfl]
  show endD (exs _ sm_has_ended [some r.d, some n.d, some (.int t)] []) = _
  unfold hasEnded
  cases e1 : n.fin with
  | none => simp [sm_has_ended, exs, ex, ev, evs, in5, e1, finD, cmpD, cmpO, isS, blO, truth, endD]
  | some f =>
    cases e2 : (r.r2 == [117, 110, 116, 105, 108]) <;>
      simp [sm_has_ended, exs, ex, ev, evs, in5, ir2, e1, e2, finD, cmpD, cmpO, isS, eqS, der, D.pure, D.depth, eqD, leO, ltO, blO, truth, endD]
theorem c_ended {t : Int} {S : Store} : callF (run (PG L) (k + 1)) 19 [r.d, n.d, .int t] S = .ok (.bl (hasEnded r n t)) S := callF_ok (by simp [D.pureAll, NT.pure, RT.pure, D.pure]) r_ended rfl
theorem r_lended {t : Int} : Gives (run (PG L) (k + 1)) 28 [r.d, n.d, .int t] (.bl (hasEnded r n t)) := by
  refine ⟨[], ?_⟩
  rw [run_fd (fd := fd__law_ended) rfl rfl]
  show endD (exs _ sm__law_ended [some r.d, some n.d, some (.int t)] []) = _
  unfold hasEnded
  cases e1 : n.fin with
  | none => simp [sm__law_ended, exs, ex, ev, evs, in5, e1, finD, cmpD, cmpO, isS, blO, truth, endD]
  | some f =>
    by_cases h1 : f < t
    · have h2 : f ≤ t := by omega
      cases e2 : (r.r2 == [117, 110, 116, 105, 108]) <;>
        simp [sm__law_ended, exs, ex, ev, evs, in5, ir2, e1, e2, h1, h2, finD, cmpD, cmpO, isS, eqS, der, D.pure, D.depth, eqD, leO, ltO, blO, truth, endD]
    · by_cases h3 : t = f
      · subst h3
        cases e2 : (r.r2 == [117, 110, 116, 105, 108]) <;>
          simp [sm__law_ended, exs, ex, ev, evs, in5, ir2, e1, e2, finD, cmpD, cmpO, isS, eqS, der, D.pure, D.depth, eqD, leO, ltO, blO, truth, endD]
      · have h2 : ¬ f ≤ t := by omega
        have h4 : (t == f) = false := beq_eq_false_iff_ne.mpr h3
        cases e2 : (r.r2 == [117, 110, 116, 105, 108]) <;>
          simp [sm__law_ended, exs, ex, ev, evs, in5, ir2, e1, e2, h1, h2, h4, finD, cmpD, cmpO, isS, eqS, der, D.pure, D.depth, eqD, leO, ltO, blO, truth, endD]
theorem c_lended {t : Int} {S : Store} : callF (run (PG L) (k + 1)) 28 [r.d, n.d, .int t] S = .ok (.bl (hasEnded r n t)) S := callF_ok (by simp [D.pureAll, NT.pure, RT.pure, D.pure]) r_lended rfl
def safeFits (r : RT) (n : NT) (a : AT) : Bool := !n.safe || a.safe || (r.r3 == [102, 114, 101, 101])
theorem r_safe : Gives (run (PG L) (k + 1)) 20 [r.d, n.d, a.d] (.bl (safeFits r n a)) := by
  refine ⟨[], ?_⟩
  rw [run_fd (fd := fd_safe_fits) rfl rfl]
  show endD (exs _ sm_safe_fits [some r.d, some n.d, some a.d] []) = _
  unfold safeFits
  cases e1 : n.safe <;> cases e2 : a.safe <;> simp [sm_safe_fits, exs, ex, ev, evs, in6, ia3, ir3, e1, e2, cmp_eqs, truth, endD]
theorem c_safe {S : Store} : callF (run (PG L) (k + 1)) 20 [r.d, n.d, a.d] S = .ok (.bl (safeFits r n a)) S := callF_ok (by simp [D.pureAll, NT.pure, RT.pure, AT.pure]) r_safe rfl
theorem r_lsafe : Gives (run (PG L) (k + 1)) 29 [r.d, n.d, a.d] (.bl (safeFits r n a)) := by
  refine ⟨[], ?_⟩
  rw [run_fd (fd := fd__law_safe_fits) rfl rfl]
  show endD (exs _ sm__law_safe_fits [some r.d, some n.d, some a.d] []) = _
  unfold safeFits
  cases e1 : n.safe <;> cases e2 : a.safe <;> simp [sm__law_safe_fits, exs, ex, ev, evs, in6, ia3, ir3, e1, e2, cmp_eqs, truth, endD]
theorem c_lsafe {S : Store} : callF (run (PG L) (k + 1)) 29 [r.d, n.d, a.d] S = .ok (.bl (safeFits r n a)) S := callF_ok (by simp [D.pureAll, NT.pure, RT.pure, AT.pure]) r_lsafe rfl
end Lw
set_option Elab.async false
set_option linter.all false
set_option maxRecDepth 100000
set_option maxHeartbeats 1000000
namespace Lw
open Ev
variable {L : FD} {k : Nat} {r : RT} {n : NT} {a : AT}
theorem cut_hi {α : Type} (xs : List α) (m : Nat) : cutL xs none (some (m : Int)) = xs.take m := by
  unfold cutL
  simp only [cutIx, List.drop_zero, Nat.sub_zero]
  rw [if_neg (by omega), Int.toNat_natCast]
  by_cases h : m ≤ xs.length
  · rw [Nat.min_eq_left h]
  · rw [Nat.min_eq_right (by omega), List.take_length, List.take_of_length_le (by omega)]
theorem prefix_take (p q : List Nat) : (q.take p.length == p) = p.isPrefixOf q := by
  rw [Bool.eq_iff_iff, beq_iff_eq, List.isPrefixOf_iff_prefix, List.prefix_iff_eq_take, eq_comm]
def pathFits (r : RT) (n : NT) (p : List Nat) : Bool := if r.r0 == [115, 105, 103, 110, 115] then n.path.isPrefixOf p else ((stepsF p).take (stepsF n.path).length == stepsF n.path)
theorem eqDs_st (a b : List (List Nat)) : eqDs (a.map D.str) (b.map D.str) = (a == b) := by
  induction a generalizing b with
  | nil => cases b <;> rfl
  | cons x xs ih =>
    cases b with
    | nil => rfl
    | cons y ys =>
      show ((x == y) && eqDs (xs.map D.str) (ys.map D.str)) = _
      rw [ih]
      rfl
theorem depth_st (a : List (List Nat)) : D.depthAll (a.map D.str) = 0 := by
  induction a with
  | nil => rfl
  | cons x xs ih => rw [List.map_cons, D.depthAll, ih]; rfl
theorem r_path_fits {p : List Nat} (hn : PathG n.path) (hp : PathG p) : Gives (run (PG L) (k + 2)) 18 [r.d, n.d, .str p] (.bl (pathFits r n p)) := by
  refine ⟨[], ?_⟩
  rw [run_fd (fd := fd_path_fits) rfl rfl]
  show endD (exs _ sm_path_fits [some r.d, some n.d, some (.str p), none] []) = _
  have c1 := fun S => c_stepsG (L := L) (k := k) (S := S) hn
  have c2 := fun S => c_stepsG (L := L) (k := k) (S := S) hp
  have ct : cutL ((stepsF p).map D.str) none (some ((stepsF n.path).length : Int)) = ((stepsF p).take (stepsF n.path).length).map D.str := by rw [cut_hi, List.map_take]
  have e3 := eqDs_st ((stepsF p).take (stepsF n.path).length) (stepsF n.path)
  have p1 := pureAll_strs ((stepsF p).take (stepsF n.path).length)
  have d1 := depth_st ((stepsF p).take (stepsF n.path).length)
  have d2 := depth_st (stepsF n.path)
  unfold pathFits
  cases e1 : (r.r0 == [115, 105, 103, 110, 115])
  · have ce : ∀ S, cmpD .eq (.tup (((stepsF p).take (stepsF n.path).length).map D.str)) (.tup ((stepsF n.path).map D.str)) S = .ok (.bl ((stepsF p).take (stepsF n.path).length == stepsF n.path)) S := fun S => by
      simp only [cmpD, cmpO, eqS, der, D.pure, p1, pureAll_strs, D.depth, d1, d2, eqD, e3, if_true]
      rfl
    simp only [List.map_take] at ce ct
    simp [sm_path_fits, exs, ex, ev, evs, ir0, in4, cmp_eqs, e1, truth, c1, c2, biD, one, lenD, seqOf, slcD, partO, ct, ce, endD]
  · simp [sm_path_fits, exs, ex, ev, evs, ir0, in4, cmp_eqs, e1, truth, tyOk, isStr, methD, one, startsD, endD]
theorem c_path_fits {p : List Nat} {S : Store} (hn : PathG n.path) (hp : PathG p) : callF (run (PG L) (k + 2)) 18 [r.d, n.d, .str p] S = .ok (.bl (pathFits r n p)) S := callF_ok (by simp [D.pureAll, NT.pure, RT.pure, D.pure]) (r_path_fits hn hp) rfl
theorem r_lhost_fits {h : List Nat} (ok : r.Ok) (hn : n.host.length ≤ 1000) (hh : h.length ≤ 1000) : Gives (run (PG L) (k + 1)) 26 [r.d, n.d, .str h] (.bl (hostFits r n h)) := by
  rw [Gives]
  rw [show run (PG L) (k + 1) 26 [r.d, n.d, .str h] [] = endD (exs (run (PG L) k) sm__law_host_fits [some r.d, some n.d, some (.str h), none, none] []) from run_fd (fd := fd__law_host_fits) rfl rfl]
  have wide : (r.r1 == always || (r.r1 == told && n.deep)) = !((r.r1 == never) || ((r.r1 == told) && !n.deep)) := by
    have o := ok.o1
    simp only [tk1, List.mem_cons, List.not_mem_nil, or_false] at o
    rcases o with o | o | o <;> rw [o] <;> cases n.deep <;> rfl
  unfold hostFits
  rw [wide]
  unfold never told
  cases e1 : (h == n.host) with
  | true => exact ⟨[], by simp [sm__law_host_fits, exs, ex, ev, evs, in2, cmp_eqs, e1, truth, endD]⟩
  | false =>
    cases e2 : ((r.r1 == [110, 101, 118, 101, 114]) || ((r.r1 == [116, 111, 108, 100]) && !n.deep)) with
    | true =>
      refine ⟨[], ?_⟩
      cases a1 : (r.r1 == [110, 101, 118, 101, 114]) <;> cases a2 : (r.r1 == [116, 111, 108, 100]) <;> cases a3 : n.deep <;> rw [a1, a2, a3] at e2 <;>
        first | (exact absurd e2 (by decide)) | simp [sm__law_host_fits, exs, ex, ev, evs, in2, in3, ir1, cmp_eqs, e1, a1, a2, a3, truth, endD]
    | false =>
      have x2 : ex (run (PG L) k) (Sm.ife (Ex.or (Ex.cmp Cop.eq (Ex.idx (Ex.var 0) (Ex.dat (D.int 1))) (Ex.dat (D.str [110, 101, 118, 101, 114]))) (Ex.and (Ex.cmp Cop.eq (Ex.idx (Ex.var 0) (Ex.dat (D.int 1))) (Ex.dat (D.str [116, 111, 108, 100]))) (Ex.not (Ex.idx (Ex.var 1) (Ex.dat (D.int 3)))))) (Sms.cons (Sm.ret (Ex.dat (D.bl false))) Sms.nil) Sms.nil) [some r.d, some n.d, some (.str h), none, none] [] = .nx [some r.d, some n.d, some (.str h), none, none] [] := by
        cases a1 : (r.r1 == [110, 101, 118, 101, 114]) <;> cases a2 : (r.r1 == [116, 111, 108, 100]) <;> cases a3 : n.deep <;> rw [a1, a2, a3] at e2 <;>
          first | (exact absurd e2 (by decide)) | simp [exs, ex, ev, evs, in3, ir1, cmp_eqs, a1, a2, a3, truth]
      have s1 := fun S => splitD_ok (s := h) (c := 46) (S := S) (by omega) (by omega)
      have s2 := fun S => splitD_ok (s := n.host) (c := 46) (S := S) (by omega) (by omega)
      rw [below_eq]
      by_cases hlt : (splitC 46 n.host).length < (splitC 46 h).length
      · have e3 : cutL ((splitC 46 h).map D.str) (some (((splitC 46 h).length : Int) - (splitC 46 n.host).length)) none = ((splitC 46 h).drop ((splitC 46 h).length - (splitC 46 n.host).length)).map D.str := by
          rw [cutL_lo, List.map_drop]
          congr 1
          rw [List.length_map, cutIx]
          split <;> omega
        have z1 : szOk ((splitC 46 h).length - ((splitC 46 h).length - (splitC 46 n.host).length)) = true := szOk_le (by have := split_len 46 h; omega)
        have q3 := eqDs_st ((splitC 46 h).drop ((splitC 46 h).length - (splitC 46 n.host).length)) (splitC 46 n.host)
        have p1 := pureAll_strs ((splitC 46 h).drop ((splitC 46 h).length - (splitC 46 n.host).length))
        have d1 := depth_st ((splitC 46 h).drop ((splitC 46 h).length - (splitC 46 n.host).length))
        have d2 := depth_st (splitC 46 n.host)
        rw [List.map_drop] at e3 q3 p1 d1
        refine ⟨[.lst ((splitC 46 h).map .str), .lst ((splitC 46 n.host).map .str), .lst (((splitC 46 h).map D.str).drop ((splitC 46 h).length - (splitC 46 n.host).length))], ?_⟩
        unfold sm__law_host_fits
        rw [exs_cons (ρ1 := [some r.d, some n.d, some (.str h), none, none]) (S1 := []) (by simp [ex, exs, ev, evs, in2, cmp_eqs, e1, truth]), exs_cons x2]
        simp [exs, ex, ev, evs, in2, tyOk, isStr, methD, one, s1, s2, setAll, biD, lenD, seqOf, listOf, cmpD, cmpO, ltO, blO, hlt, truth, binD, subD, slcD, partO, e3, newL, z1, p1, eqS, der, D.depth, d1, d2, eqD, q3, endD]
      · refine ⟨[.lst ((splitC 46 h).map .str), .lst ((splitC 46 n.host).map .str)], ?_⟩
        unfold sm__law_host_fits
        rw [exs_cons (ρ1 := [some r.d, some n.d, some (.str h), none, none]) (S1 := []) (by simp [ex, exs, ev, evs, in2, cmp_eqs, e1, truth]), exs_cons x2]
        simp [exs, ex, ev, evs, in2, tyOk, isStr, methD, one, s1, s2, setAll, biD, lenD, seqOf, listOf, cmpD, cmpO, ltO, blO, hlt, truth, endD]
theorem c_lhost_fits {h : List Nat} {S : Store} (ok : r.Ok) (hn : n.host.length ≤ 1000) (hh : h.length ≤ 1000) : callF (run (PG L) (k + 1)) 26 [r.d, n.d, .str h] S = .ok (.bl (hostFits r n h)) S := callF_ok (by simp [D.pureAll, NT.pure, RT.pure, D.pure]) (r_lhost_fits ok hn hh) rfl
end Lw
set_option Elab.async false
set_option linter.all false
set_option maxRecDepth 100000
/-! Sy: the small language by simp. -/
namespace Lw
open Ev
section
variable {F : Nat → List D → Store → Out D} {ρ : Env} {S : Store} {a b c t : Ex} {es : Exs} {i : Nat}
/-! ### outcomes -/
/-- an outcome is a datum -/
def Is (o : Out D) (d : D) : Prop := ∃ S', o = .ok d S'
def IsL (o : Out D) (xs : List D) : Prop := ∃ S' j, o = .ok (.loc j) S' ∧ S'[j]? = some (.lst xs)
@[simp] theorem is_ok {d e : D} : Is (.ok d S) e ↔ d = e := ⟨fun ⟨_, h⟩ => by cases h; rfl, fun h => by cases h; exact ⟨S, rfl⟩⟩
@[simp] theorem is_ite {p : Prop} [Decidable p] {o u : Out D} {e : D} : Is (if p then o else u) e ↔ if p then Is o e else Is u e := by split <;> rfl
@[simp] theorem isL_ok {j : Nat} {xs : List D} : IsL (.ok (.loc j) S) xs ↔ S[j]? = some (.lst xs) := ⟨fun ⟨_, _, h, q⟩ => by cases h; exact q, fun h => ⟨_, _, rfl, h⟩⟩
@[simp] theorem isL_ite {p : Prop} [Decidable p] {o u : Out D} {e : List D} : IsL (if p then o else u) e ↔ if p then IsL o e else IsL u e := by split <;> rfl
theorem gives_of {P : Nat → Option FD} {k f : Nat} {fd : FD} {ds : List D} {d : D} (h : P f = some fd) (hl : ds.length = fd.np) (q : Is (endD (exs (run P k) fd.body (start0 fd.ns ds) [])) d) : Gives (run P (k + 1)) f ds d := by
  obtain ⟨S', q⟩ := q
  exact ⟨S', by rw [run_fd h hl, q]⟩
theorem givesL_of {P : Nat → Option FD} {k f : Nat} {fd : FD} {ds : List D} {d : List D} (h : P f = some fd) (hl : ds.length = fd.np) (q : IsL (endD (exs (run P k) fd.body (start0 fd.ns ds) [])) d) : GivesL (run P (k + 1)) f ds d := by
  obtain ⟨S', j, q, e⟩ := q
  exact ⟨S', j, by rw [run_fd h hl, q], e⟩
@[simp] theorem bind_ite {α β : Type} {p : Prop} [Decidable p] {o u : Out α} {f : α → Store → Out β} : (if p then o else u).bind f = if p then o.bind f else u.bind f := by split <;> rfl
@[simp] theorem thn_ite {α : Type} {p : Prop} [Decidable p] {o u : Out α} {f : α → Store → SOut} : Out.thn ρ (if p then o else u) f = if p then o.thn ρ f else u.thn ρ f := by split <;> rfl
@[simp] theorem gcO_ite {p : Prop} [Decidable p] {n : Nat} {o u : Out D} : gcO n (if p then o else u) = if p then gcO n o else gcO n u := by split <;> rfl
@[simp] theorem endD_ite {p : Prop} [Decidable p] {o u : SOut} : endD (if p then o else u) = if p then endD o else endD u := by split <;> rfl
@[simp] theorem endD_rt {d : D} : endD (.rt d S) = .ok d S := rfl
@[simp] theorem endD_nx : endD (.nx ρ S) = .ok .non S := rfl
/-- one statement behind the other -/
def SOut.seq : SOut → (Env → Store → SOut) → SOut
  | .nx ρ S, k => k ρ S
  | o, _ => o
@[simp] theorem seq_nx {k : Env → Store → SOut} : SOut.seq (.nx ρ S) k = k ρ S := rfl
@[simp] theorem seq_rt {d : D} {k : Env → Store → SOut} : SOut.seq (.rt d S) k = .rt d S := rfl
@[simp] theorem seq_ite {p : Prop} [Decidable p] {o u : SOut} {k : Env → Store → SOut} : SOut.seq (if p then o else u) k = if p then SOut.seq o k else SOut.seq u k := by split <;> rfl
@[simp] theorem exs_nil' : exs F .nil ρ S = .nx ρ S := rfl
@[simp] theorem exs_cons' {s : Sm} {r : Sms} : exs F (.cons s r) ρ S = SOut.seq (ex F s ρ S) fun ρ S => exs F r ρ S := by
  rw [exs]
  cases ex F s ρ S <;> rfl
/-! ### truth -/
def ifK {α : Type} (z : α) : Option Bool → α → α → α
  | some true, x, _ => x
  | some false, _, y => y
  | none, _, _ => z
@[simp] theorem ifK_some {α : Type} {z x y : α} {q : Bool} : ifK z (some q) x y = if q = true then x else y := by cases q <;> rfl
@[simp] theorem truth_bl {q : Bool} : truth S (.bl q) = some q := rfl
@[simp] theorem truth_non : truth S .non = some false := rfl
@[simp] theorem truth_int {q : Int} : truth S (.int q) = some (q != 0) := rfl
@[simp] theorem truth_tup {q : List D} : truth S (.tup q) = some (!q.isEmpty) := rfl
/-! ### expressions -/
@[simp] theorem sev_var : ev F (.var i) ρ S = match ρ[i]? with
    | some (some d) => .ok d S
    | _ => .bad := rfl
@[simp] theorem sev_tup : ev F (.tup es) ρ S = (evs F es ρ S).bind fun ds S => if szOk ds.length then .ok (.tup ds) S else .bad := rfl
@[simp] theorem sev_lst : ev F (.lst es) ρ S = (evs F es ρ S).bind newL := rfl
@[simp] theorem sev_dnew : ev F .dnew ρ S = .ok (.loc S.length) (S ++ [.dic []]) := rfl
@[simp] theorem sev_bin {op : Bop} : ev F (.bin op a b) ρ S = (ev F a ρ S).bind fun x S => (ev F b ρ S).bind fun y S => binD op x y S := rfl
@[simp] theorem sev_cmp {op : Cop} : ev F (.cmp op a b) ρ S = (ev F a ρ S).bind fun x S => (ev F b ρ S).bind fun y S => cmpD op x y S := rfl
@[simp] theorem sev_chain {o1 o2 : Cop} : ev F (.chain o1 o2 a b c) ρ S = (ev F a ρ S).bind fun x S => (ev F b ρ S).bind fun y S => ifK .bad (cmpO S o1 x y) ((ev F c ρ S).bind fun z S => cmpD o2 y z S) (.ok (.bl false) S) := by
  rw [ev]
  congr 1; funext x S; congr 1; funext y S
  cases cmpO S o1 x y with
  | none => rfl
  | some q => cases q <;> rfl
/-- and, or of truths -/
def andK (S : Store) (x : D) (k : Out D) : Out D := ifK .bad (truth S x) k (.ok x S)
def orK (S : Store) (x : D) (k : Out D) : Out D := ifK .bad (truth S x) (.ok x S) k
@[simp] theorem sev_and : ev F (.and a b) ρ S = (ev F a ρ S).bind fun x S => andK S x (ev F b ρ S) := by
  rw [ev]
  congr 1; funext x S; unfold andK
  cases truth S x with
  | none => rfl
  | some q => cases q <;> rfl
@[simp] theorem sev_or : ev F (.or a b) ρ S = (ev F a ρ S).bind fun x S => orK S x (ev F b ρ S) := by
  rw [ev]
  congr 1; funext x S; unfold orK
  cases truth S x with
  | none => rfl
  | some q => cases q <;> rfl
@[simp] theorem and_bl {p q : Bool} : andK S (.bl p) (.ok (.bl q) S) = .ok (.bl (p && q)) S := by cases p <;> rfl
@[simp] theorem or_bl {p q : Bool} : orK S (.bl p) (.ok (.bl q) S) = .ok (.bl (p || q)) S := by cases p <;> rfl
theorem and_if {p : Bool} {o : Out D} : andK S (.bl p) o = if p = true then o else .ok (.bl false) S := by cases p <;> rfl
theorem or_if {p : Bool} {o : Out D} : orK S (.bl p) o = if p = true then .ok (.bl true) S else o := by cases p <;> rfl
@[simp] theorem sev_not : ev F (.not a) ρ S = (ev F a ρ S).bind fun x S => match truth S x with
    | some t => .ok (.bl (!t)) S
    | none => .bad := rfl
@[simp] theorem sev_ife : ev F (.ife t a b) ρ S = (ev F t ρ S).bind fun x S => ifK .bad (truth S x) (ev F a ρ S) (ev F b ρ S) := by
  rw [ev]
  congr 1; funext x S
  cases truth S x with
  | none => rfl
  | some q => cases q <;> rfl
@[simp] theorem sev_idx : ev F (.idx a b) ρ S = (ev F a ρ S).bind fun x S => (ev F b ρ S).bind fun y S => idxD x y S := rfl
@[simp] theorem sev_slc : ev F (.slc a b c) ρ S = (ev F a ρ S).bind fun x S => (ev F b ρ S).bind fun l S => match partO l with
    | some l => (ev F c ρ S).bind fun h S => (match partO h with
      | some h => slcD x l h S
      | none => .bad)
    | none => .bad := rfl
@[simp] theorem sev_call {f : Nat} : ev F (.call f es) ρ S = (evs F es ρ S).bind fun ds S => callF F f ds S := rfl
@[simp] theorem sev_bi {f : Bi} : ev F (.bi f es) ρ S = (evs F es ρ S).bind fun ds S => biD f ds S := rfl
@[simp] theorem sev_rev : ev F (.rev a) ρ S = (ev F a ρ S).bind revD := rfl
@[simp] theorem sev_isi {ts : List Ty} : ev F (.isi a ts) ρ S = (ev F a ρ S).bind fun x S => blO (isTys S x ts) S := rfl
@[simp] theorem sev_meth {m : Me} : ev F (.meth m a es) ρ S = (ev F a ρ S).bind fun x S => if tyOk m S x then (evs F es ρ S).bind fun ds S => methD m x ds S else .bad := rfl
@[simp] theorem sevs_cons : evs F (.cons a es) ρ S = (ev F a ρ S).bind fun d S => (evs F es ρ S).bind fun ds S => .ok (d :: ds) S := rfl
/-! ### what is walked -/
@[simp] theorem sit_of : evIt F (.of a) ρ S = (ev F a ρ S).bind fun d S1 => walkOf S.length d S1 := rfl
@[simp] theorem sit_range1 : evIt F (.range1 a) ρ S = (ev F a ρ S).bind range1D := rfl
@[simp] theorem sit_range2 : evIt F (.range2 a b) ρ S = (ev F a ρ S).bind fun x S => (ev F b ρ S).bind fun y S => range2D x y S := rfl
@[simp] theorem sit_range3 : evIt F (.range3 a b c) ρ S = (ev F a ρ S).bind fun x S => (ev F b ρ S).bind fun y S => (ev F c ρ S).bind fun z S => range3D x y z S := rfl
@[simp] theorem sit_enum : evIt F (.enum a) ρ S = (ev F a ρ S).bind fun d S1 => enumOf S.length d S1 := rfl
@[simp] theorem sit_zip : evIt F (.zip a b) ρ S = (ev F a ρ S).bind fun x S => (ev F b ρ S).bind fun y S => zipOf x y S := rfl
/-! ### statements -/
@[simp] theorem sex_asg {e : Ex} : ex F (.asg i e) ρ S = (gcO S.length (ev F e ρ S)).thn ρ fun d S => if i < ρ.length then .nx (ρ.set i (some d)) S else .bad := rfl
@[simp] theorem sex_asgT {is : List Nat} {e : Ex} : ex F (.asgT is e) ρ S = (gcO S.length (ev F e ρ S)).thn ρ fun d S => match d with
    | .tup ds => (match setAll ρ is ds with | some ρ' => .nx ρ' S | none => .bad)
    | _ => .bad := rfl
@[simp] theorem sex_par {is : List Nat} : ex F (.par is es) ρ S = (evs F es ρ S).thn ρ fun ds S => match setAll ρ is ds with | some ρ' => .nx ρ' S | none => .bad := rfl
@[simp] theorem sex_expr {e : Ex} : ex F (.expr e) ρ S = (gcO S.length ((ev F e ρ S).bind fun _ S => .ok .non S)).thn ρ fun _ S => .nx ρ S := rfl
@[simp] theorem sex_ret {e : Ex} : ex F (.ret e) ρ S = (ev F e ρ S).thn ρ fun d S => .rt d S := rfl
@[simp] theorem sex_ife {x y : Sms} : ex F (.ife t x y) ρ S = (ev F t ρ S).thn ρ fun d S1 => ifK .bad (truth S1 d) ((gc S.length .non S1).thn ρ fun _ S2 => exs F x ρ S2) ((gc S.length .non S1).thn ρ fun _ S2 => exs F y ρ S2) := by
  rw [ex]
  congr 1; funext x S1
  cases truth S1 x with
  | none => rfl
  | some q => cases q <;> rfl
@[simp] theorem sex_pass : ex F .pass ρ S = .nx ρ S := rfl
@[simp] theorem gc_same' {d : D} : gc S.length d S = .ok d S := gc_same
@[simp] theorem gc_len {d : D} {n : Nat} (h : S.length = n) : gc n d S = .ok d S := by subst h; exact gc_same
@[simp] theorem setAll_nil : setAll ρ [] [] = some ρ := rfl
@[simp] theorem setAll_cons {is : List Nat} {d : D} {ds : List D} : setAll ρ (i :: is) (d :: ds) = if i < ρ.length then setAll (ρ.set i (some d)) is ds else none := rfl
@[simp] theorem start0_eq {n : Nat} {ds : List D} : start0 n ds = ds.map some ++ List.replicate (n - ds.length) none := rfl
@[simp] theorem one_eq {f : D → Store → Out D} {d : D} : one f [d] S = f d S := rfl
@[simp] theorem two_eq {f : D → D → Store → Out D} {d e : D} : two f [d, e] S = f d e S := rfl
/-! ### operations on data of known kinds -/
@[simp] theorem add_int {x y : Int} : binD .add (.int x) (.int y) S = .ok (.int (x + y)) S := rfl
@[simp] theorem sub_int {x y : Int} : binD .sub (.int x) (.int y) S = .ok (.int (x - y)) S := rfl
theorem mul_int {x y : Int} (h : -(2 ^ 64) < x ∧ x < 2 ^ 64) : binD .mul (.int x) (.int y) S = .ok (.int (x * y)) S := by
  show (if (sm64 x || sm64 y) = true then _ else _) = _
  rw [if_pos]
  unfold sm64
  rw [decide_eq_true h.1, decide_eq_true h.2]
  rfl
@[simp] theorem mul_17 {y : Int} : binD .mul (.int 17) (.int y) S = .ok (.int (17 * y)) S := mul_int (by omega)
@[simp] theorem mul_31 {y : Int} : binD .mul (.int 31) (.int y) S = .ok (.int (31 * y)) S := mul_int (by omega)
@[simp] theorem mul_7 {y : Int} : binD .mul (.int 7) (.int y) S = .ok (.int (7 * y)) S := mul_int (by omega)
theorem mod_int {x y : Int} (h : 0 < y) : binD .mod (.int x) (.int y) S = .ok (.int (x % y)) S := by
  show (if decide (0 < y) = true then _ else _) = _
  rw [if_pos (decide_eq_true h)]
@[simp] theorem mod_9 {x : Int} : binD .mod (.int x) (.int 9) S = .ok (.int (x % 9)) S := mod_int (by omega)
theorem add_str {x y : List Nat} (h : x.length ≤ 1000000) (h2 : y.length ≤ 1000000) : binD .add (.str x) (.str y) S = .ok (.str (x ++ y)) S := by
  show (if szOk _ = true then _ else _) = _
  rw [if_pos (show szOk _ = true from decide_eq_true (by unfold lineN; omega))]
theorem add_tup {x y : List D} (h : x.length ≤ 1000000) (h2 : y.length ≤ 1000000) : binD .add (.tup x) (.tup y) S = .ok (.tup (x ++ y)) S := by
  show (if szOk _ = true then _ else _) = _
  rw [if_pos (show szOk _ = true from decide_eq_true (by unfold lineN; omega))]
@[simp] theorem szOk_lit {n : Nat} : szOk (n : Nat) = decide (n ≤ 16777216) := rfl
@[simp] theorem eq_str {x y : List Nat} : cmpD .eq (.str x) (.str y) S = .ok (.bl (x == y)) S := cmp_eqs
@[simp] theorem ne_str {x y : List Nat} : cmpD .ne (.str x) (.str y) S = .ok (.bl (!(x == y))) S := by simp [cmpD, cmpO, eqS, der, D.pure, D.depth, eqD, blO]
@[simp] theorem eq_int {x y : Int} : cmpD .eq (.int x) (.int y) S = .ok (.bl (x == y)) S := by simp [cmpD, cmpO, eqS, der, D.pure, D.depth, eqD, blO]
@[simp] theorem ne_int {x y : Int} : cmpD .ne (.int x) (.int y) S = .ok (.bl (!(x == y))) S := by simp [cmpD, cmpO, eqS, der, D.pure, D.depth, eqD, blO]
@[simp] theorem eq_bl {x y : Bool} : cmpD .eq (.bl x) (.bl y) S = .ok (.bl (x == y)) S := by simp [cmpD, cmpO, eqS, der, D.pure, D.depth, eqD, blO]
@[simp] theorem ne_bl {x y : Bool} : cmpD .ne (.bl x) (.bl y) S = .ok (.bl (!(x == y))) S := by simp [cmpD, cmpO, eqS, der, D.pure, D.depth, eqD, blO]
@[simp] theorem lt_int {x y : Int} : cmpD .lt (.int x) (.int y) S = .ok (.bl (decide (x < y))) S := rfl
@[simp] theorem gt_int {x y : Int} : cmpD .gt (.int x) (.int y) S = .ok (.bl (decide (y < x))) S := rfl
@[simp] theorem le_int {x y : Int} : cmpD .le (.int x) (.int y) S = .ok (.bl (decide (x ≤ y))) S := rfl
@[simp] theorem ge_int {x y : Int} : cmpD .ge (.int x) (.int y) S = .ok (.bl (decide (y ≤ x))) S := rfl
@[simp] theorem is_non_str {x : List Nat} : cmpD .is (.str x) .non S = .ok (.bl false) S := rfl
@[simp] theorem is_non_int {x : Int} : cmpD .is (.int x) .non S = .ok (.bl false) S := rfl
@[simp] theorem is_non_tup {x : List D} : cmpD .is (.tup x) .non S = .ok (.bl false) S := rfl
@[simp] theorem is_non_non : cmpD .is .non .non S = .ok (.bl true) S := rfl
@[simp] theorem is_fin {x : Option Int} : cmpD .is (finD x) .non S = .ok (.bl x.isNone) S := by cases x <;> rfl
@[simp] theorem isnot_fin {x : Option Int} : cmpD .isnot (finD x) .non S = .ok (.bl x.isSome) S := by cases x <;> rfl
@[simp] theorem is_org {x : Option (List Nat)} : cmpD .is (orgD x) .non S = .ok (.bl x.isNone) S := by cases x <;> rfl
@[simp] theorem starts_str {x y : List Nat} : methD .startswith (.str x) [.str y] S = .ok (.bl (y.isPrefixOf x)) S := rfl
@[simp] theorem ends_str {x y : List Nat} : methD .endswith (.str x) [.str y] S = .ok (.bl (y.isSuffixOf x)) S := rfl
@[simp] theorem tyOk_split {x : List Nat} : tyOk .split S (.str x) = true := rfl
@[simp] theorem tyOk_join {x : List Nat} : tyOk .join S (.str x) = true := rfl
@[simp] theorem tyOk_ends {x : List Nat} : tyOk .endswith S (.str x) = true := rfl
@[simp] theorem tyOk_starts {x : List Nat} : tyOk .startswith S (.str x) = true := rfl
/-! ### lists of the store -/
@[simp] theorem listOf_loc' {m : Nat} : listOf S (.loc m) = match S[m]? with
    | some (.lst xs) => some xs
    | some (.frz xs) => some xs
    | _ => none := rfl
@[simp] theorem listOf_lit {xs : List D} : listOf S (.lit xs) = some xs := rfl
@[simp] theorem seqOf_loc {m : Nat} : seqOf S (.loc m) = listOf S (.loc m) := rfl
@[simp] theorem seqOf_lit {xs : List D} : seqOf S (.lit xs) = some xs := rfl
@[simp] theorem seqOf_tup {xs : List D} : seqOf S (.tup xs) = some xs := rfl
@[simp] theorem slc_loc {m : Nat} {l u : Option Int} : slcD (.loc m) l u S = match listOf S (.loc m) with
    | some xs => newL (cutL xs l u) S
    | none => .bad := rfl
@[simp] theorem slc_lit {xs : List D} {l u : Option Int} : slcD (.lit xs) l u S = newL (cutL xs l u) S := rfl
@[simp] theorem slc_tup {xs : List D} {l u : Option Int} : slcD (.tup xs) l u S = .ok (.tup (cutL xs l u)) S := rfl
@[simp] theorem len_loc {m : Nat} : biD .len [.loc m] S = match listOf S (.loc m) with
    | some xs => .ok (.int xs.length) S
    | none => .bad := rfl
@[simp] theorem len_tup {xs : List D} : biD .len [.tup xs] S = .ok (.int xs.length) S := rfl
@[simp] theorem len_lit {xs : List D} : biD .len [.lit xs] S = .ok (.int xs.length) S := rfl
@[simp] theorem tuple_tup {xs : List D} : biD .tuple [.tup xs] S = .ok (.tup xs) S := rfl
@[simp] theorem tuple_loc {m : Nat} : biD .tuple [.loc m] S = match listOf S (.loc m) with
    | some xs => .ok (.tup xs) S
    | none => .bad := rfl
@[simp] theorem list_tup {xs : List D} : biD .list [.tup xs] S = newL xs S := rfl
@[simp] theorem list_loc {m : Nat} : biD .list [.loc m] S = match listOf S (.loc m) with
    | some xs => newL xs S
    | none => .bad := rfl
@[simp] theorem all_loc {m : Nat} : biD .all [.loc m] S = match listOf S (.loc m) with
    | some xs => (match blsOf xs with | some bs => .ok (.bl (bs.all id)) S | none => .bad)
    | none => .bad := rfl
@[simp] theorem min_int {x y : Int} : biD .min2 [.int x, .int y] S = .ok (.int (if y < x then y else x)) S := rfl
@[simp] theorem max_int {x y : Int} : biD .max2 [.int x, .int y] S = .ok (.int (if y > x then y else x)) S := rfl
@[simp] theorem der_loc {m : Nat} : der S (.loc m) = match S[m]? with
    | some (.lst xs) => some (.lit xs)
    | some (.frz xs) => some (.lit xs)
    | _ => none := rfl
/-- two data as they stand -/
theorem eqS_of {a b x y : D} (ha : der S a = some x) (hb : der S b = some y) (hd : min x.depth y.depth ≤ 60) : eqS S a b = some (eqD x y) := by
  unfold eqS
  rw [ha, hb]
  exact if_pos (decide_eq_true hd)
theorem eq_of {a b x y : D} (ha : der S a = some x) (hb : der S b = some y) (hd : min x.depth y.depth ≤ 60) : cmpD .eq a b S = .ok (.bl (eqD x y)) S := by
  show blO (eqS S a b) S = _
  rw [eqS_of ha hb hd]
  rfl
theorem ne_of {a b x y : D} (ha : der S a = some x) (hb : der S b = some y) (hd : min x.depth y.depth ≤ 60) : cmpD .ne a b S = .ok (.bl (!eqD x y)) S := by
  show blO ((eqS S a b).map _) S = _
  rw [eqS_of ha hb hd]
  rfl
theorem der_pure {a : D} (h : a.pure = true) : der S a = some a := by
  cases a with
  | loc n => exact absurd h (by simp [D.pure])
  | _ => simp [der, h]
theorem eq_pure {a b : D} (ha : a.pure = true) (hb : b.pure = true) (hd : min a.depth b.depth ≤ 60) : cmpD .eq a b S = .ok (.bl (eqD a b)) S := eq_of (der_pure ha) (der_pure hb) hd
theorem ne_pure {a b : D} (ha : a.pure = true) (hb : b.pure = true) (hd : min a.depth b.depth ≤ 60) : cmpD .ne a b S = .ok (.bl (!eqD a b)) S := ne_of (der_pure ha) (der_pure hb) hd
theorem eqD_tup {xs ys : List D} : eqD (.tup xs) (.tup ys) = eqDs xs ys := by rw [eqD]
theorem eqD_lit {xs ys : List D} : eqD (.lit xs) (.lit ys) = eqDs xs ys := by rw [eqD]
theorem depth_tup {xs : List D} : (D.tup xs).depth = D.depthAll xs + 1 := by rw [D.depth]
theorem depth_lit {xs : List D} : (D.lit xs).depth = D.depthAll xs + 1 := by rw [D.depth]
theorem newL_ok {xs : List D} (h : D.pureAll xs = true) (hl : xs.length ≤ 1000000) : newL xs S = .ok (.loc S.length) (S ++ [.lst xs]) := by
  unfold newL
  rw [if_pos]
  rw [h, show szOk xs.length = true from decide_eq_true (by unfold lineN; omega)]
  rfl
@[simp] theorem partO_non : partO .non = some none := rfl
@[simp] theorem partO_int {x : Int} : partO (.int x) = some (some x) := rfl
end
section
variable {r : RT} {n : NT} {a : AT}
@[simp] theorem ir0_ (S : Store) : idxD r.d (.int 0) S = .ok (.str r.r0) S := ir0 S
@[simp] theorem ir1_ (S : Store) : idxD r.d (.int 1) S = .ok (.str r.r1) S := ir1 S
@[simp] theorem ir2_ (S : Store) : idxD r.d (.int 2) S = .ok (.str r.r2) S := ir2 S
@[simp] theorem ir3_ (S : Store) : idxD r.d (.int 3) S = .ok (.str r.r3) S := ir3 S
@[simp] theorem ir4_ (S : Store) : idxD r.d (.int 4) S = .ok (.str r.r4) S := ir4 S
@[simp] theorem in0_ (S : Store) : idxD n.d (.int 0) S = .ok (.str n.nm) S := in0 S
@[simp] theorem in2_ (S : Store) : idxD n.d (.int 2) S = .ok (.str n.host) S := in2 S
@[simp] theorem in3_ (S : Store) : idxD n.d (.int 3) S = .ok (.bl n.deep) S := in3 S
@[simp] theorem in4_ (S : Store) : idxD n.d (.int 4) S = .ok (.str n.path) S := in4 S
@[simp] theorem in5_ (S : Store) : idxD n.d (.int 5) S = .ok (finD n.fin) S := in5 S
@[simp] theorem in6_ (S : Store) : idxD n.d (.int 6) S = .ok (.bl n.safe) S := in6 S
@[simp] theorem in7_ (S : Store) : idxD n.d (.int 7) S = .ok (.str n.side) S := in7 S
@[simp] theorem ia0_ (S : Store) : idxD a.d (.int 0) S = .ok (.str a.host) S := ia0 S
@[simp] theorem ia1_ (S : Store) : idxD a.d (.int 1) S = .ok (.str a.path) S := ia1 S
@[simp] theorem ia2_ (S : Store) : idxD a.d (.int 2) S = .ok (.int a.time) S := ia2 S
@[simp] theorem ia3_ (S : Store) : idxD a.d (.int 3) S = .ok (.bl a.safe) S := ia3 S
@[simp] theorem ia4_ (S : Store) : idxD a.d (.int 4) S = .ok (orgD a.org) S := ia4 S
@[simp] theorem ia5_ (S : Store) : idxD a.d (.int 5) S = .ok (.bl a.near) S := ia5 S
@[simp] theorem ir5_ (S : Store) : idxD r.d (.int 5) S = .ok (.str r.r5) S := by simp [idxD, atZ, retO, RT.d]
@[simp] theorem in1_ (S : Store) : idxD n.d (.int 1) S = .ok (.str n.vl) S := by simp [idxD, atZ, retO, NT.d]
end
end Lw
set_option Elab.async false
set_option linter.all false
set_option maxRecDepth 100000
set_option maxHeartbeats 1000000
namespace Lw
open Ev
variable {L : FD} {k : Nat} {r : RT} {n : NT} {a : AT}
theorem splitC_noC {c : Nat} : ∀ (s : List Nat), ∀ l ∈ splitC c s, noC c l
  | [], l, h => by
    rw [splitC, List.mem_singleton] at h
    subst h
    intro x hx; cases hx
  | x :: s, l, h => by
    have ih := splitC_noC (c := c) s
    rw [splitC] at h
    split at h
    · rcases List.mem_cons.mp h with rfl | h
      · intro x hx; cases hx
      · exact ih l h
    · rename_i hx
      split at h
      · rename_i e
        exact absurd e (splitC_ne c s)
      · rename_i p ps e
        rcases List.mem_cons.mp h with rfl | h
        · intro y hy
          rcases List.mem_cons.mp hy with rfl | hy
          · exact hx
          · exact ih p (by rw [e]; exact List.mem_cons_self) y hy
        · exact ih l (by rw [e]; exact List.mem_cons_of_mem _ h)
theorem lastTwo_ne {α : Type} {xs : List α} (h : xs ≠ []) : lastTwo xs ≠ [] := by
  unfold lastTwo
  intro z
  have := congrArg List.length z
  rw [List.length_drop, List.length_nil] at this
  have : xs.length ≠ 0 := fun q => h (List.length_eq_zero_iff.mp q)
  omega
theorem site_split (h : List Nat) : splitC 46 (siteF h) = lastTwo (splitC 46 h) := by
  unfold siteF
  exact split_join (lastTwo_ne (splitC_ne _ _)) fun l hl => splitC_noC h l (List.mem_of_mem_drop hl)
theorem site_eq (x y : List Nat) : (lastTwo (splitC 46 x) == lastTwo (splitC 46 y)) = (siteF x == siteF y) := by
  rw [Bool.eq_iff_iff, beq_iff_eq, beq_iff_eq]
  constructor
  · intro h; unfold siteF; rw [h]
  · intro h; rw [← site_split, ← site_split, h]
/-- data that are compared at once -/
theorem cmp_strs {x y : List (List Nat)} {S : Store} : cmpD .eq (.tup (x.map .str)) (.tup (y.map .str)) S = .ok (.bl (x == y)) S := by
  simp [cmpD, cmpO, eqS, der, D.pure, D.depth, depth_st, eqD, eqDs_st, blO]
def sideFits (r : RT) (n : NT) (a : AT) : Bool := a.org.isNone || (match a.org with | some o => siteF o == siteF a.host | none => false) || (r.r4 == [110, 111, 110, 101]) || (n.side == [97, 110, 121]) || (a.near && ((n.side == [110, 101, 97, 114]) || (r.r4 == [108, 111, 111, 115, 101])))
theorem r_side (ok : a.Ok) : Gives (run (PG L) (k + 2)) 21 [r.d, n.d, a.d] (.bl (sideFits r n a)) := by
  have h1 := ok.host
  refine gives_of (fd := fd_side_fits) rfl rfl ?_
  unfold sideFits
  cases ho : a.org with
  | none => simp [fd_side_fits, sm_side_fits, ho, or_if]
  | some o =>
    have h2 := ok.org o ho
    have c1 := fun S => c_site (L := L) (k := k) (h := o) (S := S) (by omega)
    have c2 := fun S => c_site (L := L) (k := k) (h := a.host) (S := S) (by omega)
    simp [fd_side_fits, sm_side_fits, ho, orgD, c1, c2]
    grind
theorem r_lside (ok : a.Ok) : Gives (run (PG L) (k + 2)) 30 [r.d, n.d, a.d] (.bl (sideFits r n a)) := by
  have h1 := ok.host
  refine gives_of (fd := fd__law_side_fits) rfl rfl ?_
  unfold sideFits
  cases ho : a.org with
  | none => simp [fd__law_side_fits, sm__law_side_fits, ho, or_if]
  | some o =>
    have h2 := ok.org o ho
    have c1 := fun S => c_lsite (L := L) (k := k) (h := o) (S := S) (by omega)
    have c2 := fun S => c_lsite (L := L) (k := k) (h := a.host) (S := S) (by omega)
    simp [fd__law_side_fits, sm__law_side_fits, ho, orgD, c1, c2, cmp_strs, site_eq]
    split <;> simp_all
theorem c_side {S : Store} (ok : a.Ok) : callF (run (PG L) (k + 2)) 21 [r.d, n.d, a.d] S = .ok (.bl (sideFits r n a)) S := callF_ok (by simp [D.pureAll, NT.pure, RT.pure, AT.pure]) (r_side ok) rfl
theorem c_lside {S : Store} (ok : a.Ok) : callF (run (PG L) (k + 2)) 30 [r.d, n.d, a.d] S = .ok (.bl (sideFits r n a)) S := callF_ok (by simp [D.pureAll, NT.pure, RT.pure, AT.pure]) (r_lside ok) rfl
theorem len_str {x : List Nat} {S : Store} (h : x.length ≤ 1000000) : biD .len [.str x] S = .ok (.int x.length) S := by
  show (if szOk _ = true then _ else _) = _
  rw [if_pos (show szOk _ = true from decide_eq_true (by unfold lineN; omega))]
theorem slc_str {x : List Nat} {S : Store} {l u : Option Int} (h : x.length ≤ 1000000) : slcD (.str x) l u S = .ok (.str (cutL x l u)) S := by
  show (if szOk _ = true then _ else _) = _
  rw [if_pos (show szOk _ = true from decide_eq_true (by unfold lineN; omega))]
theorem r_lpath_fits {p : List Nat} (hn : n.path.length ≤ 1000) (hp : p.length ≤ 1000) : Gives (run (PG L) (k + 2)) 27 [r.d, n.d, .str p] (.bl (pathFits r n p)) := by
  refine gives_of (fd := fd__law_path_fits) rfl rfl ?_
  have c1 := fun S => c_lstepsG (L := L) (k := k) (S := S) hn
  have c2 := fun S => c_lstepsG (L := L) (k := k) (S := S) hp
  have s1 := split_len 47 p
  have s2 : (stepsF p).length ≤ (splitC 47 p).length := List.length_filter_le _ _
  have s3 := fun S => slc_str (x := p) (S := S) (l := none) (u := some (n.path.length : Int)) (by omega)
  have s4 := fun S => len_str (x := n.path) (S := S) (by omega)
  have ct : cutL ((stepsF p).map D.str) none (some ((stepsF n.path).length : Int)) = ((stepsF p).take (stepsF n.path).length).map D.str := by rw [cut_hi, List.map_take]
  have nl := fun S => newL_ok (S := S) (xs := ((stepsF p).take (stepsF n.path).length).map D.str) (pureAll_strs _) (by rw [List.length_map, List.length_take]; omega)
  have e := fun S => eq_of (S := S ++ [.lst ((stepsF p).map .str), .lst ((stepsF n.path).map .str), .lst (((stepsF p).take (stepsF n.path).length).map .str)]) (a := .loc 2) (b := .loc 1) (x := .lit (((stepsF p).take (stepsF n.path).length).map .str)) (y := .lit ((stepsF n.path).map .str))
  have e := e [] rfl rfl (by rw [depth_lit, depth_st]; omega)
  simp only [List.nil_append, eqD_lit, eqDs_st] at e
  unfold pathFits
  simp [fd__law_path_fits, sm__law_path_fits, c1, c2, s3, s4, ct, nl, cut_hi, prefix_take, -List.map_take, e]
  grind
theorem c_lpath_fits {p : List Nat} {S : Store} (hn : n.path.length ≤ 1000) (hp : p.length ≤ 1000) : callF (run (PG L) (k + 2)) 27 [r.d, n.d, .str p] S = .ok (.bl (pathFits r n p)) S := callF_ok (by simp [D.pureAll, NT.pure, RT.pure, D.pure]) (r_lpath_fits hn hp) rfl
/-! ### why not -/
def whyNot (r : RT) (n : NT) (a : AT) : Option (List Nat) :=
  if !hostFits r n a.host then some [104, 111, 115, 116] else if !pathFits r n a.path then some [112, 97, 116, 104] else if hasEnded r n a.time then some [101, 110, 100]
  else if !safeFits r n a then some [115, 97, 102, 101] else if !sideFits r n a then some [115, 105, 100, 101] else none
/-- a note as the draws make it, its path as any -/
structure NT.Good (n : NT) : Prop where
  host : n.host.length ≤ 1000
  path : PathG n.path
theorem NT.Ok.good (h : n.Ok) : n.Good := ⟨by have := h.host.len; omega, h.path.g⟩
theorem r_why (hn : n.Good) (ok : a.Ok) : Gives (run (PG L) (k + 3)) 22 [r.d, n.d, a.d] (orgD (whyNot r n a)) := by
  refine gives_of (fd := fd_why_not) rfl rfl ?_
  have c1 := fun S => c_host_fits (L := L) (k := k) (r := r) (n := n) (h := a.host) (S := S) hn.host
  have c2 := fun S => c_path_fits (L := L) (k := k) (r := r) (n := n) (p := a.path) (S := S) hn.path ok.path
  have c3 := fun S => c_ended (L := L) (k := k + 1) (r := r) (n := n) (t := a.time) (S := S)
  have c4 := fun S => c_safe (L := L) (k := k + 1) (r := r) (n := n) (a := a) (S := S)
  have c5 := fun S => c_side (L := L) (k := k) (r := r) (n := n) (a := a) (S := S) ok
  unfold whyNot
  simp [fd_why_not, sm_why_not, c1, c2, c3, c4, c5]
  grind [orgD]
theorem c_why {S : Store} (hn : n.Good) (ok : a.Ok) : callF (run (PG L) (k + 3)) 22 [r.d, n.d, a.d] S = .ok (orgD (whyNot r n a)) S := callF_ok (by simp [D.pureAll, NT.pure, RT.pure, AT.pure]) (r_why hn ok) (by simp)
theorem r_lwhy (hr : r.Ok) (hn : n.Good) (ok : a.Ok) : Gives (run (PG L) (k + 3)) 31 [r.d, n.d, a.d] (orgD (whyNot r n a)) := by
  refine gives_of (fd := fd__law_why) rfl rfl ?_
  have h1 := ok.host
  have h2 := ok.path.len
  have h3 := hn.path.len
  have c1 := fun S => c_lhost_fits (L := L) (k := k + 1) (r := r) (n := n) (h := a.host) (S := S) hr hn.host (by omega)
  have c2 := fun S => c_lpath_fits (L := L) (k := k) (r := r) (n := n) (p := a.path) (S := S) (by omega) (by omega)
  have c3 := fun S => c_lended (L := L) (k := k + 1) (r := r) (n := n) (t := a.time) (S := S)
  have c4 := fun S => c_lsafe (L := L) (k := k + 1) (r := r) (n := n) (a := a) (S := S)
  have c5 := fun S => c_lside (L := L) (k := k) (r := r) (n := n) (a := a) (S := S) ok
  unfold whyNot
  simp [fd__law_why, sm__law_why, c1, c2, c3, c4, c5]
  grind [orgD]
theorem c_lwhy {S : Store} (hr : r.Ok) (hn : n.Good) (ok : a.Ok) : callF (run (PG L) (k + 3)) 31 [r.d, n.d, a.d] S = .ok (orgD (whyNot r n a)) S := callF_ok (by simp [D.pureAll, NT.pure, RT.pure, AT.pure]) (r_lwhy hr hn ok) (by simp)
def goesF (r : RT) (n : NT) (a : AT) : Bool := (whyNot r n a).isNone
theorem r_goes (hn : n.Good) (ok : a.Ok) : Gives (run (PG L) (k + 4)) 23 [r.d, n.d, a.d] (.bl (goesF r n a)) := by
  refine gives_of (fd := fd_goes) rfl rfl ?_
  have c1 := fun S => c_why (L := L) (k := k) (r := r) (n := n) (a := a) (S := S) hn ok
  simp [fd_goes, sm_goes, c1, goesF]
theorem c_goes {S : Store} (hn : n.Good) (ok : a.Ok) : callF (run (PG L) (k + 4)) 23 [r.d, n.d, a.d] S = .ok (.bl (goesF r n a)) S := callF_ok (by simp [D.pureAll, NT.pure, RT.pure, AT.pure]) (r_goes hn ok) rfl
end Lw
set_option Elab.async false
set_option linter.all false
set_option maxRecDepth 100000
/-! Sz: loops, what is asked in a law. -/
namespace Lw
open Ev
variable {L : FD} {k : Nat}
@[simp] theorem putTg_one {ρ : Env} {i : Nat} {d : D} : putTg ρ (.one i) d = if i < ρ.length then some (ρ.set i (some d)) else none := rfl
@[simp] theorem putTg_many {ρ : Env} {is : List Nat} {ds : List D} : putTg ρ (.many is) (.tup ds) = setAll ρ is ds := rfl
theorem sm62_of {j : Int} (h0 : -1000000000 ≤ j) (h1 : j ≤ 1000000000) : sm62 j = true := by
  unfold sm62; rw [Bool.and_eq_true]; constructor <;> apply decide_eq_true <;> omega
theorem turn_one {F : Nat → List D → Store → Out D} {i : Nat} {body : Sms} {x : D} {ρ : Env} {S : Store} (hi : i < ρ.length) : loopTurn F (.one i) body false x ρ S = exs F body (ρ.set i (some x)) S := by
  unfold loopTurn
  rw [putTg_one, if_pos hi]
  rfl
@[simp] theorem lockEndS_none {o : SOut} : lockEndS none o = o := by cases o <;> rfl
theorem ex_range {F : Nat → List D → Store → Out D} {tg : Tg} {sc : Bool} {n : Nat} {body : Sms} {ρ : Env} {S : Store} (hs : sm62 (n : Int) = true) : ex F (.loop tg (.range1 (.dat (.int n))) body sc) ρ S = forLoop (loopTurn F tg body sc) (upFrom 0 n) ρ S := by
  rw [ex_loop, sit_range1, ev_dat, ok_bind]
  unfold range1D
  simp only [hs]
  rw [if_pos trivial, ok_thn, lockEndS_none, Int.toNat_natCast]
/-- a loop over numbers, the store empty ahead of and behind each turn -/
theorem for_range {F : Nat → List D → Store → Out D} {i : Nat} {body : Sms} {ρ : Env} (n : Nat) {z : Int} (I : Env → Prop) (hz : z = (n : Int)) (hn : n < 1000000) (hi : ∀ ρ, I ρ → i < ρ.length) (h0 : I ρ)
    (st : ∀ (j : Nat) ρ, j < n → I ρ → ∃ ρ', exs F body (ρ.set i (some (.int j))) [] = .nx ρ' [] ∧ I ρ') :
    ∃ ρ', ex F (.loop (.one i) (.range1 (.dat (.int z))) body false) ρ [] = .nx ρ' [] ∧ I ρ' := by
  subst hz
  have hs : sm62 (n : Int) = true := sm62_of (by omega) (by omega)
  have go : ∀ (xs : List D), (∀ x ∈ xs, ∃ j : Nat, j < n ∧ x = .int j) → ∀ ρ, I ρ → ∃ ρ', forLoop (loopTurn F (.one i) body false) xs ρ [] = .nx ρ' [] ∧ I ρ' := by
    intro xs
    induction xs with
    | nil => intro _ ρ h; exact ⟨ρ, rfl, h⟩
    | cons x xs ih =>
      intro hx ρ h
      obtain ⟨j, hj, rfl⟩ := hx x List.mem_cons_self
      obtain ⟨ρ1, e1, h1⟩ := st j ρ hj h
      obtain ⟨ρ2, e2, h2⟩ := ih (fun y hy => hx y (List.mem_cons_of_mem _ hy)) ρ1 h1
      refine ⟨ρ2, ?_, h2⟩
      rw [forLoop]
      rw [turn_one (hi ρ h), e1]
      exact e2
  rw [ex_range hs]
  refine go _ ?_ ρ h0
  intro x hx
  rw [upFrom_eq] at hx
  obtain ⟨j, hj, rfl⟩ := List.mem_map.mp hx
  exact ⟨j, List.mem_range.mp hj, by rw [Int.zero_add]⟩
/-- a loop that leaves the store as it is -/
theorem for_loop {F : Nat → List D → Store → Out D} {tg : Tg} {body : Sms} {sc : Bool} {ρ : Env} {S : Store} (I : Env → Prop) : ∀ {xs : List D}, I ρ → (∀ x ∈ xs, ∀ ρ, I ρ → ∃ ρ', loopTurn F tg body sc x ρ S = .nx ρ' S ∧ I ρ') →
    ∃ ρ', forLoop (loopTurn F tg body sc) xs ρ S = .nx ρ' S ∧ I ρ'
  | [], h0, _ => ⟨ρ, rfl, h0⟩
  | x :: xs, h0, st => by
    obtain ⟨ρ1, e1, h1⟩ := st x List.mem_cons_self ρ h0
    obtain ⟨ρ2, e2, h2⟩ := for_loop (ρ := ρ1) I h1 fun y hy => st y (List.mem_cons_of_mem _ hy)
    exact ⟨ρ2, by rw [forLoop, e1]; exact e2, h2⟩
theorem turn_many {F : Nat → List D → Store → Out D} {is : List Nat} {ds : List D} {body : Sms} {ρ ρ' : Env} {S : Store} (h : setAll ρ is ds = some ρ') : loopTurn F (.many is) body false (.tup ds) ρ S = exs F body ρ' S := by
  unfold loopTurn
  rw [putTg_many, h]
  rfl
/-- a turn whose new objects are forgotten behind it -/
theorem turn_scoped {F : Nat → List D → Store → Out D} {i : Nat} {body : Sms} {x : D} {ρ ρ' : Env} {S T : Store} (hi : i < ρ.length) (hc : closedS S.length S = true) (h : exs F body (ρ.set i (some x)) S = .nx ρ' (S ++ T)) : loopTurn F (.one i) body true x ρ S = .nx (killE S.length ρ') S := by
  unfold loopTurn
  rw [putTg_one, if_pos hi]
  simp only [if_true]
  rw [h]
  unfold scopeEnd
  simp only [List.take_left, hc, if_true]
theorem gc_lst {S : Store} {ys : List D} (hc : closedS S.length S = true) : gc S.length (.loc S.length) (S ++ [.lst ys]) = .ok (.loc S.length) (S ++ [.lst ys]) := by
  unfold gc
  rw [if_neg (by simp), if_pos (by simpa using hc)]
  simp [D.low]
theorem gc_drop {d : D} {S T : Store} (hc : closedS S.length S = true) (hd : d.low S.length = true) : gc S.length d (S ++ T) = .ok d S := by
  unfold gc
  by_cases h : T = []
  · subst h; simp
  · have : T.length ≠ 0 := fun z => h (List.length_eq_zero_iff.mp z)
    rw [if_neg (by simpa using this), if_pos (by simpa using hc), if_pos hd]
    simp
mutual
theorem low_pure : ∀ (n : Nat) (d : D), d.pure = true → d.low n = true
  | n, .non, _ => rfl
  | n, .bl _, _ => rfl
  | n, .int _, _ => rfl
  | n, .str _, _ => rfl
  | n, .tup xs, h => by rw [D.low]; rw [D.pure] at h; exact lows_pure n xs h
  | n, .lit xs, h => by rw [D.low]; rw [D.pure] at h; exact lows_pure n xs h
  | n, .loc _, h => by simp [D.pure] at h
theorem lows_pure : ∀ (n : Nat) (ds : List D), D.pureAll ds = true → D.lowAll n ds = true
  | n, [], _ => rfl
  | n, d :: ds, h => by
    rw [D.pureAll, Bool.and_eq_true] at h
    rw [D.lowAll, low_pure n d h.1, lows_pure n ds h.2]
    rfl
end
theorem c_same' {d : D} {S : Store} (h : plainD d = true ∧ d.depth ≤ k) : callF (run (PG L) (k + 1)) 9 [d, d] S = .ok (.bl true) S := c_same h.1 h.2
theorem plain_fin (o : Option Int) : plainD (finD o) = true := by cases o <;> rfl
@[simp] theorem plain_org (o : Option (List Nat)) : plainD (orgD o) = true := by cases o <;> rfl
@[simp] theorem depth_org (o : Option (List Nat)) : (orgD o).depth = 0 := by cases o <;> rfl
@[simp] theorem depth_fin (o : Option Int) : (finD o).depth = 0 := by cases o <;> rfl
end Lw
set_option Elab.async false
set_option linter.all false
set_option maxRecDepth 100000
namespace Lw
open Ev
variable {L : FD} {k : Nat}
/-! ### all rules -/
def allRT : List RT := tk0.flatMap fun a => tk1.flatMap fun b => tk2.flatMap fun c => tk3.flatMap fun d => tk4.flatMap fun e => tk5.map fun f => ⟨a, b, c, d, e, f⟩
def fdN : FD := ⟨0, 0, .nil⟩
def outSt : Out D → Store
  | .ok _ S => S
  | _ => []
theorem al_run : run (PG L) (k + 1) 4 [] [] = .ok (.tup (allRT.map RT.d)) (outSt (run (PG fdN) 1 4 [] [])) := by kernel_rfl
theorem pureAll_rts (rs : List RT) : D.pureAll (rs.map RT.d) = true := by
  induction rs with
  | nil => rfl
  | cons n ns ih => rw [List.map_cons, D.pureAll, ih, RT.pure]; rfl
theorem c_all_rules {S : Store} : callF (run (PG L) (k + 1)) 4 [] S = .ok (.tup (allRT.map RT.d)) S := callF_ok rfl ⟨_, al_run⟩ (by rw [D.pure]; exact pureAll_rts _)
theorem mem_all {r : RT} (h : r ∈ allRT) : r.Ok := by
  unfold allRT at h
  simp only [List.mem_flatMap, List.mem_map] at h
  obtain ⟨a, ha, b, hb, c, hc, d, hd, e, he, f, hf, rfl⟩ := h
  exact ⟨ha, hb, hc, hd, he, hf⟩
theorem all_mem {r : RT} (h : r.Ok) : r ∈ allRT := by
  unfold allRT
  simp only [List.mem_flatMap, List.mem_map]
  exact ⟨_, h.o0, _, h.o1, _, h.o2, _, h.o3, _, h.o4, _, h.o5, rfl⟩
theorem all_len : allRT.length = 216 := by decide +kernel
theorem atZ_rt {rs : List RT} {j : Int} (h0 : 0 ≤ j) (h1 : j < rs.length) : ∃ r ∈ rs, atZ (rs.map RT.d) j = some r.d := by
  have h2 : j.toNat < rs.length := by omega
  refine ⟨rs[j.toNat], List.getElem_mem _, ?_⟩
  unfold atZ
  rw [if_pos h0, if_pos (by rw [List.length_map]; exact h1), List.getElem?_map, List.getElem?_eq_getElem h2]
  rfl
end Lw
set_option Elab.async false
set_option linter.all false
set_option maxRecDepth 100000
set_option maxHeartbeats 1000000
namespace Lw
open Ev
variable {L : FD} {k : Nat} {r : RT} {n : NT} {a : AT}
/-! ### what goes, in all -/
theorem goes_eq : goesF r n a = (hostFits r n a.host && (pathFits r n a.path && (!hasEnded r n a.time && (safeFits r n a && sideFits r n a)))) := by
  unfold goesF whyNot
  cases hostFits r n a.host <;> cases pathFits r n a.path <;> cases hasEnded r n a.time <;> cases safeFits r n a <;> cases sideFits r n a <;> rfl
theorem goes_iff : goesF r n a = true ↔ hostFits r n a.host = true ∧ pathFits r n a.path = true ∧ hasEnded r n a.time = false ∧ safeFits r n a = true ∧ sideFits r n a = true := by
  rw [goes_eq]; simp
theorem steps_prefix {p q : List Nat} (hp : PathG p) (hq : PathG q) (h : ((stepsF q).take (stepsF p).length == stepsF p) = true) : p.isPrefixOf q = true := by
  obtain ⟨ps, ep, gp⟩ := hp.ex
  obtain ⟨qs, eq, gq⟩ := hq.ex
  rw [stepsF_eq ep gp, stepsF_eq eq gq, beq_iff_eq] at h
  rw [List.isPrefixOf_iff_prefix]
  obtain ⟨rest, hr⟩ : ∃ rest, qs = ps ++ rest := ⟨qs.drop ps.length, by have t := List.take_append_drop ps.length qs; rw [h] at t; exact t.symm⟩
  rw [ep, eq]
  subst hr
  by_cases h0 : ps = []
  · subst h0
    simp [joinN]
  · by_cases h1 : rest = []
    · subst h1; simp
    · rw [join_app h1 h0]
      simp
theorem path_self (r : RT) (n : NT) : pathFits r n n.path = true := by
  unfold pathFits
  split <;> simp
theorem host_self (r : RT) (n : NT) : hostFits r n n.host = true := by
  unfold hostFits
  simp
theorem ended_mono {s t : Int} (h : s ≤ t) (e : hasEnded r n s = true) : hasEnded r n t = true := by
  unfold hasEnded at *
  revert e
  cases n.fin with
  | none => intro e; cases e
  | some f =>
    intro e
    simp only at *
    split
    · rename_i q; rw [if_pos q] at e; simp at *; omega
    · rename_i q; rw [if_neg q] at e; simp at *; omega
/-! one word wider -/
theorem wide0 (hn : PathG n.path) (ha : PathG a.path) (h : r.r0 = [115, 116, 101, 112, 115]) (g : goesF r n a = true) : goesF { r with r0 := [115, 105, 103, 110, 115] } n a = true := by
  rw [goes_iff] at *
  refine ⟨g.1, ?_, g.2.2.1, g.2.2.2.1, g.2.2.2.2⟩
  have q := g.2.1
  unfold pathFits at *
  rw [h] at q
  exact steps_prefix hn ha (by simpa using q)
theorem wide1a (h : r.r1 = [110, 101, 118, 101, 114]) (g : goesF r n a = true) : goesF { r with r1 := [116, 111, 108, 100] } n a = true := by
  rw [goes_iff] at *
  refine ⟨?_, g.2.1, g.2.2.1, g.2.2.2.1, g.2.2.2.2⟩
  have q := g.1
  unfold hostFits always told at *
  rw [h] at q
  simp at *
  exact .inl q
theorem wide1b (h : r.r1 = [116, 111, 108, 100]) (g : goesF r n a = true) : goesF { r with r1 := [97, 108, 119, 97, 121, 115] } n a = true := by
  rw [goes_iff] at *
  refine ⟨?_, g.2.1, g.2.2.1, g.2.2.2.1, g.2.2.2.2⟩
  have q := g.1
  unfold hostFits always told at *
  rw [h] at q
  simp at *
  exact q.imp id (·.2)
theorem wide2 (h : r.r2 = [117, 110, 116, 105, 108]) (g : goesF r n a = true) : goesF { r with r2 := [119, 105, 116, 104] } n a = true := by
  rw [goes_iff] at *
  refine ⟨g.1, g.2.1, ?_, g.2.2.2.1, g.2.2.2.2⟩
  have q := g.2.2.1
  unfold hasEnded at *
  rw [h] at q
  cases hf : n.fin with
  | none => rfl
  | some f => rw [hf] at q; simp at *; omega
theorem wide3 (h : r.r3 = [109, 117, 115, 116]) (g : goesF r n a = true) : goesF { r with r3 := [102, 114, 101, 101] } n a = true := by
  rw [goes_iff] at *
  refine ⟨g.1, g.2.1, g.2.2.1, ?_, g.2.2.2.2⟩
  unfold safeFits
  simp
theorem wide4a (h : r.r4 = [107, 101, 101, 112]) (g : goesF r n a = true) : goesF { r with r4 := [108, 111, 111, 115, 101] } n a = true := by
  rw [goes_iff] at *
  refine ⟨g.1, g.2.1, g.2.2.1, g.2.2.2.1, ?_⟩
  have q := g.2.2.2.2
  unfold sideFits at *
  rw [h] at q
  simp at *
  grind
theorem wide4b (h : r.r4 = [108, 111, 111, 115, 101]) (g : goesF r n a = true) : goesF { r with r4 := [110, 111, 110, 101] } n a = true := by
  rw [goes_iff] at *
  refine ⟨g.1, g.2.1, g.2.2.1, g.2.2.2.1, ?_⟩
  unfold sideFits
  simp
/-! near the note -/
def homeA (n : NT) (a : AT) : AT := ⟨n.host, n.path, a.time, true, none, a.near⟩
def bareA (a : AT) : AT := { a with safe := true, org := none }
def atHome (n : NT) (a : AT) : AT := { a with host := n.host, path := n.path }
def bareN (n : NT) : NT := { n with fin := none, safe := false, side := [97, 110, 121] }
theorem goes_home (g : goesF r n a = true) : goesF r n (homeA n a) = true := by
  rw [goes_iff] at *
  exact ⟨host_self r n, path_self r n, g.2.2.1, by simp [safeFits, homeA], by simp [sideFits, homeA]⟩
theorem goes_bareA (g : goesF r n a = true) : goesF r n (bareA a) = true := by
  rw [goes_iff] at *
  exact ⟨g.1, g.2.1, g.2.2.1, by simp [safeFits, bareA], by simp [sideFits, bareA]⟩
theorem goes_bareN (g : goesF r n a = true) : goesF r (bareN n) a = true := by
  rw [goes_iff] at *
  exact ⟨g.1, g.2.1, by simp [hasEnded, bareN], by simp [safeFits, bareN], by simp [sideFits, bareN]⟩
theorem goes_atHome : goesF r (bareN n) (atHome n a) = true := by
  rw [goes_iff]
  exact ⟨host_self r (bareN n), path_self r (bareN n), by simp [hasEnded, bareN], by simp [safeFits, bareN], by simp [sideFits, bareN]⟩
theorem why_old {w : List Nat} : whyNot { r with r5 := w } n a = whyNot r n a := rfl
/-! sorted truths -/
theorem isort_sorted {le : D → D → Bool} : ∀ {xs : List D}, xs.Pairwise (fun a b => le a b = true) → isort le xs = xs
  | [], _ => rfl
  | x :: xs, h => by
    rw [List.pairwise_cons] at h
    rw [isort, isort_sorted h.2]
    cases xs with
    | nil => rfl
    | cons y ys => rw [insD, if_pos (h.1 y List.mem_cons_self)]
theorem bls_sorted (f : Nat → Bool) (hf : ∀ i j, i ≤ j → f i = true → f j = true) (m : Nat) : ((List.range m).map fun i => D.bl (f i)).Pairwise (fun a b => leD a b = true) := by
  rw [List.pairwise_map]
  refine (List.pairwise_lt_range (n := m)).imp ?_
  intro i j h
  unfold leD
  rw [ltD]
  cases hi : f i with
  | false => simp
  | true => rw [hf i j (by omega) hi]; rfl
/-! slices of rows -/
@[simp] theorem cut_ask3 (a : AT) {S : Store} : slcD a.d none (some 3) S = .ok (.tup [.str a.host, .str a.path, .int a.time]) S := by simp [AT.d, cutL, cutIx]
@[simp] theorem cut_ask_2 (a : AT) {S : Store} : slcD a.d (some 2) none S = .ok (.tup [.int a.time, .bl a.safe, orgD a.org, .bl a.near]) S := by simp [AT.d, cutL, cutIx]
@[simp] theorem cut_note5 (n : NT) {S : Store} : slcD n.d none (some 5) S = .ok (.tup [.str n.nm, .str n.vl, .str n.host, .bl n.deep, .str n.path]) S := by simp [NT.d, cutL, cutIx]
@[simp] theorem cut_rules5 (r : RT) {S : Store} : slcD r.d none (some 5) S = .ok (.tup [.str r.r0, .str r.r1, .str r.r2, .str r.r3, .str r.r4]) S := by simp [RT.d, cutL, cutIx]
/-! ### _law_is_narrow -/
theorem goes_same (g : goesF r n a = true) : goesF r n a = true := g
def IN (n : NT) (a : AT) (r : RT) (ρ : Env) : Prop := ∃ v3 v4 v5 v6 v7, ρ = [some n.d, some a.d, some r.d, v3, v4, v5, v6, v7]
def rput (r : RT) (i : Nat) (w : List Nat) : RT := match i with
  | 0 => { r with r0 := w } | 1 => { r with r1 := w } | 2 => { r with r2 := w } | 3 => { r with r3 := w } | 4 => { r with r4 := w } | _ => { r with r5 := w }
def rget (r : RT) (i : Nat) : List Nat := match i with
  | 0 => r.r0 | 1 => r.r1 | 2 => r.r2 | 3 => r.r3 | 4 => r.r4 | _ => r.r5
theorem cut_le {α : Type} (xs : List α) (l u : Option Int) : (cutL xs l u).length ≤ xs.length := by
  unfold cutL
  rw [List.length_take, List.length_drop]
  omega
theorem rput_d {i : Nat} {w : List Nat} (hi : i < 6) : ∃ x y : List D, (∀ S, slcD r.d none (some (i : Int)) S = .ok (.tup x) S) ∧ (∀ S, slcD r.d (some ((i : Int) + 1)) none S = .ok (.tup y) S) ∧ x.length ≤ 6 ∧ y.length ≤ 6 ∧ (rput r i w).d = .tup (x ++ (.str w :: y)) := by
  have : i = 0 ∨ i = 1 ∨ i = 2 ∨ i = 3 ∨ i = 4 ∨ i = 5 := by omega
  rcases this with h | h | h | h | h | h <;> subst h <;> exact ⟨_, _, fun S => rfl, fun S => rfl, cut_le _ _ _, cut_le _ _ _, rfl⟩
theorem rget_d {i : Nat} {S : Store} (hi : i < 6) : idxD r.d (.int i) S = .ok (.str (rget r i)) S := by
  have : i = 0 ∨ i = 1 ∨ i = 2 ∨ i = 3 ∨ i = 4 ∨ i = 5 := by omega
  rcases this with h | h | h | h | h | h <;> subst h <;> rfl
theorem narrow_turn {i : Nat} {x w : List Nat} {ρ : Env} (hi : i < 6) (hn : n.Good) (oa : a.Ok) (h : IN n a r ρ) (g : rget r i = x → goesF r n a = true → goesF (rput r i w) n a = true) :
    ∃ ρ', loopTurn (run (PG L) (k + 4)) (.many [4, 5, 6]) lb__law_is_narrow_1 false (.tup [.int i, .str x, .str w]) ρ [] = .nx ρ' [] ∧ IN n a r ρ' := by
  obtain ⟨v3, v4, v5, v6, v7, rfl⟩ := h
  obtain ⟨p, q, e1, e2, l1, l2, e3⟩ := rput_d (r := r) (i := i) (w := w) hi
  have e4 := fun S => rget_d (r := r) (S := S) hi
  have c1 := fun S => c_goes (L := L) (k := k) (r := r) (S := S) hn oa
  have c2 := fun S => c_goes (L := L) (k := k) (r := rput r i w) (S := S) hn oa
  rw [e3] at c2
  rw [turn_many (ρ' := [some n.d, some a.d, some r.d, v3, some (.int i), some (.str x), some (.str w), v7]) (by simp)]
  have a1 := fun S => add_tup (S := S) (x := p) (y := [.str w]) (by omega) (by simp)
  have a2 := fun S => add_tup (S := S) (x := p ++ [.str w]) (y := q) (by simp; omega) (by omega)
  have a3 : p ++ [.str w] ++ q = p ++ .str w :: q := by simp
  rw [a3] at a2
  by_cases hx : rget r i = x
  · cases hg : goesF r n a with
    | false =>
      simp [lb__law_is_narrow_1, e1, e2, a1, a2, e4, c1, c2, hg, and_if]
      exact ⟨_, _, _, _, _, rfl⟩
    | true =>
      simp [lb__law_is_narrow_1, e1, e2, a1, a2, e4, c1, c2, hg, g hx hg]
      exact ⟨_, _, _, _, _, rfl⟩
  · have hb : (rget r i == x) = false := beq_eq_false_iff_ne.mpr hx
    simp [lb__law_is_narrow_1, e1, e2, a1, a2, e4, c1, c2, hb]
    exact ⟨_, _, _, _, _, rfl⟩
theorem r_narrow (hn : n.Good) (oa : a.Ok) : Gives (run (PG L) (k + 5)) 32 [n.d, a.d, r.d] (.bl true) := by
  refine gives_of (fd := fd__law_is_narrow) rfl rfl ?_
  obtain ⟨ρ', e, _⟩ := for_loop (F := run (PG L) (k + 4)) (tg := .many [4, 5, 6]) (body := lb__law_is_narrow_1) (sc := false) (S := [])
    (xs := [.tup [.int 0, .str [115, 116, 101, 112, 115], .str [115, 105, 103, 110, 115]], .tup [.int 3, .str [109, 117, 115, 116], .str [102, 114, 101, 101]], .tup [.int 2, .str [117, 110, 116, 105, 108], .str [119, 105, 116, 104]],
      .tup [.int 1, .str [110, 101, 118, 101, 114], .str [116, 111, 108, 100]], .tup [.int 1, .str [116, 111, 108, 100], .str [97, 108, 119, 97, 121, 115]], .tup [.int 4, .str [107, 101, 101, 112], .str [108, 111, 111, 115, 101]], .tup [.int 4, .str [108, 111, 111, 115, 101], .str [110, 111, 110, 101]]])
    (ρ := [some n.d, some a.d, some r.d, some (.tup [.tup [.int 0, .str [115, 116, 101, 112, 115], .str [115, 105, 103, 110, 115]], .tup [.int 3, .str [109, 117, 115, 116], .str [102, 114, 101, 101]], .tup [.int 2, .str [117, 110, 116, 105, 108], .str [119, 105, 116, 104]],
      .tup [.int 1, .str [110, 101, 118, 101, 114], .str [116, 111, 108, 100]], .tup [.int 1, .str [116, 111, 108, 100], .str [97, 108, 119, 97, 121, 115]]]), none, none, none, none]) (IN n a r) ⟨_, _, _, _, _, rfl⟩ (by
    intro x hx ρ h
    simp only [List.mem_cons, List.not_mem_nil, or_false] at hx
    rcases hx with rfl | rfl | rfl | rfl | rfl | rfl | rfl
    · exact narrow_turn (i := 0) (by decide) hn oa h fun e g => wide0 hn.path oa.path e g
    · exact narrow_turn (i := 3) (by decide) hn oa h fun e g => wide3 e g
    · exact narrow_turn (i := 2) (by decide) hn oa h fun e g => wide2 e g
    · exact narrow_turn (i := 1) (by decide) hn oa h fun e g => wide1a e g
    · exact narrow_turn (i := 1) (by decide) hn oa h fun e g => wide1b e g
    · exact narrow_turn (i := 4) (by decide) hn oa h fun e g => wide4a e g
    · exact narrow_turn (i := 4) (by decide) hn oa h fun e g => wide4b e g)
  simp [fd__law_is_narrow, sm__law_is_narrow, add_tup, ex_loop, walkOf, e]
theorem c_narrow {S : Store} (hn : n.Good) (oa : a.Ok) : callF (run (PG L) (k + 5)) 32 [n.d, a.d, r.d] S = .ok (.bl true) S := callF_ok (by simp [D.pureAll, NT.pure, RT.pure, AT.pure]) (r_narrow hn oa) rfl
end Lw
set_option Elab.async false
set_option linter.all false
set_option maxRecDepth 100000
set_option maxHeartbeats 1000000
namespace Lw
open Ev
variable {L : FD} {k : Nat} {r : RT} {n : NT} {a : AT}
theorem sev_sortl {F : Nat → List D → Store → Out D} {ρ : Env} {S : Store} {a b : Ex} {i : Nat} : ev F (.sortl a i b) ρ S = (ev F a ρ S).bind fun x S1 => match listOf S1 x with
    | some xs => (noexc (compLoop (fun x S => if i < ρ.length then (gcO S.length (ev F b (ρ.set i (some x)) S)).bind fun d S2 => (if d.pure then .ok (some d) S2 else .bad) else .bad) xs S1)).bind fun ks S2 => sortedK ks xs S2
    | none => .bad := rfl
/-! a stable sort of anything -/
section
variable {α β : Type}
def insN (le : α → α → Bool) (x : α) : List α → List α
  | [] => [x]
  | y :: ys => if le x y then x :: y :: ys else y :: insN le x ys
def sortN (le : α → α → Bool) : List α → List α
  | [] => []
  | x :: xs => insN le x (sortN le xs)
theorem ins_map (f : α → D) (le : D → D → Bool) (x : α) : ∀ ys : List α, insD le (f x) (ys.map f) = (insN (fun x y => le (f x) (f y)) x ys).map f
  | [] => rfl
  | y :: ys => by
    rw [List.map_cons, insD, insN, ins_map f le x ys]
    split <;> rfl
theorem sort_map (f : α → D) (le : D → D → Bool) : ∀ xs : List α, isort le (xs.map f) = (sortN (fun x y => le (f x) (f y)) xs).map f
  | [] => rfl
  | x :: xs => by rw [List.map_cons, isort, sort_map f le xs, ins_map, sortN]
theorem ins_mem {le : α → α → Bool} {x y : α} : ∀ {ys : List α}, y ∈ insN le x ys ↔ y = x ∨ y ∈ ys
  | [] => by simp [insN]
  | z :: ys => by
    rw [insN]
    split
    · simp
    · rw [List.mem_cons, ins_mem (ys := ys), List.mem_cons]
      grind
theorem sort_mem {le : α → α → Bool} {y : α} : ∀ {xs : List α}, y ∈ sortN le xs ↔ y ∈ xs
  | [] => by simp [sortN]
  | x :: xs => by rw [sortN, ins_mem, sort_mem, List.mem_cons]
theorem ins_len {le : α → α → Bool} {x : α} : ∀ {ys : List α}, (insN le x ys).length = ys.length + 1
  | [] => rfl
  | z :: ys => by
    rw [insN]
    split
    · rfl
    · simp [ins_len (ys := ys)]
theorem sort_len {le : α → α → Bool} : ∀ {xs : List α}, (sortN le xs).length = xs.length
  | [] => rfl
  | x :: xs => by rw [sortN, ins_len, sort_len]; rfl
theorem ins_on {le : β → β → Bool} {le' : α → α → Bool} {f : α → β} {x : α} : ∀ {ys : List α}, (∀ y ∈ ys, le' x y = le (f x) (f y)) → (insN le' x ys).map f = insN le (f x) (ys.map f)
  | [], _ => rfl
  | y :: ys, h => by
    rw [List.map_cons, insN, insN, h y List.mem_cons_self]
    split
    · rfl
    · rw [List.map_cons, ins_on fun z hz => h z (List.mem_cons_of_mem _ hz)]
theorem sort_on {le : β → β → Bool} {le' : α → α → Bool} {f : α → β} : ∀ {xs : List α}, xs.Pairwise (fun x y => le' x y = le (f x) (f y)) → (sortN le' xs).map f = sortN le (xs.map f)
  | [], _ => rfl
  | x :: xs, h => by
    rw [List.pairwise_cons] at h
    rw [sortN, List.map_cons, sortN, ← sort_on h.2, ins_on fun y hy => h.1 y (sort_mem.mp hy)]
theorem sort_id {le : α → α → Bool} (h : ∀ x y, le x y = true) : ∀ xs : List α, sortN le xs = xs
  | [] => rfl
  | x :: xs => by
    rw [sortN, sort_id h xs]
    cases xs with
    | nil => rfl
    | cons y ys => rw [insN, if_pos (h x y)]
end
theorem zipD_map {α : Type} (f g : α → D) : ∀ xs : List α, zipD (xs.map f) (xs.map g) = xs.map fun x => .tup [f x, g x]
  | [] => rfl
  | x :: xs => by rw [List.map_cons, List.map_cons, zipD, zipD_map f g xs, List.map_cons]
/-- sorted by a key -/
theorem sortK_map {α : Type} (f g : α → D) (xs : List α) (h : ∀ x ∈ xs, ∀ y ∈ xs, alikeD (f x) (f y) = true) (h2 : ∀ x ∈ xs, nonempT (f x) = true ∧ (f x).depth ≤ 60) :
    sortKO (xs.map f) (xs.map g) = some ((sortN (fun x y => leD (f x) (f y)) xs).map g) := by
  have e : sortO (xs.map f) = some (isort leD (xs.map f)) := by
    unfold sortO
    rw [if_pos]
    simp only [Bool.and_eq_true, List.all_eq_true, decide_eq_true_eq]
    refine ⟨⟨?_, ?_⟩, ?_⟩
    · intro x hx y hy
      obtain ⟨x', hx', rfl⟩ := List.mem_map.mp hx
      obtain ⟨y', hy', rfl⟩ := List.mem_map.mp hy
      exact h x' hx' y' hy'
    · intro x hx
      obtain ⟨x', hx', rfl⟩ := List.mem_map.mp hx
      exact (h2 x' hx').1
    · intro x hx
      obtain ⟨x', hx', rfl⟩ := List.mem_map.mp hx
      exact (h2 x' hx').2
  unfold sortKO
  rw [e]
  simp only
  rw [zipD_map, sort_map (fun x => .tup [f x, g x]), List.map_map]
  rfl
/-! ### place -/
def placeF (r : RT) (n : NT) : D := if r.r5 = [108, 111, 110, 103] then .tup [.int (0 - (n.path.length : Int)), .str []] else if r.r5 = [110, 97, 109, 101, 115] then .tup [.int 0, .str n.nm] else .tup [.int 0, .str []]
theorem r_place (hn : n.path.length ≤ 1000) : Gives (run (PG L) (k + 1)) 34 [r.d, n.d] (placeF r n) := by
  refine gives_of (fd := fd_place) rfl rfl ?_
  have c1 := fun S => len_str (x := n.path) (S := S) (by omega)
  unfold placeF
  simp [fd_place, sm_place, c1, subD]
  grind
theorem place_pure : (placeF r n).pure = true := by
  unfold placeF
  split
  · rfl
  · split <;> rfl
theorem c_place {S : Store} (hn : n.path.length ≤ 1000) : callF (run (PG L) (k + 1)) 34 [r.d, n.d] S = .ok (placeF r n) S := callF_ok (by simp [D.pureAll, NT.pure, RT.pure]) (r_place hn) place_pure
/-! comprehensions over mapped lists -/
theorem compLoop_map {α : Type} {turn : D → Store → Out (Option D)} {f : α → D} {g : α → Option D} {S : Store} : ∀ {l : List α}, (∀ x ∈ l, turn (f x) S = .ok (g x) S) → compLoop turn (l.map f) S = .ok (l.filterMap g) S
  | [], _ => rfl
  | x :: xs, h => by
    rw [List.map_cons, compLoop, h x List.mem_cons_self]
    simp only [Out.bind]
    rw [compLoop_map fun y hy => h y (List.mem_cons_of_mem _ hy)]
    simp only [List.filterMap_cons]
    cases g x <;> rfl
theorem comp_map {α : Type} {F : Nat → List D → Store → Out D} {elt test : Ex} {tg : Tg} {it : It} {ρ : Env} {S : Store} {l : List α} {f : α → D} {ys : List D} {g : α → Option D} (hi : evIt F it ρ S = .ok ⟨l.map f, none⟩ S) (h : ∀ x ∈ l, compTurn F elt tg test ρ (f x) S = .ok (g x) S)
    (hy : l.filterMap g = ys) (hp : D.pureAll ys = true) (hl : ys.length ≤ 1000000) : ev F (.comp elt tg it test) ρ S = .ok (.loc S.length) (S ++ [.lst ys]) := by
  rw [ev_comp, hi]
  simp only [Out.bind]
  rw [compLoop_map h, hy]
  simp only [noexc, lockEnd, unlock, newL]
  rw [if_pos]
  rw [hp]
  exact decide_eq_true (by unfold lineN; omega)
theorem pureAll_map {α : Type} {f : α → D} : ∀ {l : List α}, (∀ x ∈ l, (f x).pure = true) → D.pureAll (l.map f) = true
  | [], _ => rfl
  | x :: xs, h => by rw [List.map_cons, D.pureAll, h x List.mem_cons_self, pureAll_map fun y hy => h y (List.mem_cons_of_mem _ hy)]; rfl
theorem sortl_ok {α : Type} {F : Nat → List D → Store → Out D} {ρ : Env} {S : Store} {f g : α → D} {i m v : Nat} {b : Ex} {xs : List α} (hv : ρ[v]? = some (some (.loc m))) (hm : S[m]? = some (.lst (xs.map g))) (hi : i < ρ.length)
    (hb : ∀ x ∈ xs, gcO S.length (ev F b (ρ.set i (some (g x))) S) = .ok (f x) S) (hp : ∀ x ∈ xs, (f x).pure = true) (ha : ∀ x ∈ xs, ∀ y ∈ xs, alikeD (f x) (f y) = true) (h2 : ∀ x ∈ xs, nonempT (f x) = true ∧ (f x).depth ≤ 60) (hg : ∀ x ∈ xs, (g x).pure = true) (hl : xs.length ≤ 1000000) :
    ev F (.sortl (.var v) i b) ρ S = .ok (.loc S.length) (S ++ [.lst ((sortN (fun x y => leD (f x) (f y)) xs).map g)]) := by
  rw [sev_sortl, sev_var, hv]
  simp only [ok_bind]
  have e : listOf S (.loc m) = some (xs.map g) := by simp only [listOf]; rw [hm]
  rw [e]
  simp only
  rw [compLoop_map (g := fun x => some (f x)) (fun x hx => by rw [if_pos hi, hb x hx]; simp only [ok_bind]; rw [if_pos (hp x hx)])]
  simp only [noexc, ok_bind]
  have e2 : (xs.filterMap fun x => some (f x)) = xs.map f := by rw [← List.filterMap_eq_map]; rfl
  rw [e2]
  unfold sortedK
  rw [sortK_map f g xs ha h2]
  simp only
  refine newL_ok (pureAll_map fun x hx => hg x (sort_mem.mp hx)) ?_
  rw [List.length_map, sort_len]; exact hl
theorem place_alike (x y : NT) : alikeD (placeF r x) (placeF r y) = true := by
  unfold placeF
  split
  · rfl
  · split <;> rfl
theorem place_fine (x : NT) : nonempT (placeF r x) = true ∧ (placeF r x).depth ≤ 60 := by
  unfold placeF
  split
  · exact ⟨rfl, by simp [D.depth, D.depthAll]⟩
  · split <;> exact ⟨rfl, by simp [D.depth, D.depthAll]⟩
theorem gc_one {xs : List D} : gc 0 (.loc 0) [.lst xs] = .ok (.loc 0) [.lst xs] := gc_lst (S := []) rfl
/-! ### sent -/
def sentF (r : RT) (ns : List NT) (a : AT) : List NT := sortN (fun x y => leD (placeF r x) (placeF r y)) (ns.filter fun n => goesF r n a)
def pairD (n : NT) : D := .tup [.str n.nm, .str n.vl]
theorem sent_mem {ns : List NT} (h : n ∈ sentF r ns a) : n ∈ ns ∧ goesF r n a = true := by
  unfold sentF at h
  rw [sort_mem, List.mem_filter] at h
  exact h
theorem sent_len {ns : List NT} : (sentF r ns a).length ≤ ns.length := by
  unfold sentF
  rw [sort_len]
  exact List.length_filter_le _ _
theorem walk_new {S : Store} {xs : List D} (hc : closedS S.length S = true) : walkOf S.length (.loc S.length) (S ++ [.lst xs]) = .ok ⟨xs, none⟩ S := by
  unfold walkOf
  simp [hc]
theorem closed_lst (xs : List D) (n : Nat) : closedS n [.lst xs] = true := rfl
theorem r_sent {ns : List NT} (hn : ∀ n ∈ ns, n.Good) (oa : a.Ok) (hl : ns.length ≤ 1000) : Gives (run (PG L) (k + 5)) 35 [r.d, .tup (ns.map NT.d), a.d] (.tup ((sentF r ns a).map pairD)) := by
  refine gives_of (fd := fd_sent) rfl rfl ?_
  have e1 : ev (run (PG L) (k + 4)) (.comp ce_sent_1 (.one 4) (.of (.var 1)) (.call 23 (.cons (.var 0) (.cons (.var 4) (.cons (.var 2) .nil))))) [some r.d, some (.tup (ns.map NT.d)), some a.d, none, none] [] = .ok (.loc 0) [.lst ((ns.filter fun n => goesF r n a).map NT.d)] := by
    refine comp_map (l := ns) (f := NT.d) (g := fun n => if goesF r n a = true then some n.d else none) rfl (fun n h => ?_) ?_ (pureAll_map fun _ _ => NT.pure _) (by rw [List.length_map]; have := List.length_filter_le (fun n => goesF r n a) ns; omega)
    · have c1 := fun S => c_goes (L := L) (k := k) (r := r) (S := S) (hn n h) oa
      simp [compTurn, ce_sent_1, c1]
      cases goesF r n a <;> simp [NT.pure]
    · clear hn hl
      induction ns with
      | nil => rfl
      | cons x xs ih =>
        rw [List.filterMap_cons, List.filter_cons, ih]
        cases goesF r x a <;> rfl
  have e2 : ev (run (PG L) (k + 4)) (.sortl (.var 3) 4 (.call 34 (.cons (.var 0) (.cons (.var 4) .nil)))) [some r.d, some (.tup (ns.map NT.d)), some a.d, some (.loc 0), none] [.lst ((ns.filter fun n => goesF r n a).map NT.d)] = .ok (.loc 1) [.lst ((ns.filter fun n => goesF r n a).map NT.d), .lst ((sentF r ns a).map NT.d)] := by
    refine sortl_ok (f := placeF r) (g := NT.d) (xs := ns.filter fun n => goesF r n a) (m := 0) rfl rfl (by simp) (fun n h => ?_) (fun _ _ => place_pure) (fun x _ y _ => place_alike x y) (fun x _ => place_fine x) (fun _ _ => NT.pure _) (by have := List.length_filter_le (fun n => goesF r n a) ns; omega)
    have hp := (hn n (List.mem_filter.mp h).1).path.len
    have c1 := fun S => c_place (L := L) (k := k + 3) (r := r) (n := n) (S := S) (by omega)
    simp [c1]
  have e3 : ev (run (PG L) (k + 4)) (.comp ce_sent_2 (.one 4) (.of (.sortl (.var 3) 4 (.call 34 (.cons (.var 0) (.cons (.var 4) .nil))))) (.dat (.bl true))) [some r.d, some (.tup (ns.map NT.d)), some a.d, some (.loc 0), none] [.lst ((ns.filter fun n => goesF r n a).map NT.d)] = .ok (.loc 1) [.lst ((ns.filter fun n => goesF r n a).map NT.d), .lst ((sentF r ns a).map pairD)] := by
    refine comp_map (l := sentF r ns a) (f := NT.d) (g := fun n => some (pairD n)) ?_ (fun n h => ?_) (by rw [← List.filterMap_eq_map]; rfl) (pureAll_map fun _ _ => rfl) (by rw [List.length_map]; have := sent_len (r := r) (a := a) (ns := ns); omega)
    · show (ev _ _ _ _).bind _ = _
      rw [e2]
      exact walk_new (S := [.lst ((ns.filter fun n => goesF r n a).map NT.d)]) rfl
    · simp [compTurn, ce_sent_2, NT.d, cutL, cutIx, pairD, slcD]
      rfl
  simp [fd_sent, sm_sent, e1, e3, gc_one]
theorem pairs_pure {ns : List NT} : D.pure (.tup (ns.map pairD)) = true := by rw [D.pure]; exact pureAll_map fun _ _ => rfl
theorem notes_pure {ns : List NT} : D.pure (.tup (ns.map NT.d)) = true := by rw [D.pure]; exact pureAll_map fun _ _ => NT.pure _
theorem c_sent {ns : List NT} {S : Store} (hn : ∀ n ∈ ns, n.Good) (oa : a.Ok) (hl : ns.length ≤ 1000) : callF (run (PG L) (k + 5)) 35 [r.d, .tup (ns.map NT.d), a.d] S = .ok (.tup ((sentF r ns a).map pairD)) S := callF_ok (by simp [D.pureAll, notes_pure, RT.pure, AT.pure]) (r_sent hn oa hl) pairs_pure
theorem comp_lockM {α : Type} {F : Nat → List D → Store → Out D} {elt test : Ex} {tg : Tg} {i j : Nat} {ρ : Env} {S : Store} {l : List α} {f : α → D} {ys : List D} {g : α → Option D} (hi : ρ[i]? = some (some (.loc j))) (hj : S[j]? = some (.lst (l.map f))) (h : ∀ x ∈ l, compTurn F elt tg test ρ (f x) (S.set j (.frz (l.map f))) = .ok (g x) (S.set j (.frz (l.map f))))
    (hy : l.filterMap g = ys) (hp : D.pureAll ys = true) (hl : ys.length ≤ 1000000) : ev F (.comp elt tg (.of (.var i)) test) ρ S = .ok (.loc S.length) (S ++ [.lst ys]) := by
  have hlt : j < S.length := (List.getElem?_eq_some_iff.mp hj).1
  rw [ev_comp, evIt, ev, hi]
  simp only [ok_bind]
  rw [walk_lock hj hlt]
  simp only [ok_bind]
  rw [compLoop_map h, hy]
  have e : unlock (some j) (S.set j (.frz (l.map f))) = S := by
    unfold unlock
    dsimp only
    rw [List.getElem?_set_self hlt]
    simp only [unlockO, List.set_set]
    apply List.ext_getElem?
    intro m
    by_cases hm : j = m
    · subst hm
      rw [List.getElem?_set_self hlt, hj]
    · rw [List.getElem?_set_ne hm]
  simp only [noexc, lockEnd, ok_bind, newL, e]
  rw [if_pos]
  rw [hp, show szOk ys.length = true from decide_eq_true (by unfold lineN; omega)]
  rfl
/-! ### _law_sent -/
theorem numbered_map {α : Type} (f : α → D) : ∀ (l : List α) (i : Nat), numbered i (l.map f) = (l.zipIdx i).map fun p => .tup [.int p.2, f p.1]
  | [], _ => rfl
  | x :: l, i => by rw [List.map_cons, numbered, numbered_map f l, List.zipIdx_cons, List.map_cons]
def rowD (p : NT × Nat) : D := .tup [p.1.d, .int p.2]
def rowsF (r : RT) (ns : List NT) (a : AT) : List (NT × Nat) := ns.zipIdx.filter fun p => goesF r p.1 a
theorem rows_fst {ns : List NT} : (rowsF r ns a).map (·.1) = ns.filter fun n => goesF r n a := by
  unfold rowsF
  have : ∀ i, ((ns.zipIdx i).filter fun p => goesF r p.1 a).map (·.1) = ns.filter fun n => goesF r n a := by
    induction ns with
    | nil => intro i; rfl
    | cons x xs ih =>
      intro i
      rw [List.zipIdx_cons, List.filter_cons, List.filter_cons]
      cases goesF r x a <;> simp [ih]
  exact this 0
theorem rows_up {ns : List NT} : (rowsF r ns a).Pairwise fun p q => p.2 < q.2 := by
  unfold rowsF
  refine List.Pairwise.filter _ ?_
  have : ∀ i, (ns.zipIdx i).Pairwise fun p q => p.2 < q.2 := by
    induction ns with
    | nil => intro i; exact List.Pairwise.nil
    | cons x xs ih =>
      intro i
      rw [List.zipIdx_cons, List.pairwise_cons]
      refine ⟨fun q hq => ?_, ih (i + 1)⟩
      have := List.le_snd_of_mem_zipIdx hq
      show i < q.2
      omega
  exact this 0
def keyL (p : NT × Nat) : D := .tup [.int (0 - (p.1.path.length : Int)), .int p.2]
def keyN (p : NT × Nat) : D := .tup [.str p.1.nm, .int p.2]
theorem le_pair1 {x y : Int} {i j : Nat} (h : i < j) : leD (.tup [.int x, .int i]) (.tup [.int y, .int j]) = leD (.tup [.int x, .str []]) (.tup [.int y, .str []]) := by
  unfold leD
  by_cases e : y = x
  · subst e
    have h1 : ¬ (j : Int) = i := by omega
    simp [ltD, ltDs, eqD, ltN, h1]
    omega
  · simp [ltD, ltDs, eqD, e]
theorem le_pair2 {x y : List Nat} {i j : Nat} (h : i < j) : leD (.tup [.str x, .int i]) (.tup [.str y, .int j]) = leD (.tup [.int 0, .str x]) (.tup [.int 0, .str y]) := by
  have l0 : ∀ z : List Nat, ltN z z = false := by
    intro z
    induction z with
    | nil => rfl
    | cons c z ih => simp [ltN, ih]
  unfold leD
  by_cases e : y = x
  · subst e
    have h1 : ¬ (j : Int) = i := by omega
    simp [ltD, ltDs, eqD, h1, l0]
    omega
  · simp [ltD, ltDs, eqD, e]
theorem long_sort {ns : List NT} (h : r.r5 = [108, 111, 110, 103]) : (sortN (fun x y => leD (keyL x) (keyL y)) (rowsF r ns a)).map (·.1) = sentF r ns a := by
  rw [sort_on (le := fun x y => leD (placeF r x) (placeF r y)) (f := fun p : NT × Nat => p.1), rows_fst]
  · rfl
  · refine rows_up.imp ?_
    intro p q hpq
    unfold placeF keyL
    rw [if_pos h, if_pos h]
    exact le_pair1 hpq
theorem names_sort {ns : List NT} (h : r.r5 = [110, 97, 109, 101, 115]) : (sortN (fun x y => leD (keyN x) (keyN y)) (rowsF r ns a)).map (·.1) = sentF r ns a := by
  rw [sort_on (le := fun x y => leD (placeF r x) (placeF r y)) (f := fun p : NT × Nat => p.1), rows_fst]
  · rfl
  · refine rows_up.imp ?_
    intro p q hpq
    unfold placeF keyN
    have h' : ¬ r.r5 = [108, 111, 110, 103] := by rw [h]; decide
    rw [if_neg h', if_neg h', if_pos h, if_pos h]
    exact le_pair2 hpq
theorem old_sort {ns : List NT} (h1 : r.r5 ≠ [108, 111, 110, 103]) (h2 : r.r5 ≠ [110, 97, 109, 101, 115]) : (rowsF r ns a).map (·.1) = sentF r ns a := by
  rw [rows_fst]
  unfold sentF
  rw [sort_id]
  intro x y
  unfold placeF
  rw [if_neg h1, if_neg h2, if_neg h1, if_neg h2]
  rfl
theorem rows_len {ns : List NT} : (rowsF r ns a).length ≤ ns.length := by
  unfold rowsF
  have := List.length_filter_le (fun p : NT × Nat => goesF r p.1 a) ns.zipIdx
  rw [List.length_zipIdx] at this
  exact this
theorem rows_mem {ns : List NT} {p : NT × Nat} (h : p ∈ rowsF r ns a) : p.1 ∈ ns := by
  unfold rowsF at h
  have := (List.mem_filter.mp h).1
  exact (List.mem_zipIdx this).2.2 ▸ List.getElem_mem _
theorem rowD_pure (p : NT × Nat) : (rowD p).pure = true := by simp [rowD, D.pure, D.pureAll, NT.pure]
theorem ls_sort1 {ns : List NT} {F : Nat → List D → Store → Out D} {v4 v5 v6 : Option D} (hn : ∀ n ∈ ns, n.Good) (hl : ns.length ≤ 1000) :
    ev F (Ex.sortl (Ex.var 3) 6 (Ex.tup (Exs.cons (Ex.bin Bop.sub (Ex.dat (D.int 0)) (Ex.bi Bi.len (Exs.cons (Ex.idx (Ex.idx (Ex.var 6) (Ex.dat (D.int 0))) (Ex.dat (D.int 4))) Exs.nil))) (Exs.cons (Ex.idx (Ex.var 6) (Ex.dat (D.int 1))) Exs.nil))))
      [some r.d, some (.tup (ns.map NT.d)), some a.d, some (.loc 0), v4, v5, v6] [.lst ((rowsF r ns a).map rowD)] = .ok (.loc 1) [.lst ((rowsF r ns a).map rowD), .lst ((sortN (fun x y => leD (keyL x) (keyL y)) (rowsF r ns a)).map rowD)] := by
  have hr := rows_len (r := r) (a := a) (ns := ns)
  refine sortl_ok (f := keyL) (g := rowD) (xs := rowsF r ns a) (m := 0) rfl rfl (by simp) (fun p h => ?_) (fun _ _ => rfl) (fun x _ y _ => rfl) (fun x _ => ⟨rfl, by simp [keyL, D.depth, D.depthAll]⟩) (fun _ _ => rowD_pure _) (by omega)
  have hp := (hn p.1 (rows_mem h)).path.len
  have c1 := fun S => len_str (x := p.1.path) (S := S) (by omega)
  simp [rowD, keyL, NT.d, idxD, atZ, retO, c1, subD]
theorem ls_sort2 {ns : List NT} {F : Nat → List D → Store → Out D} {v4 v5 v6 : Option D} (hl : ns.length ≤ 1000) :
    ev F (Ex.sortl (Ex.var 3) 6 (Ex.tup (Exs.cons (Ex.idx (Ex.idx (Ex.var 6) (Ex.dat (D.int 0))) (Ex.dat (D.int 0))) (Exs.cons (Ex.idx (Ex.var 6) (Ex.dat (D.int 1))) Exs.nil))))
      [some r.d, some (.tup (ns.map NT.d)), some a.d, some (.loc 0), v4, v5, v6] [.lst ((rowsF r ns a).map rowD)] = .ok (.loc 1) [.lst ((rowsF r ns a).map rowD), .lst ((sortN (fun x y => leD (keyN x) (keyN y)) (rowsF r ns a)).map rowD)] := by
  have hr := rows_len (r := r) (a := a) (ns := ns)
  refine sortl_ok (f := keyN) (g := rowD) (xs := rowsF r ns a) (m := 0) rfl rfl (by simp) (fun p h => ?_) (fun _ _ => rfl) (fun x _ y _ => rfl) (fun x _ => ⟨rfl, by simp [keyN, D.depth, D.depthAll]⟩) (fun _ _ => rowD_pure _) (by omega)
  simp [rowD, keyN, NT.d, idxD, atZ, retO]
theorem ls_out {F : Nat → List D → Store → Out D} {ρ : Env} {S : Store} {j : Nat} {l : List (NT × Nat)} (h3 : ρ[3]? = some (some (.loc j))) (hj : S[j]? = some (.lst (l.map rowD))) (h4 : ρ.length = 7) (hl : l.length ≤ 1000000) : ev F (.comp ce__law_sent_2 (.many [5, 4]) (.of (.var 3)) (.dat (.bl true))) ρ S = .ok (.loc S.length) (S ++ [.lst ((l.map (·.1)).map pairD)]) := by
  refine comp_lockM (l := l) (f := rowD) (g := fun p => some (pairD p.1)) h3 hj (fun p hp => ?_) (by rw [List.map_map, ← List.filterMap_eq_map]; rfl) (pureAll_map fun _ _ => rfl) (by rw [List.length_map, List.length_map]; exact hl)
  simp [compTurn, ce__law_sent_2, rowD, putTg, setAll, h4, NT.d, pairD, idxD, atZ, retO, D.pure, D.pureAll]
theorem gc_two {xs ys : List D} : gc 1 (.loc 1) [.lst xs, .lst ys] = .ok (.loc 1) [.lst xs, .lst ys] := gc_lst (S := [.lst xs]) rfl
theorem r_lsent {ns : List NT} (hr : r.Ok) (hn : ∀ n ∈ ns, n.Good) (oa : a.Ok) (hl : ns.length ≤ 1000) : Gives (run (PG L) (k + 4)) 40 [r.d, .tup (ns.map NT.d), a.d] (.tup ((sentF r ns a).map pairD)) := by
  refine gives_of (fd := fd__law_sent) rfl rfl ?_
  have hrl := rows_len (r := r) (a := a) (ns := ns)
  have e1 : ev (run (PG L) (k + 3)) (.comp ce__law_sent_1 (.many [4, 5]) (.enum (.var 1)) (.cmp .is (.call 31 (.cons (.var 0) (.cons (.var 5) (.cons (.var 2) .nil)))) (.dat .non))) [some r.d, some (.tup (ns.map NT.d)), some a.d, none, none, none, none] [] = .ok (.loc 0) [.lst ((rowsF r ns a).map rowD)] := by
    refine comp_map (l := ns.zipIdx) (f := fun p => .tup [.int p.2, p.1.d]) (g := fun p => if goesF r p.1 a = true then some (rowD p) else none) ?_ (fun p h => ?_) ?_ (pureAll_map fun _ _ => rowD_pure _) (by rw [List.length_map]; omega)
    · rw [evIt, sev_var]
      simp [enumOf, numbered_map]
    · have hp : p.1 ∈ ns := (List.mem_zipIdx h).2.2 ▸ List.getElem_mem _
      have c1 := fun S => c_lwhy (L := L) (k := k) (r := r) (S := S) hr (hn _ hp) oa
      simp [compTurn, ce__law_sent_1, c1, putTg, setAll, goesF]
      cases whyNot r p.1 a <;> simp [rowD, NT.pure, D.pure, D.pureAll, orgD]
    · unfold rowsF
      induction ns.zipIdx with
      | nil => rfl
      | cons x xs ih =>
        rw [List.filterMap_cons, List.filter_cons, ih]
        cases goesF r x.1 a <;> rfl
  have e2 := fun v4 v5 v6 => ls_sort1 (r := r) (a := a) (F := run (PG L) (k + 3)) (v4 := v4) (v5 := v5) (v6 := v6) hn hl
  have e3 := fun v4 v5 v6 => ls_sort2 (r := r) (a := a) (F := run (PG L) (k + 3)) (ns := ns) (v4 := v4) (v5 := v5) (v6 := v6) hl
  by_cases h1 : r.r5 = [108, 111, 110, 103]
  · have h2 : ¬ r.r5 = [110, 97, 109, 101, 115] := by rw [h1]; decide
    have e4 := ls_out (F := run (PG L) (k + 3)) (ρ := [some r.d, some (.tup (ns.map NT.d)), some a.d, some (.loc 1), none, none, none]) (j := 1) (S := [.lst ((rowsF r ns a).map rowD), .lst ((sortN (fun x y => leD (keyL x) (keyL y)) (rowsF r ns a)).map rowD)]) rfl rfl rfl (by rw [sort_len]; omega)
    rw [long_sort h1] at e4
    simp [fd__law_sent, sm__law_sent, e1, gc_one, h1, e2, gc_two, e4]
  · by_cases h2 : r.r5 = [110, 97, 109, 101, 115]
    · have e4 := ls_out (F := run (PG L) (k + 3)) (ρ := [some r.d, some (.tup (ns.map NT.d)), some a.d, some (.loc 1), none, none, none]) (j := 1) (S := [.lst ((rowsF r ns a).map rowD), .lst ((sortN (fun x y => leD (keyN x) (keyN y)) (rowsF r ns a)).map rowD)]) rfl rfl rfl (by rw [sort_len]; omega)
      rw [names_sort h2] at e4
      simp [fd__law_sent, sm__law_sent, e1, gc_one, h2, e3, gc_two, e4]
    · have e4 := ls_out (F := run (PG L) (k + 3)) (ρ := [some r.d, some (.tup (ns.map NT.d)), some a.d, some (.loc 0), none, none, none]) (j := 0) (S := [.lst ((rowsF r ns a).map rowD)]) rfl rfl rfl (by omega)
      rw [old_sort h1 h2] at e4
      have h1' : (r.r5 == [108, 111, 110, 103]) = false := beq_eq_false_iff_ne.mpr h1
      have h2' : (r.r5 == [110, 97, 109, 101, 115]) = false := beq_eq_false_iff_ne.mpr h2
      simp [fd__law_sent, sm__law_sent, e1, gc_one, h1', h2', e4]
theorem c_lsent {ns : List NT} {S : Store} (hr : r.Ok) (hn : ∀ n ∈ ns, n.Good) (oa : a.Ok) (hl : ns.length ≤ 1000) : callF (run (PG L) (k + 4)) 40 [r.d, .tup (ns.map NT.d), a.d] S = .ok (.tup ((sentF r ns a).map pairD)) S := callF_ok (by simp [D.pureAll, notes_pure, RT.pure, AT.pure]) (r_lsent hr hn oa hl) pairs_pure
end Lw
set_option Elab.async false
set_option linter.all false
set_option maxRecDepth 100000
set_option maxHeartbeats 1000000
namespace Lw
open Ev
variable {L : FD} {k : Nat} {r : RT} {n : NT} {a : AT}
/-! ### exceptions -/
section
variable {F : Nat → List D → Store → Out D} {ρ : Env} {S : Store}
@[simp] theorem sev_isx {c : Nat} : ev F (.isx c) ρ S = F (1000 + c) [] S := rfl
@[simp] theorem sev_callx {f : Nat} : ev F (.callx f) ρ S = callF F (2000 + f) [] S := rfl
@[simp] theorem sex_raise {c : Nat} : ex F (.raise c) ρ S = .exc c ρ S := by rw [ex]
@[simp] theorem seq_exc {c : Nat} {k : Env → Store → SOut} : SOut.seq (.exc c ρ S) k = .exc c ρ S := rfl
@[simp] theorem seq_bad {k : Env → Store → SOut} : SOut.seq .bad k = .bad := rfl
@[simp] theorem endD_exc {c : Nat} : endD (.exc c ρ S) = .exc c S := rfl
/-- try -/
def tryK (F : Nat → List D → Store → Out D) (c i : Nat) (h : Sms) : SOut → SOut
  | .exc e ρ1 S1 => if subC e c then (if i < ρ1.length then hotEnd (some i) (exs (hotF e F) h (ρ1.set i none) S1) else .bad) else .exc e ρ1 S1
  | o => o
@[simp] theorem sex_try {b h : Sms} {c i : Nat} : ex F (.tryAs b c i h) ρ S = tryK F c i h (exs F b ρ S) := by
  rw [ex]
  cases exs F b ρ S <;> rfl
@[simp] theorem tryK_rt {c i : Nat} {h : Sms} {d : D} : tryK F c i h (.rt d S) = .rt d S := rfl
@[simp] theorem tryK_nx {c i : Nat} {h : Sms} : tryK F c i h (.nx ρ S) = .nx ρ S := rfl
@[simp] theorem tryK_exc {e c i : Nat} {h : Sms} : tryK F c i h (.exc e ρ S) = if subC e c then (if i < ρ.length then hotEnd (some i) (exs (hotF e F) h (ρ.set i none) S) else .bad) else .exc e ρ S := rfl
@[simp] theorem hotEnd_rt {i : Option Nat} {d : D} : hotEnd i (.rt d S) = .rt d S := rfl
@[simp] theorem hotEnd_nx {i : Nat} : hotEnd (some i) (.nx ρ S) = .nx (ρ.set i none) S := rfl
@[simp] theorem bind_exc {α β : Type} {c : Nat} {f : α → Store → Out β} : (Out.exc c S : Out α).bind f = .exc c S := rfl
@[simp] theorem thn_exc {α : Type} {c : Nat} {f : α → Store → SOut} : Out.thn ρ (.exc c S : Out α) f = .exc c ρ S := rfl
end
theorem run_hot {P : Nat → Option FD} {k f g c : Nat} {fd : FD} (h1 : P f = none) (h2 : (f - 2000) % 100 = g) (h3 : (f - 2000) / 100 = c) (h4 : 2000 ≤ f) (h5 : P g = some fd) (h6 : fd.np = 1) :
    run P (k + 1) f [] [] = noexc (endD (exs (hotF c (run P k)) fd.body (start0 fd.ns []) [])) := by
  rw [run, h1]
  simp only
  rw [h2, h5, h3]
  simp only
  rw [if_pos (by rw [h6]; simpa using h4)]
def wordF : Nat → List Nat
  | 2 => [110, 111, 32, 110, 111, 116, 101]
  | 3 => [102, 117, 108, 108]
  | 4 => [110, 111, 32, 114, 117, 108, 101, 115]
  | 5 => [110, 111, 116, 32, 116, 104, 101, 105, 114, 115]
  | 6 => [110, 111, 32, 100, 101, 101, 100]
  | 7 => [110, 111, 32, 116, 101, 120, 116]
  | _ => [119, 114, 111, 110, 103]
theorem w_word {F : Nat → List D → Store → Out D} {c : Nat} (h : c = 2 ∨ c = 3 ∨ c = 4 ∨ c = 5 ∨ c = 6 ∨ c = 7) : ∃ S', exs (hotF c F) fd__law_word.body [none, none] [] = .rt (.str (wordF c)) S' := by
  rcases h with rfl | rfl | rfl | rfl | rfl | rfl <;> exact ⟨_, rfl⟩
theorem c_word {c : Nat} {S : Store} (h : c = 2 ∨ c = 3 ∨ c = 4 ∨ c = 5 ∨ c = 6 ∨ c = 7) : callF (hotF c (run (PG L) (k + 1))) 2041 [] S = .ok (.str (wordF c)) S := by
  refine callF_ok rfl ?_ rfl
  obtain ⟨S', e⟩ := w_word (F := run (PG L) k) h
  refine ⟨S', ?_⟩
  have : hotF c (run (PG L) (k + 1)) 2041 [] [] = run (PG L) (k + 1) (2000 + 100 * c + 41) [] [] := rfl
  rw [this, run_hot (g := 41) (c := c) (fd := fd__law_word) (by rcases h with rfl | rfl | rfl | rfl | rfl | rfl <;> rfl) (by omega) (by omega) (by omega) rfl rfl]
  show noexc (endD (exs (hotF c (run (PG L) k)) fd__law_word.body [none, none] [])) = _
  rw [e]
  rfl
/-! ### reasons -/
theorem r_reasons {ns : List NT} (hn : ∀ n ∈ ns, n.Good) (oa : a.Ok) (hl : ns.length ≤ 1000) : Gives (run (PG L) (k + 4)) 36 [r.d, .tup (ns.map NT.d), a.d] (.tup (ns.map fun n => orgD (whyNot r n a))) := by
  refine gives_of (fd := fd_reasons) rfl rfl ?_
  have e1 : ev (run (PG L) (k + 3)) (.comp ce_reasons_1 (.one 3) (.of (.var 1)) (.dat (.bl true))) [some r.d, some (.tup (ns.map NT.d)), some a.d, none] [] = .ok (.loc 0) [.lst (ns.map fun n => orgD (whyNot r n a))] := by
    refine comp_map (l := ns) (f := NT.d) (g := fun n => some (orgD (whyNot r n a))) rfl (fun n h => ?_) (by rw [← List.filterMap_eq_map]; rfl) (pureAll_map fun _ _ => by simp) (by rw [List.length_map]; omega)
    have c1 := fun S => c_why (L := L) (k := k) (r := r) (S := S) (hn n h) oa
    simp [compTurn, ce_reasons_1, c1]
  simp [fd_reasons, sm_reasons, e1]
theorem c_reasons {ns : List NT} {S : Store} (hn : ∀ n ∈ ns, n.Good) (oa : a.Ok) (hl : ns.length ≤ 1000) : callF (run (PG L) (k + 4)) 36 [r.d, .tup (ns.map NT.d), a.d] S = .ok (.tup (ns.map fun n => orgD (whyNot r n a))) S := callF_ok (by simp [D.pureAll, notes_pure, RT.pure, AT.pure]) (r_reasons hn oa hl) (by rw [D.pure]; exact pureAll_map fun _ _ => by simp)
/-! ### head_of, head -/
def bitF (n : NT) : List Nat := n.nm ++ [61] ++ n.vl
def headF (ms : List NT) : List Nat := joinN [59, 32] (ms.map bitF)
structure NT.Sm (n : NT) : Prop where
  nm : n.nm.length ≤ 10
  vl : n.vl.length ≤ 10
theorem strs_of : ∀ l : List (List Nat), strsOf (l.map D.str) = some l
  | [] => rfl
  | x :: l => by rw [List.map_cons, strsOf, strs_of l]; rfl
theorem bits_sum : ∀ {ms : List NT}, (∀ n ∈ ms, n.Sm) → ((ms.map bitF).map List.length).sum ≤ 21 * ms.length
  | [], _ => by simp
  | n :: ms, h => by
    have := bits_sum fun m hm => h m (List.mem_cons_of_mem _ hm)
    have h1 := (h n List.mem_cons_self).nm
    have h2 := (h n List.mem_cons_self).vl
    simp only [List.map_cons, List.sum_cons, bitF, List.length_append, List.length_cons, List.length_nil]
    omega
theorem r_head_of {ms : List NT} (hs : ∀ n ∈ ms, n.Sm) (hl : ms.length ≤ 1000) : Gives (run (PG L) (k + 1)) 37 [.tup (ms.map pairD)] (.str (headF ms)) := by
  refine gives_of (fd := fd_head_of) rfl rfl ?_
  have e1 : ev (run (PG L) k) (.comp ce_head_of_1 (.many [1, 2]) (.of (.var 0)) (.dat (.bl true))) [some (.tup (ms.map pairD)), none, none] [] = .ok (.loc 0) [.lst ((ms.map bitF).map .str)] := by
    refine comp_map (l := ms) (f := pairD) (g := fun n => some (.str (bitF n))) rfl (fun n h => ?_) (by rw [List.map_map, ← List.filterMap_eq_map]; rfl) (by rw [List.map_map]; exact pureAll_map fun _ _ => rfl) (by rw [List.length_map, List.length_map]; omega)
    have h1 := (hs n h).nm
    have h2 := (hs n h).vl
    have a1 := fun S => add_str (S := S) (x := n.nm) (y := [61]) (by omega) (by simp)
    have a2 := fun S => add_str (S := S) (x := n.nm ++ [61]) (y := n.vl) (by simp; omega) (by omega)
    simp [compTurn, ce_head_of_1, pairD, putTg, setAll, a1, a2, bitF, -List.append_assoc, D.pure]
  have hb := bits_sum hs
  have j1 : methD .join (.str [59, 32]) [.loc 0] [.lst ((ms.map bitF).map .str)] = .ok (.str (headF ms)) [.lst ((ms.map bitF).map .str)] := by
    simp only [methD, one, joinD, seqOf, listOf, List.getElem?_cons_zero, strs_of]
    rw [if_pos]
    · rfl
    · refine decide_eq_true ?_
      simp only [List.length_map, List.length_cons, List.length_nil]
      unfold lineN
      omega
  simp [fd_head_of, sm_head_of, e1, j1, tyOk, isStr, -List.map_map]
theorem c_head_of {ms : List NT} {S : Store} (hs : ∀ n ∈ ms, n.Sm) (hl : ms.length ≤ 1000) : callF (run (PG L) (k + 1)) 37 [.tup (ms.map pairD)] S = .ok (.str (headF ms)) S := callF_ok (by simp [D.pureAll, pairs_pure]) (r_head_of hs hl) rfl
theorem r_head {ns : List NT} (hn : ∀ n ∈ ns, n.Good) (hs : ∀ n ∈ ns, n.Sm) (oa : a.Ok) (hl : ns.length ≤ 1000) : Gives (run (PG L) (k + 6)) 38 [r.d, .tup (ns.map NT.d), a.d] (.str (headF (sentF r ns a))) := by
  refine gives_of (fd := fd_head) rfl rfl ?_
  have c1 := fun S => c_sent (L := L) (k := k) (r := r) (S := S) hn oa hl
  have c2 := fun S => c_head_of (L := L) (k := k + 4) (S := S) (ms := sentF r ns a) (fun n h => hs n (sent_mem h).1) (by have := sent_len (r := r) (a := a) (ns := ns); omega)
  simp [fd_head, sm_head, c1, c2]
theorem c_head {ns : List NT} {S : Store} (hn : ∀ n ∈ ns, n.Good) (hs : ∀ n ∈ ns, n.Sm) (oa : a.Ok) (hl : ns.length ≤ 1000) : callF (run (PG L) (k + 6)) 38 [r.d, .tup (ns.map NT.d), a.d] S = .ok (.str (headF (sentF r ns a))) S := callF_ok (by simp [D.pureAll, notes_pure, RT.pure, AT.pure]) (r_head hn hs oa hl) rfl
/-! ### named, _law_said -/
def namedF (ms : List NT) (nm : List Nat) : Option NT := ms.find? fun n => n.nm == nm
theorem named_loop {F : Nat → List D → Store → Out D} {nm : List Nat} {v0 v1 v2 : Option D} : ∀ (ms : List NT) (v4 v5 : Option D), ∃ w4 w5, forLoop (loopTurn F (.many [4, 5]) lb_named_1 false) (ms.map pairD) [v0, v1, v2, some (.str nm), v4, v5] [] =
    match namedF ms nm with
    | some n => .rt (.str n.vl) []
    | none => .nx [v0, v1, v2, some (.str nm), w4, w5] []
  | [], v4, v5 => ⟨v4, v5, rfl⟩
  | m :: ms, v4, v5 => by
    rw [List.map_cons, pairD, forLoop, turn_many (ρ' := [v0, v1, v2, some (.str nm), some (.str m.nm), some (.str m.vl)]) (by simp [setAll])]
    cases h : (m.nm == nm) with
    | true =>
      refine ⟨none, none, ?_⟩
      simp [lb_named_1, h, namedF, List.find?_cons]
    | false =>
      obtain ⟨w4, w5, e⟩ := named_loop (F := F) (nm := nm) (v0 := v0) (v1 := v1) (v2 := v2) ms (some (.str m.nm)) (some (.str m.vl))
      refine ⟨w4, w5, ?_⟩
      simp [lb_named_1, h, namedF, List.find?_cons]
      exact e
theorem r_named {ns : List NT} {nm : List Nat} (hn : ∀ n ∈ ns, n.Good) (oa : a.Ok) (hl : ns.length ≤ 1000) : run (PG L) (k + 6) 39 [r.d, .tup (ns.map NT.d), a.d, .str nm] [] = match namedF (sentF r ns a) nm with
    | some n => .ok (.str n.vl) []
    | none => .exc 2 [] := by
  rw [run_fd (fd := fd_named) rfl rfl]
  have c1 := fun S => c_sent (L := L) (k := k) (r := r) (S := S) hn oa hl
  obtain ⟨w4, w5, e⟩ := named_loop (F := run (PG L) (k + 5)) (nm := nm) (v0 := some r.d) (v1 := some (.tup (ns.map NT.d))) (v2 := some a.d) (sentF r ns a) none none
  have ei : evIt (run (PG L) (k + 5)) (.of (.call 35 (.cons (.var 0) (.cons (.var 1) (.cons (.var 2) .nil))))) [some r.d, some (.tup (ns.map NT.d)), some a.d, some (.str nm), none, none] [] = .ok ⟨(sentF r ns a).map pairD, none⟩ [] := by
    rw [evIt]
    simp [c1, walkOf]
  show endD (exs _ sm_named _ _) = _
  simp only [sm_named, exs_cons', ex_loop, start0_eq, fd_named]
  have hst : [r.d, D.tup (ns.map NT.d), a.d, D.str nm].map some ++ List.replicate (6 - [r.d, D.tup (ns.map NT.d), a.d, D.str nm].length) none = [some r.d, some (.tup (ns.map NT.d)), some a.d, some (.str nm), none, none] := rfl
  rw [hst, ei]
  simp only [ok_thn, e]
  cases namedF (sentF r ns a) nm with
  | some n => rfl
  | none => simp [lockEndS, unlock]
theorem c_named {ns : List NT} {nm : List Nat} {S : Store} (hn : ∀ n ∈ ns, n.Good) (oa : a.Ok) (hl : ns.length ≤ 1000) : callF (run (PG L) (k + 6)) 39 [r.d, .tup (ns.map NT.d), a.d, .str nm] S = match namedF (sentF r ns a) nm with
    | some n => .ok (.str n.vl) S
    | none => .exc 2 S := by
  unfold callF
  rw [if_pos (by simp [D.pureAll, notes_pure, RT.pure, AT.pure, D.pure]), r_named hn oa hl]
  cases namedF (sentF r ns a) nm with
  | some n => rfl
  | none => rfl
def saidF (ms : List NT) (nm : List Nat) : List Nat := match namedF ms nm with
  | some n => n.vl
  | none => [110, 111, 32, 110, 111, 116, 101]
theorem r_said {ns : List NT} {nm : List Nat} (hn : ∀ n ∈ ns, n.Good) (oa : a.Ok) (hl : ns.length ≤ 1000) : Gives (run (PG L) (k + 7)) 42 [r.d, .tup (ns.map NT.d), a.d, .str nm] (.str (saidF (sentF r ns a) nm)) := by
  refine gives_of (fd := fd__law_said) rfl rfl ?_
  have c1 := fun S => c_named (L := L) (k := k) (r := r) (nm := nm) (S := S) hn oa hl
  have c2 := fun S => c_word (L := L) (k := k + 5) (c := 2) (S := S) (.inl rfl)
  unfold saidF
  cases h : namedF (sentF r ns a) nm with
  | some n =>
    rw [h] at c1
    simp [fd__law_said, sm__law_said, c1]
  | none =>
    rw [h] at c1
    simp [fd__law_said, sm__law_said, c1, c2, subC, wordF]
theorem c_said {ns : List NT} {nm : List Nat} {S : Store} (hn : ∀ n ∈ ns, n.Good) (oa : a.Ok) (hl : ns.length ≤ 1000) : callF (run (PG L) (k + 7)) 42 [r.d, .tup (ns.map NT.d), a.d, .str nm] S = .ok (.str (saidF (sentF r ns a) nm)) S := callF_ok (by simp [D.pureAll, notes_pure, RT.pure, AT.pure, D.pure]) (r_said hn oa hl) rfl
end Lw
set_option Elab.async false
set_option linter.all false
set_option maxRecDepth 100000
set_option maxHeartbeats 1000000
namespace Lw
open Ev
variable {L : FD} {k : Nat} {r : RT} {n : NT} {a : AT}
/-! ### mark, put -/
theorem r_mark43 {n : NT} : Gives (run (PG L) (k + 1)) 43 [n.d] n.mk3 := by
  refine gives_of (fd := fd_mark) rfl rfl ?_
  simp [fd_mark, sm_mark, NT.d, idxD, atZ, retO, NT.mk3]
theorem c_mark43 {n : NT} {S : Store} : callF (run (PG L) (k + 1)) 43 [n.d] S = .ok n.mk3 S := callF_ok (by simp [D.pureAll, NT.pure]) r_mark43 rfl
def posF (ts : List NT) (n : NT) : Option Nat := ts.findIdx? fun m => decide (m.key = n.key)
def putF (ts : List NT) (n : NT) : Option (List NT) := match posF ts n with
  | some j => some (ts.take j ++ [n] ++ ts.drop (j + 1))
  | none => if 5 < ts.length then none else some (ts ++ [n])
theorem find_mk3 (n : NT) : ∀ ts : List NT, (ts.map NT.mk3).findIdx? (fun z => eqD z n.mk3) = posF ts n
  | [] => rfl
  | t :: ts => by
    unfold posF
    rw [List.map_cons, List.findIdx?_cons, List.findIdx?_cons, eqD_mk3]
    have := find_mk3 n ts
    unfold posF at this
    rw [this]
theorem any_mk3 (n : NT) (ts : List NT) : (ts.map NT.mk3).any (fun z => eqD z n.mk3) = (posF ts n).isSome := by
  rw [← find_mk3, List.findIdx?_isSome]
theorem in_mk3 (n : NT) (ts : List NT) : cmpD .isin n.mk3 (.loc 0) [.lst (ts.map NT.mk3)] = .ok (.bl (posF ts n).isSome) [.lst (ts.map NT.mk3)] := by
  rw [← any_mk3]
  rfl
theorem ix_mk3 {n : NT} {ts : List NT} {j : Nat} (h : posF ts n = some j) (hl : ts.length ≤ 1000) : methD .index (.loc 0) [n.mk3] [.lst (ts.map NT.mk3)] = .ok (.int j) [.lst (ts.map NT.mk3)] := by
  simp only [methD, one, lplD]
  have d1 : der [.lst (ts.map NT.mk3)] (.loc 0) = some (.lit (ts.map NT.mk3)) := rfl
  have d2 : der [.lst (ts.map NT.mk3)] n.mk3 = some n.mk3 := rfl
  rw [d1, d2]
  simp only
  rw [find_mk3, h]
  simp only
  rw [if_pos]
  simp [NT.mk3, D.depth, D.depthAll]
  omega
theorem gcK {xs : List D} {d : D} (h : d.pure = true) : gc 1 d [.lst xs] = .ok d [.lst xs] := gc_len rfl
theorem put_cut {ts : List NT} {j : Nat} : cutL (ts.map NT.d) none (some (j : Int)) = (ts.take j).map NT.d := by rw [cut_hi, List.map_take]
theorem put_cut2 {ts : List NT} {j : Nat} (h : j < ts.length) : cutL (ts.map NT.d) (some ((j : Int) + 1)) none = (ts.drop (j + 1)).map NT.d := by
  have e1 : ¬ ((j : Int) + 1 < 0) := by omega
  have e2 : min ((j : Int) + 1).toNat (ts.map NT.d).length = j + 1 := by
    rw [List.length_map]; omega
  unfold cutL cutIx
  simp only
  rw [if_neg e1, e2, List.map_drop, List.take_of_length_le]
  rw [List.length_drop]
  omega
theorem e_put {ts : List NT} {F : Nat → List D → Store → Out D} (hF : ∀ (n : NT) S, callF F 43 [n.d] S = .ok n.mk3 S) (hl : ts.length ≤ 1000) : ev F (.comp ce_put_1 (.one 4) (.of (.var 0)) (.dat (.bl true))) [some (.tup (ts.map NT.d)), some n.d, none, none, none] [] = .ok (.loc 0) [.lst (ts.map NT.mk3)] := by
  refine comp_map (l := ts) (f := NT.d) (g := fun n => some n.mk3) rfl (fun n h => ?_) (by rw [← List.filterMap_eq_map]; rfl) (pureAll_mk3 _) (by rw [List.length_map]; omega)
  simp [compTurn, ce_put_1, hF, NT.mk3, D.pure, D.pureAll]
theorem e_lput {ts : List NT} {F : Nat → List D → Store → Out D} (hF : ∀ (n : NT) S, callF F 13 [n.d] S = .ok n.mk3 S) (hl : ts.length ≤ 1000) : ev F (.comp ce__law_put_1 (.one 4) (.of (.var 0)) (.dat (.bl true))) [some (.tup (ts.map NT.d)), some n.d, none, none, none] [] = .ok (.loc 0) [.lst (ts.map NT.mk3)] := by
  refine comp_map (l := ts) (f := NT.d) (g := fun n => some n.mk3) rfl (fun n h => ?_) (by rw [← List.filterMap_eq_map]; rfl) (pureAll_mk3 _) (by rw [List.length_map]; omega)
  simp [compTurn, ce__law_put_1, hF, NT.mk3, D.pure, D.pureAll]
theorem pos_lt {ts : List NT} {j : Nat} (h : posF ts n = some j) : j < ts.length := (List.findIdx?_eq_some_iff_getElem.mp h).1
theorem r_put {ts : List NT} (hl : ts.length ≤ 6) : run (PG L) (k + 2) 44 [.tup (ts.map NT.d), n.d] [] = match putF ts n with
    | some us => .ok (.tup (us.map NT.d)) [.lst (ts.map NT.mk3)]
    | none => .exc 3 [.lst (ts.map NT.mk3)] := by
  rw [run_fd (fd := fd_put) rfl rfl]
  have e1 := e_put (n := n) (ts := ts) (F := run (PG L) (k + 1)) (fun n S => c_mark43) (by omega)
  have c1 := fun S => c_mark43 (L := L) (k := k) (n := n) (S := S)
  have c2 := in_mk3 n ts
  unfold putF
  cases hp : posF ts n with
  | some j =>
    have hj := pos_lt hp
    have c3 := ix_mk3 hp (by omega)
    rw [hp] at c2
    have a1 := fun S => add_tup (S := S) (x := (ts.take j).map NT.d) (y := [n.d]) (by simp; omega) (by simp)
    have a2 := fun S => add_tup (S := S) (x := (ts.take j).map NT.d ++ [n.d]) (y := (ts.drop (j + 1)).map NT.d) (by simp; omega) (by simp; omega)
    simp [fd_put, sm_put, e1, gc_one, c1, c2, c3, tyOk, listOf, slcD, put_cut, put_cut2 hj, a1, a2, -List.append_assoc, -List.map_take, -List.map_drop]
  | none =>
    rw [hp] at c2
    have a1 := fun S => add_tup (S := S) (x := ts.map NT.d) (y := [n.d]) (by simp; omega) (by simp)
    by_cases h6 : 5 < ts.length
    · have : ts.length = 6 := by omega
      simp [fd_put, sm_put, e1, gc_one, c1, c2, this]
    · have h7 : ¬ (ts.length : Int) = 6 := by omega
      have h8 : ¬ ts.length = 6 := by omega
      simp [fd_put, sm_put, e1, gc_one, c1, c2, h6, h7, h8, a1]
theorem c_put {ts : List NT} {S : Store} (hl : ts.length ≤ 6) : callF (run (PG L) (k + 2)) 44 [.tup (ts.map NT.d), n.d] S = match putF ts n with
    | some us => .ok (.tup (us.map NT.d)) S
    | none => .exc 3 S := by
  unfold callF
  rw [if_pos (by simp [D.pureAll, notes_pure, NT.pure]), r_put hl]
  cases putF ts n with
  | some us =>
    simp only [impD]
    rw [if_pos notes_pure]
  | none => rfl
def putD : Option (List NT) → D
  | some us => .tup (us.map NT.d)
  | none => .str [102, 117, 108, 108]
theorem r_lput {ts : List NT} (hl : ts.length ≤ 6) : Gives (run (PG L) (k + 2)) 49 [.tup (ts.map NT.d), n.d] (putD (putF ts n)) := by
  refine gives_of (fd := fd__law_put) rfl rfl ?_
  have e1 := e_lput (n := n) (ts := ts) (F := run (PG L) (k + 1)) (fun n S => c_mark) (by omega)
  have c1 := fun S => c_mark (L := L) (k := k) (n := n) (S := S)
  have c2 := in_mk3 n ts
  unfold putF
  cases hp : posF ts n with
  | some j =>
    have hj := pos_lt hp
    have c3 := ix_mk3 hp (by omega)
    rw [hp] at c2
    have a1 := fun S => add_tup (S := S) (x := (ts.take j).map NT.d) (y := [n.d]) (by simp; omega) (by simp)
    have a2 := fun S => add_tup (S := S) (x := (ts.take j).map NT.d ++ [n.d]) (y := (ts.drop (j + 1)).map NT.d) (by simp; omega) (by simp; omega)
    simp [fd__law_put, sm__law_put, e1, gc_one, c1, c2, c3, tyOk, listOf, slcD, put_cut, put_cut2 hj, a1, a2, putD, -List.append_assoc, -List.map_take, -List.map_drop]
  | none =>
    rw [hp] at c2
    have a1 := fun S => add_tup (S := S) (x := ts.map NT.d) (y := [n.d]) (by simp; omega) (by simp)
    by_cases h6 : 5 < ts.length
    · have h7 : (5 : Int) < ts.length := by omega
      simp [fd__law_put, sm__law_put, e1, gc_one, c1, c2, h6, h7, putD]
    · have h7 : ¬ (5 : Int) < ts.length := by omega
      simp [fd__law_put, sm__law_put, e1, gc_one, c1, c2, h6, h7, a1, putD]
theorem putD_pure (o : Option (List NT)) : (putD o).pure = true := by
  cases o with
  | some us => exact notes_pure
  | none => rfl
theorem c_lput {ts : List NT} {S : Store} (hl : ts.length ≤ 6) : callF (run (PG L) (k + 2)) 49 [.tup (ts.map NT.d), n.d] S = .ok (putD (putF ts n)) S := callF_ok (by simp [D.pureAll, notes_pure, NT.pure]) (r_lput hl) (putD_pure _)
/-! ### without, dropped, fresh -/
def restF (ts : List NT) (n : NT) : List NT := ts.filter fun m => !decide (m.key = n.key)
theorem filt_map {α : Type} {f : α → D} {q : α → Bool} : ∀ l : List α, (l.filterMap fun x => if q x = true then some (f x) else none) = (l.filter q).map f
  | [] => rfl
  | x :: l => by
    rw [List.filterMap_cons, List.filter_cons, filt_map l]
    cases q x <;> rfl
theorem r_without {ts : List NT} (hl : ts.length ≤ 1000) : Gives (run (PG L) (k + 2)) 45 [.tup (ts.map NT.d), n.mk3] (.tup ((restF ts n).map NT.d)) := by
  refine gives_of (fd := fd_without) rfl rfl ?_
  have e1 : ev (run (PG L) (k + 1)) (.comp ce_without_1 (.one 2) (.of (.var 0)) (.cmp .ne (.call 43 (.cons (.var 2) .nil)) (.var 1))) [some (.tup (ts.map NT.d)), some n.mk3, none] [] = .ok (.loc 0) [.lst ((restF ts n).map NT.d)] := by
    refine comp_map (l := ts) (f := NT.d) (g := fun m => if (!decide (m.key = n.key)) = true then some m.d else none) rfl (fun m h => ?_) (filt_map ts) (pureAll_map fun _ _ => NT.pure _) (by rw [List.length_map]; have := List.length_filter_le (fun m : NT => !decide (m.key = n.key)) ts; unfold restF; omega)
    have c1 := fun S => c_mark43 (L := L) (k := k) (n := m) (S := S)
    have q := fun S => ne_pure (S := S) (a := m.mk3) (b := n.mk3) rfl rfl (by simp [NT.mk3, D.depth, D.depthAll])
    rw [eqD_mk3] at q
    cases hd : decide (m.key = n.key) <;> simp [compTurn, ce_without_1, c1, q, hd, NT.pure]
  simp [fd_without, sm_without, e1]
theorem c_without {ts : List NT} {S : Store} (hl : ts.length ≤ 1000) : callF (run (PG L) (k + 2)) 45 [.tup (ts.map NT.d), n.mk3] S = .ok (.tup ((restF ts n).map NT.d)) S := callF_ok (by simp [D.pureAll, notes_pure]; rfl) (r_without hl) notes_pure
theorem rest_len {ts : List NT} : (restF ts n).length ≤ ts.length := List.length_filter_le _ _
theorem r_dropped {ts : List NT} (hl : ts.length ≤ 1000) : run (PG L) (k + 3) 46 [.tup (ts.map NT.d), .str n.nm, .str n.host, .str n.path] [] = if (restF ts n).length < ts.length then .ok (.tup ((restF ts n).map NT.d)) [] else .exc 2 [] := by
  rw [run_fd (fd := fd_dropped) rfl rfl]
  have c1 := fun S => c_without (L := L) (k := k) (n := n) (S := S) hl
  unfold NT.mk3 at c1
  have hr := rest_len (n := n) (ts := ts)
  by_cases h : (restF ts n).length < ts.length
  · have h2 : ¬ (restF ts n).length = ts.length := by omega
    simp [fd_dropped, sm_dropped, c1, h, h2]
    omega
  · have h2 : (restF ts n).length = ts.length := by omega
    simp [fd_dropped, sm_dropped, c1, h2]
theorem c_dropped {ts : List NT} {S : Store} (hl : ts.length ≤ 1000) : callF (run (PG L) (k + 3)) 46 [.tup (ts.map NT.d), .str n.nm, .str n.host, .str n.path] S = if (restF ts n).length < ts.length then .ok (.tup ((restF ts n).map NT.d)) S else .exc 2 S := by
  unfold callF
  rw [if_pos (by simp [D.pureAll, notes_pure, D.pure]), r_dropped hl]
  by_cases h : (restF ts n).length < ts.length
  · rw [if_pos h, if_pos h]
    simp only [impD]
    rw [if_pos notes_pure]
  · rw [if_neg h, if_neg h]
def freshF (r : RT) (ts : List NT) (t : Int) : List NT := ts.filter fun n => !hasEnded r n t
theorem r_fresh {ts : List NT} {t : Int} (hl : ts.length ≤ 1000) : Gives (run (PG L) (k + 2)) 47 [r.d, .tup (ts.map NT.d), .int t] (.tup ((freshF r ts t).map NT.d)) := by
  refine gives_of (fd := fd_fresh) rfl rfl ?_
  have e1 : ev (run (PG L) (k + 1)) (.comp ce_fresh_1 (.one 3) (.of (.var 1)) (.not (.call 19 (.cons (.var 0) (.cons (.var 3) (.cons (.var 2) .nil)))))) [some r.d, some (.tup (ts.map NT.d)), some (.int t), none] [] = .ok (.loc 0) [.lst ((freshF r ts t).map NT.d)] := by
    refine comp_map (l := ts) (f := NT.d) (g := fun m => if (!hasEnded r m t) = true then some m.d else none) rfl (fun m h => ?_) (filt_map ts) (pureAll_map fun _ _ => NT.pure _) (by rw [List.length_map]; have := List.length_filter_le (fun m : NT => !hasEnded r m t) ts; unfold freshF; omega)
    have c1 := fun S => c_ended (L := L) (k := k) (r := r) (n := m) (t := t) (S := S)
    cases hd : hasEnded r m t <;> simp [compTurn, ce_fresh_1, c1, hd, NT.pure]
  simp [fd_fresh, sm_fresh, e1]
theorem c_fresh {ts : List NT} {t : Int} {S : Store} (hl : ts.length ≤ 1000) : callF (run (PG L) (k + 2)) 47 [r.d, .tup (ts.map NT.d), .int t] S = .ok (.tup ((freshF r ts t).map NT.d)) S := callF_ok (by simp [D.pureAll, notes_pure, RT.pure, D.pure]) (r_fresh hl) notes_pure
/-! ### said -/
theorem r_said0 {ts : List NT} (hl : ts.length ≤ 6) : Gives (run (PG L) (k + 4)) 48 [.int 0, .tup (ts.map NT.d), n.d] (putD (putF ts n)) := by
  refine gives_of (fd := fd__law_said__v1) rfl rfl ?_
  have c1 := fun S => c_put (L := L) (k := k + 1) (n := n) (S := S) hl
  have c2 := fun S => c_word (L := L) (k := k + 2) (c := 3) (S := S) (by omega)
  cases h : putF ts n with
  | some us =>
    rw [h] at c1
    simp [fd__law_said__v1, sm__law_said__v1, c1, putD]
  | none =>
    rw [h] at c1
    simp [fd__law_said__v1, sm__law_said__v1, c1, c2, subC, wordF, putD]
def dropD (ts : List NT) (n : NT) : D := if (restF ts n).length < ts.length then .tup ((restF ts n).map NT.d) else .str [110, 111, 32, 110, 111, 116, 101]
theorem r_said1 {ts : List NT} (hl : ts.length ≤ 1000) : Gives (run (PG L) (k + 4)) 48 [.int 1, .tup (ts.map NT.d), n.d] (dropD ts n) := by
  refine gives_of (fd := fd__law_said__v1) rfl rfl ?_
  have c1 := fun S => c_dropped (L := L) (k := k) (n := n) (S := S) hl
  have c2 := fun S => c_word (L := L) (k := k + 2) (c := 2) (S := S) (by omega)
  have i0 := fun S => (rfl : idxD n.d (.int 0) S = .ok (.str n.nm) S)
  have i2 := fun S => (rfl : idxD n.d (.int 2) S = .ok (.str n.host) S)
  have i4 := fun S => (rfl : idxD n.d (.int 4) S = .ok (.str n.path) S)
  unfold dropD
  by_cases h : (restF ts n).length < ts.length
  · simp [fd__law_said__v1, sm__law_said__v1, i0, i2, i4, c1, h]
  · simp [fd__law_said__v1, sm__law_said__v1, i0, i2, i4, c1, h, c2, subC, wordF]
theorem c_said0 {ts : List NT} {S : Store} (hl : ts.length ≤ 6) : callF (run (PG L) (k + 4)) 48 [.int 0, .tup (ts.map NT.d), n.d] S = .ok (putD (putF ts n)) S := callF_ok (by simp [D.pureAll, notes_pure, NT.pure, D.pure]) (r_said0 hl) (putD_pure _)
theorem dropD_pure {ts : List NT} : (dropD ts n).pure = true := by
  unfold dropD
  split
  · exact notes_pure
  · rfl
theorem c_said1 {ts : List NT} {S : Store} (hl : ts.length ≤ 1000) : callF (run (PG L) (k + 4)) 48 [.int 1, .tup (ts.map NT.d), n.d] S = .ok (dropD ts n) S := callF_ok (by simp [D.pureAll, notes_pure, NT.pure, D.pure]) (r_said1 hl) dropD_pure
end Lw
set_option Elab.async false
set_option linter.all false
set_option maxRecDepth 100000
set_option maxHeartbeats 1000000
namespace Lw
open Ev
variable {L : FD} {k : Nat} {r : RT} {n : NT} {a : AT}
theorem plain_map {α : Type} {f : α → D} : ∀ {l : List α}, (∀ x ∈ l, plainD (f x) = true) → plainAll (l.map f) = true
  | [], _ => rfl
  | x :: xs, h => by rw [List.map_cons, plainAll, h x List.mem_cons_self, plain_map fun y hy => h y (List.mem_cons_of_mem _ hy)]; rfl
theorem depth_map {α : Type} {f : α → D} {m : Nat} : ∀ {l : List α}, (∀ x ∈ l, (f x).depth ≤ m) → D.depthAll (l.map f) ≤ m
  | [], _ => Nat.zero_le _
  | x :: xs, h => by
    rw [List.map_cons, D.depthAll]
    have h1 := h x List.mem_cons_self
    have h2 := depth_map fun y hy => h y (List.mem_cons_of_mem _ hy)
    omega
theorem pathG_of {ps : List (List Nat)} {p : List Nat} (h : p = [47] ++ joinN [47] ps) (h2 : ∀ l ∈ ps, l ≠ [] ∧ noC 47 l) (h3 : p.length ≤ 100) : PathG p := ⟨⟨ps, h, h2⟩, h3⟩
theorem NT.plain (n : NT) : plainD n.d = true := by
  unfold NT.d
  cases n.fin <;> rfl
theorem NT.dep (n : NT) : n.d.depth = 1 := by
  unfold NT.d
  cases n.fin <;> rfl
theorem plain_nts {ts : List NT} (h : ts.length ≤ 100000) : plainD (.tup (ts.map NT.d)) = true := by
  rw [plainD, plain_map fun n _ => n.plain]
  simp
  exact h
theorem dep_nts {ts : List NT} : (D.tup (ts.map NT.d)).depth ≤ 2 := by
  have := depth_map (l := ts) (f := NT.d) (m := 1) fun n _ => by rw [n.dep]; exact Nat.le_refl _
  rw [D.depth]
  omega
theorem c_same_nts {ts : List NT} {S : Store} (h : ts.length ≤ 100000) : callF (run (PG L) (k + 3)) 9 [.tup (ts.map NT.d), .tup (ts.map NT.d)] S = .ok (.bl true) S := c_same (k := k + 2) (plain_nts h) (by have := dep_nts (ts := ts); omega)
theorem put_len {ts us : List NT} (h : putF ts n = some us) (hl : ts.length ≤ 6) : us.length ≤ 6 ∧ us ≠ [] := by
  unfold putF at h
  cases hp : posF ts n with
  | some j =>
    rw [hp] at h
    have := pos_lt hp
    simp only [Option.some.injEq] at h
    subst h
    refine ⟨by simp; omega, by simp⟩
  | none =>
    rw [hp] at h
    simp only at h
    split at h
    · cases h
    · simp only [Option.some.injEq] at h
      subst h
      refine ⟨by simp; omega, by simp⟩
theorem same_put {ts : List NT} {S : Store} (hl : ts.length ≤ 6) : callF (run (PG L) (k + 3)) 9 [putD (putF ts n), putD (putF ts n)] S = .ok (.bl true) S := by
  cases h : putF ts n with
  | some us => exact c_same_nts (by have := put_len h hl; omega)
  | none => exact c_same (k := k + 2) rfl (by simp [putD, D.depth])
theorem same_drop {ts : List NT} {S : Store} (hl : ts.length ≤ 1000) : callF (run (PG L) (k + 3)) 9 [dropD ts n, dropD ts n] S = .ok (.bl true) S := by
  unfold dropD
  split
  · exact c_same_nts (by have := rest_len (ts := ts) (n := n); omega)
  · exact c_same (k := k + 2) rfl (by simp [D.depth])
theorem at_nts {ts : List NT} {z : Int} (h0 : 0 ≤ z) (h1 : z < ts.length) : ∃ n ∈ ts, atZ (ts.map NT.d) z = some n.d := by
  obtain ⟨j, rfl⟩ : ∃ j : Nat, z = j := ⟨z.toNat, by omega⟩
  have hj : j < ts.length := by omega
  refine ⟨ts[j], List.getElem_mem hj, ?_⟩
  unfold atZ
  simp [hj]
end Lw
set_option Elab.async false
set_option linter.all false
set_option maxRecDepth 100000
set_option maxHeartbeats 1000000
namespace Lw
open Ev
variable {L : FD} {k : Nat} {r : RT} {n : NT} {a : AT}
/-! ### instances by simp -/
section
variable {F : Nat → List D → Store → Out D} {ρ : Env} {S : Store}
@[simp] theorem sev_fld {cs : List Nat} {f : Nat} {a : Ex} : ev F (.fld cs f a) ρ S = (ev F a ρ S).bind (fldD cs f) := rfl
def mcK (F : Nat → List D → Store → Out D) (cs : List Nat) (m : Nat) (x : D) (S : Store) (o : Out (List D)) : Out D := match insOf S x with
  | some (c, _) => if cs.contains c then o.bind fun ds S => callF F (mid c m) (x :: ds) S else .bad
  | none => .bad
@[simp] theorem sev_mcall {cs : List Nat} {m : Nat} {a : Ex} {es : Exs} : ev F (.mcall cs m a es) ρ S = (ev F a ρ S).bind fun x S => mcK F cs m x S (evs F es ρ S) := rfl
@[simp] theorem sev_make {c : Nat} {es : Exs} : ev F (.make c es) ρ S = (evs F es ρ S).bind fun ds S => makeF F c ds S := rfl
@[simp] theorem sex_setF {cs : List Nat} {f : Nat} {a v : Ex} : ex F (.setF cs f a v) ρ S = (ev F v ρ S).thn ρ fun v S1 => (ev F a ρ S1).thn ρ fun a S2 => (gcO S.length (setFD cs f a v S2)).thn ρ fun _ S3 => .nx ρ S3 := rfl
end
/-! ### jars -/
structure JS where
  r : RT
  ts : List NT
  t : Int
  past : List D
  as : List D
def jarO (J : JS) (m : Nat) : MO := .ins 0 [(0, J.r.d), (1, .tup (J.ts.map NT.d)), (2, .int J.t), (3, .loc m), (4, .tup J.as)]
def putJ (S : Store) (n m : Nat) (J : JS) : Store := (S.set m (.lst J.past)).set n (jarO J m)
/-- a jar's places -/
structure At (S : Store) (n m : Nat) : Prop where
  ln : n < S.length
  lm : m < S.length
  ne : n ≠ m
section
variable {S : Store} {n m : Nat} {J J' : JS} {nt : NT}
@[simp] theorem putJ_len : (putJ S n m J).length = S.length := by simp [putJ]
theorem putJ_n (h : At S n m) : (putJ S n m J)[n]? = some (jarO J m) := by
  unfold putJ
  rw [List.getElem?_set_self (by rw [List.length_set]; exact h.ln)]
theorem putJ_m (h : At S n m) : (putJ S n m J)[m]? = some (.lst J.past) := by
  unfold putJ
  rw [List.getElem?_set_ne h.ne, List.getElem?_set_self h.lm]
theorem putJ_o {i : Nat} (h1 : n ≠ i) (h2 : m ≠ i) : (putJ S n m J)[i]? = S[i]? := by
  unfold putJ
  rw [List.getElem?_set_ne h1, List.getElem?_set_ne h2]
theorem putJ_setn (hp : J'.past = J.past) : (putJ S n m J).set n (jarO J' m) = putJ S n m J' := by
  unfold putJ
  rw [List.set_set, hp]
theorem putJ_setm (h : n ≠ m) {p : List D} : (putJ S n m J).set m (.lst p) = putJ S n m { J with past := p } := by
  unfold putJ
  rw [List.set_comm _ _ h, List.set_set]
  rfl
theorem ins_J (h : At S n m) : insOf (putJ S n m J) (.loc n) = some (0, [(0, J.r.d), (1, .tup (J.ts.map NT.d)), (2, .int J.t), (3, .loc m), (4, .tup J.as)]) := by
  simp only [insOf]
  rw [putJ_n h]
  rfl
theorem fj0 (h : At S n m) : fldD [0] 0 (.loc n) (putJ S n m J) = .ok J.r.d (putJ S n m J) := by rw [fldD, ins_J h]; rfl
theorem fj1 (h : At S n m) : fldD [0] 1 (.loc n) (putJ S n m J) = .ok (.tup (J.ts.map NT.d)) (putJ S n m J) := by rw [fldD, ins_J h]; rfl
theorem fj2 (h : At S n m) : fldD [0] 2 (.loc n) (putJ S n m J) = .ok (.int J.t) (putJ S n m J) := by rw [fldD, ins_J h]; rfl
theorem fj3 (h : At S n m) : fldD [0] 3 (.loc n) (putJ S n m J) = .ok (.loc m) (putJ S n m J) := by rw [fldD, ins_J h]; rfl
theorem fj4 (h : At S n m) : fldD [0] 4 (.loc n) (putJ S n m J) = .ok (.tup J.as) (putJ S n m J) := by rw [fldD, ins_J h]; rfl
theorem setF_at {d : D} {f : Nat} (h : At S n m) (hp : J'.past = J.past) (hf : f < 8) (e : MO.ins 0 (putFd f d [(0, J.r.d), (1, .tup (J.ts.map NT.d)), (2, .int J.t), (3, .loc m), (4, .tup J.as)]) = jarO J' m) : setFD [0] f (.loc n) d (putJ S n m J) = .ok .non (putJ S n m J') := by
  unfold setFD
  simp only
  rw [putJ_n h]
  unfold jarO
  simp only
  rw [if_pos (by simp [hf]), e, putJ_setn hp]
theorem gj0 {r' : RT} (h : At S n m) : setFD [0] 0 (.loc n) r'.d (putJ S n m J) = .ok .non (putJ S n m { J with r := r' }) := setF_at h rfl (by omega) rfl
theorem gj1 {us : List NT} (h : At S n m) : setFD [0] 1 (.loc n) (.tup (us.map NT.d)) (putJ S n m J) = .ok .non (putJ S n m { J with ts := us }) := setF_at h rfl (by omega) rfl
theorem gj2 {t' : Int} (h : At S n m) : setFD [0] 2 (.loc n) (.int t') (putJ S n m J) = .ok .non (putJ S n m { J with t := t' }) := setF_at h rfl (by omega) rfl
theorem gj4 {as' : List D} (h : At S n m) : setFD [0] 4 (.loc n) (.tup as') (putJ S n m J) = .ok .non (putJ S n m { J with as := as' }) := setF_at h rfl (by omega) rfl
theorem mc_J {F : Nat → List D → Store → Out D} {j : Nat} {o : Out (List D)} (h : At S n m) : mcK F [0] j (.loc n) (putJ S n m J) o = o.bind fun ds S => callF F (mid 0 j) (.loc n :: ds) S := by
  unfold mcK
  rw [ins_J h]
  rfl
theorem app_J {d : D} (h : At S n m) (hd : d.pure = true) (hl : J.past.length < 1000) : appendD (.loc m) d (putJ S n m J) = .ok .non (putJ S n m { J with past := J.past ++ [d] }) := by
  unfold appendD
  simp only
  rw [putJ_m h]
  simp only
  have hz : J.past.length < lineN := by unfold lineN; omega
  rw [if_pos (by simp [hd, hz]), putJ_setm h.ne]
theorem len_J (h : At S n m) : (listOf (putJ S n m J) (.loc m)).isSome = true := by
  simp only [listOf]
  rw [putJ_m h]
  rfl
theorem ty_J (h : At S n m) : tyOk .append (putJ S n m J) (.loc m) = true := len_J h
@[simp] theorem gcO_exc {n c : Nat} {S : Store} : gcO n (.exc c S) = .exc c S := rfl
/-- a call in the caller's store, which stays as long -/
theorem callF_st {F : Nat → List D → Store → Out D} {f : Nat} {ds : List D} {S S' : Store} {d : D} (hi : D.pureAll ds = false) (h : F f ds S = .ok d S') (hl : S'.length = S.length) : callF F f ds S = .ok d S' := by
  unfold callF
  rw [if_neg (by rw [hi]; exact Bool.false_ne_true), h]
  exact gc_len hl
theorem callF_ex {F : Nat → List D → Store → Out D} {f c : Nat} {ds : List D} {S S' : Store} (hi : D.pureAll ds = false) (h : F f ds S = .exc c S') : callF F f ds S = .exc c S' := by
  unfold callF
  rw [if_neg (by rw [hi]; exact Bool.false_ne_true), h]
  rfl
theorem locs_imp {ds : List D} : D.pureAll (.loc n :: ds) = false := by rw [D.pureAll, D.pure]; rfl
def stD (J : JS) : D := .tup [J.r.d, .tup (J.ts.map NT.d), .int J.t]
theorem stD_pure (J : JS) : (stD J).pure = true := by simp [stD, D.pure, D.pureAll, RT.pure]
/-- how it was is kept -/
def JS.bec (J : JS) (r' : RT) (us : List NT) (t' : Int) : JS := ⟨r', us, t', J.past ++ [stD J], J.as⟩
theorem r_become {r' : RT} {us : List NT} {t' : Int} (h : At S n m) (hl : J.past.length < 1000) : run (PG L) (k + 1) 501 [.loc n, r'.d, .tup (us.map NT.d), .int t'] (putJ S n m J) = .ok .non (putJ S n m (J.bec r' us t')) := by
  rw [run_fd (fd := fd_Jar_become) rfl rfl]
  have a1 := app_J (J := J) h (stD_pure J) hl
  unfold stD at a1
  simp [fd_Jar_become, sm_Jar_become, fj0 h, fj1 h, fj2 h, fj3 h, ty_J h, methD, one, a1, gj0 h, gj1 h, gj2 h]
  rfl
theorem c_become {r' : RT} {us : List NT} {t' : Int} (h : At S n m) (hl : J.past.length < 1000) : callF (run (PG L) (k + 1)) 501 [.loc n, r'.d, .tup (us.map NT.d), .int t'] (putJ S n m J) = .ok .non (putJ S n m (J.bec r' us t')) := callF_st locs_imp (r_become h hl) (by simp)
/-- a note is put; none: refused by the class -/
def takeF (J : JS) (nt : NT) (ho : List Nat) : JS ⊕ Nat :=
  if mayPut nt ho = true then (if hasEnded J.r nt J.t = true then .inl (J.bec J.r (restF J.ts nt) J.t) else match putF J.ts nt with
    | some us => .inl (J.bec J.r us J.t)
    | none => .inr 3) else .inr 5
def sumO (S : Store) (n m : Nat) (J : JS) : JS ⊕ Nat → Out D
  | .inl J' => .ok .non (putJ S n m J')
  | .inr c => .exc c (putJ S n m J)
theorem r_take {ho : List Nat} (h : At S n m) (hl : J.past.length < 1000) (h6 : J.ts.length ≤ 6) (h1 : nt.host.length ≤ 10000) (h2 : ho.length ≤ 10000) : run (PG L) (k + 5) 502 [.loc n, nt.d, .str ho] (putJ S n m J) = sumO S n m J (takeF J nt ho) := by
  rw [run_fd (fd := fd_Jar_take) rfl rfl]
  have c1 := fun S => c_may (L := L) (k := k + 2) (n := nt) (h := ho) (S := S) h1 h2
  have c2 := fun S => c_ended (L := L) (k := k + 3) (r := J.r) (n := nt) (t := J.t) (S := S)
  have c3 := fun S => c_without (L := L) (k := k + 2) (n := nt) (ts := J.ts) (S := S) (by omega)
  have c4 := fun S => c_mark43 (L := L) (k := k + 3) (n := nt) (S := S)
  have c5 := fun S => c_put (L := L) (k := k + 2) (n := nt) (ts := J.ts) (S := S) h6
  have c6 := fun us => c_become (L := L) (k := k + 3) (J := J) (r' := J.r) (us := us) (t' := J.t) h hl
  unfold takeF
  cases hm : mayPut nt ho with
  | false => simp [fd_Jar_take, sm_Jar_take, c1, hm, sumO]
  | true =>
    cases he : hasEnded J.r nt J.t with
    | true => simp [fd_Jar_take, sm_Jar_take, c1, hm, fj0 h, fj1 h, fj2 h, c2, he, c4, c3, mc_J h, mid, c6, sumO]
    | false =>
      cases hp : putF J.ts nt with
      | none =>
        rw [hp] at c5
        simp [fd_Jar_take, sm_Jar_take, c1, hm, fj0 h, fj1 h, fj2 h, c2, he, c5, sumO]
      | some us =>
        rw [hp] at c5
        simp [fd_Jar_take, sm_Jar_take, c1, hm, fj0 h, fj1 h, fj2 h, c2, he, c5, mc_J h, mid, c6, sumO]
theorem c_take {ho : List Nat} (h : At S n m) (hl : J.past.length < 1000) (h6 : J.ts.length ≤ 6) (h1 : nt.host.length ≤ 10000) (h2 : ho.length ≤ 10000) : callF (run (PG L) (k + 5)) 502 [.loc n, nt.d, .str ho] (putJ S n m J) = sumO S n m J (takeF J nt ho) := by
  have := r_take (L := L) (k := k) (nt := nt) (ho := ho) h hl h6 h1 h2
  cases e : takeF J nt ho with
  | inl J' =>
    rw [e] at this
    exact callF_st locs_imp this (by simp)
  | inr c =>
    rw [e] at this
    exact callF_ex locs_imp this
theorem r_passon {z : Int} (h : At S n m) (hl : J.past.length < 1000) (h6 : J.ts.length ≤ 1000) : run (PG L) (k + 3) 504 [.loc n, .int z] (putJ S n m J) = .ok .non (putJ S n m (J.bec J.r (freshF J.r J.ts (if J.t + z < 99 then J.t + z else 99)) (if J.t + z < 99 then J.t + z else 99))) := by
  rw [run_fd (fd := fd_Jar_pass_on) rfl rfl]
  generalize ht : (if J.t + z < 99 then J.t + z else 99) = t'
  have c1 := fun S => c_fresh (L := L) (k := k) (r := J.r) (ts := J.ts) (t := t') (S := S) h6
  have c6 := fun us => c_become (L := L) (k := k + 1) (J := J) (r' := J.r) (us := us) (t' := t') h hl
  simp [fd_Jar_pass_on, sm_Jar_pass_on, fj0 h, fj1 h, fj2 h, two, min2D, ht, c1, mc_J h, mid, c6]
theorem c_passon {z : Int} (h : At S n m) (hl : J.past.length < 1000) (h6 : J.ts.length ≤ 1000) : callF (run (PG L) (k + 3)) 504 [.loc n, .int z] (putJ S n m J) = .ok .non (putJ S n m (J.bec J.r (freshF J.r J.ts (if J.t + z < 99 then J.t + z else 99)) (if J.t + z < 99 then J.t + z else 99))) := callF_st locs_imp (r_passon h hl h6) (by simp)
theorem c_notesJ (h : At S n m) : callF (run (PG L) (k + 1)) 505 [.loc n] (putJ S n m J) = .ok (.tup (J.ts.map NT.d)) (putJ S n m J) := by
  refine callF_st locs_imp ?_ rfl
  rw [run_fd (fd := fd_Jar_notes) rfl rfl]
  simp [fd_Jar_notes, sm_Jar_notes, fj1 h]
theorem c_timeJ (h : At S n m) : callF (run (PG L) (k + 1)) 506 [.loc n] (putJ S n m J) = .ok (.int J.t) (putJ S n m J) := by
  refine callF_st locs_imp ?_ rfl
  rw [run_fd (fd := fd_Jar_time) rfl rfl]
  simp [fd_Jar_time, sm_Jar_time, fj2 h]
theorem c_rulesJ (h : At S n m) : callF (run (PG L) (k + 1)) 507 [.loc n] (putJ S n m J) = .ok J.r.d (putJ S n m J) := by
  refine callF_st locs_imp ?_ rfl
  rw [run_fd (fd := fd_Jar_rules) rfl rfl]
  simp [fd_Jar_rules, sm_Jar_rules, fj0 h]
/-! ### made -/
theorem set_end {o o' : MO} {S T : Store} : (S ++ o :: T).set S.length o' = S ++ o' :: T := by
  rw [List.set_append_right _ _ (Nat.le_refl _), Nat.sub_self]
  rfl
theorem setF_end {S T : Store} {f : Nat} {d : D} {fs : List (Nat × D)} (hl : fs.length < 900) (hf : f < 8) : setFD [0] f (.loc S.length) d (S ++ .ins 0 fs :: T) = .ok .non (S ++ .ins 0 (putFd f d fs) :: T) := by
  unfold setFD
  simp only
  rw [List.getElem?_append_right (Nat.le_refl _), Nat.sub_self, List.getElem?_cons_zero]
  simp only
  rw [if_pos (by simp [hl, hf]), set_end]
def J0 (r : RT) : JS := ⟨r, [], 0, [], []⟩
theorem gc_open {S T : Store} {fs : List (Nat × D)} {d : D} (h : MO.closed (S.length + 1) (.ins 0 fs) = false) : gc (S.length + 1) d (S ++ .ins 0 fs :: T) = .ok d (S ++ .ins 0 fs :: T) := by
  unfold gc
  split
  · rfl
  · rw [if_neg]
    unfold closedS
    rw [List.all_eq_true]
    intro z
    have := z (.ins 0 fs) (by
      rw [show S ++ .ins 0 fs :: T = (S ++ [.ins 0 fs]) ++ T by simp]
      rw [List.take_left' (by simp)]
      simp)
    rw [h] at this
    cases this
theorem c_make {S : Store} {r : RT} : makeF (run (PG L) (k + 1)) 0 [r.d] S = .ok (.loc S.length) (S ++ [jarO (J0 r) (S.length + 1), .lst []]) := by
  unfold makeF
  have e : run (PG L) (k + 1) (mid 0 0) [.loc S.length, r.d] (S ++ [.ins 0 []]) = .ok .non (S ++ [jarO (J0 r) (S.length + 1), .lst []]) := by
    rw [show mid 0 0 = 500 from rfl, run_fd (fd := fd_Jar___init__) rfl rfl]
    have s0 := setF_end (S := S) (T := []) (f := 0) (d := r.d) (fs := []) (by simp) (by simp)
    have s1 := setF_end (S := S) (T := []) (f := 1) (d := .tup []) (fs := [(0, r.d)]) (by simp) (by simp)
    have s2 := setF_end (S := S) (T := []) (f := 2) (d := .int 0) (fs := [(0, r.d), (1, .tup [])]) (by simp) (by simp)
    have s3 := setF_end (S := S) (T := [.lst []]) (f := 3) (d := .loc (S.length + 1)) (fs := [(0, r.d), (1, .tup []), (2, .int 0)]) (by simp) (by simp)
    have s4 := setF_end (S := S) (T := [.lst []]) (f := 4) (d := .tup []) (fs := [(0, r.d), (1, .tup []), (2, .int 0), (3, .loc (S.length + 1))]) (by simp) (by simp)
    have g3 := gc_open (S := S) (T := [.lst []]) (d := .non) (fs := [(0, r.d), (1, .tup []), (2, .int 0), (3, .loc (S.length + 1))]) (by simp [MO.closed, D.low])
    have p0 : putFd 0 r.d [] = [(0, r.d)] := rfl
    have p1 : putFd 1 (.tup []) [(0, r.d)] = [(0, r.d), (1, .tup [])] := rfl
    have p2 : putFd 2 (.int 0) [(0, r.d), (1, .tup [])] = [(0, r.d), (1, .tup []), (2, .int 0)] := rfl
    have p3 : putFd 3 (.loc (S.length + 1)) [(0, r.d), (1, .tup []), (2, .int 0)] = [(0, r.d), (1, .tup []), (2, .int 0), (3, .loc (S.length + 1))] := rfl
    rw [p0] at s0
    rw [p1] at s1
    rw [p2] at s2
    rw [p3] at s3
    have nw : newL [] (S ++ [.ins 0 [(0, r.d), (1, .tup []), (2, .int 0)]]) = .ok (.loc (S.length + 1)) (S ++ [.ins 0 [(0, r.d), (1, .tup []), (2, .int 0)], .lst []]) := by
      simp [newL, D.pureAll, szOk]
    simp [fd_Jar___init__, sm_Jar___init__, s0, s1, s2, s3, s4, g3, nw]
    rfl
  rw [e]
/-- a new jar, put behind the store -/
theorem make_at {S : Store} {r : RT} : S ++ [jarO (J0 r) (S.length + 1), .lst []] = putJ (S ++ [.lst [], .lst []]) S.length (S.length + 1) (J0 r) := by
  unfold putJ
  rw [List.set_append_right _ _ (by omega), Nat.add_sub_cancel_left, List.set_append_right _ _ (by omega), Nat.sub_self]
  rfl
/-! ### _law_take of a jar -/
def sumW (S : Store) (n m : Nat) (J : JS) : JS ⊕ Nat → Out D
  | .inl J' => .ok .non (putJ S n m J')
  | .inr c => .ok (.str (wordF c)) (putJ S n m J)
theorem take_c {ho : List Nat} {c : Nat} (h : takeF J nt ho = .inr c) : c = 3 ∨ c = 5 := by
  unfold takeF at h
  split at h
  · split at h
    · cases h
    · split at h
      · cases h
      · cases h; exact .inl rfl
  · cases h; exact .inr rfl
theorem c_ltake {ho : List Nat} (h : At S n m) (hl : J.past.length < 1000) (h6 : J.ts.length ≤ 6) (h1 : nt.host.length ≤ 10000) (h2 : ho.length ≤ 10000) : callF (run (PG L) (k + 6)) 51 [.loc n, nt.d, .str ho] (putJ S n m J) = sumW S n m J (takeF J nt ho) := by
  have c1 := c_take (L := L) (k := k) (nt := nt) (ho := ho) h hl h6 h1 h2
  cases e : takeF J nt ho with
  | inl J' =>
    rw [e] at c1
    refine callF_st locs_imp ?_ (by simp)
    rw [run_fd (fd := fd__law_take) rfl rfl]
    simp [fd__law_take, sm__law_take, mc_J h, mid, c1, sumO]
  | inr c =>
    rw [e] at c1
    refine callF_st locs_imp ?_ (by simp)
    rw [run_fd (fd := fd__law_take) rfl rfl]
    have c2 := fun S => c_word (L := L) (k := k + 4) (c := c) (S := S) (by rcases take_c e with h | h <;> omega)
    simp [fd__law_take, sm__law_take, mc_J h, mid, c1, sumO, subC, c2]
end
/-! ### == of one thing twice -/
mutual
theorem eqD_self : ∀ d : D, d.pure = true → eqD d d = true
  | .non, _ => rfl
  | .bl b, _ => by simp [eqD]
  | .int i, _ => by simp [eqD]
  | .str s, _ => by simp [eqD]
  | .tup xs, h => by rw [eqD]; rw [D.pure] at h; exact eqDs_self xs h
  | .lit xs, h => by rw [eqD]; rw [D.pure] at h; exact eqDs_self xs h
  | .loc n, h => by rw [D.pure] at h; cases h
theorem eqDs_self : ∀ ds : List D, D.pureAll ds = true → eqDs ds ds = true
  | [], _ => rfl
  | d :: ds, h => by
    rw [D.pureAll, Bool.and_eq_true] at h
    rw [eqDs, eqD_self d h.1, eqDs_self ds h.2]
    rfl
end
theorem ne_self {d : D} {S : Store} (h : d.pure = true) (hd : d.depth ≤ 60) : cmpD .ne d d S = .ok (.bl false) S := by
  rw [ne_pure h h (by omega), eqD_self d h]
  rfl
theorem eq_self {d : D} {S : Store} (h : d.pure = true) (hd : d.depth ≤ 60) : cmpD .eq d d S = .ok (.bl true) S := by
  rw [eq_pure h h (by omega), eqD_self d h]
end Lw
set_option Elab.async false
set_option linter.all false
set_option maxRecDepth 100000
set_option maxHeartbeats 1000000
namespace Lw
open Ev
variable {L : FD} {k : Nat} {r : RT} {a : AT}
section
variable {S : Store} {n m : Nat} {J J' : JS} {nt : NT}
/-! ### further methods of jars -/
def JS.askd (J : JS) (a : AT) : JS := { J with as := J.as ++ [.tup [a.d, .tup ((sentF J.r J.ts a).map pairD)]] }
theorem r_askJ {h p : List Nat} {s l : Bool} {o : Option (List Nat)} (ha : At S n m) (hn : ∀ n ∈ J.ts, n.Good) (oa : (⟨h, p, J.t, s, o, l⟩ : AT).Ok) (h6 : J.ts.length ≤ 1000) (hl : J.as.length ≤ 1000) :
    run (PG L) (k + 6) 503 [.loc n, .str h, .str p, .bl s, orgD o, .bl l] (putJ S n m J) = .ok (.tup ((sentF J.r J.ts ⟨h, p, J.t, s, o, l⟩).map pairD)) (putJ S n m (J.askd ⟨h, p, J.t, s, o, l⟩)) := by
  rw [run_fd (fd := fd_Jar_ask) rfl rfl]
  have c1 := fun S => c_sent (L := L) (k := k) (r := J.r) (S := S) hn oa h6
  have ad : D.tup [.str h, .str p, .int J.t, .bl s, orgD o, .bl l] = (⟨h, p, J.t, s, o, l⟩ : AT).d := rfl
  generalize hx : (⟨h, p, J.t, s, o, l⟩ : AT) = a at *
  have a1 := fun S => add_tup (S := S) (x := J.as) (y := [.tup [a.d, .tup ((sentF J.r J.ts a).map pairD)]]) (by omega) (by simp)
  generalize hf : D.tup ((sentF J.r J.ts a).map pairD) = fd at *
  have g4 := gj4 (as' := J.as ++ [.tup [a.d, fd]]) (J := J) ha
  have ej : J.askd a = { J with as := J.as ++ [.tup [a.d, fd]] } := by unfold JS.askd; rw [hf]
  rw [ej]
  simp [fd_Jar_ask, sm_Jar_ask, fj0 ha, fj1 ha, fj2 ha, fj4 ha, ad, c1, a1, g4]
theorem c_askJ {h p : List Nat} {s l : Bool} {o : Option (List Nat)} (ha : At S n m) (hn : ∀ n ∈ J.ts, n.Good) (oa : (⟨h, p, J.t, s, o, l⟩ : AT).Ok) (h6 : J.ts.length ≤ 1000) (hl : J.as.length ≤ 1000) :
    callF (run (PG L) (k + 6)) 503 [.loc n, .str h, .str p, .bl s, orgD o, .bl l] (putJ S n m J) = .ok (.tup ((sentF J.r J.ts ⟨h, p, J.t, s, o, l⟩).map pairD)) (putJ S n m (J.askd ⟨h, p, J.t, s, o, l⟩)) := callF_st locs_imp (r_askJ ha hn oa h6 hl) (by simp)
theorem c_changeJ {r' : RT} (h : At S n m) (hl : J.past.length < 1000) (h6 : J.ts.length ≤ 1000) : callF (run (PG L) (k + 3)) 508 [.loc n, r'.d] (putJ S n m J) = .ok .non (putJ S n m (J.bec r' (freshF r' J.ts J.t) J.t)) := by
  refine callF_st locs_imp ?_ (by simp)
  rw [run_fd (fd := fd_Jar_change) rfl rfl]
  have c1 := fun S => c_fresh (L := L) (k := k) (r := r') (ts := J.ts) (t := J.t) (S := S) h6
  have c6 := fun us => c_become (L := L) (k := k + 1) (J := J) (r' := r') (us := us) (t' := J.t) h hl
  simp [fd_Jar_change, sm_Jar_change, fj1 h, fj2 h, c1, mc_J h, mid, c6]
theorem c_logJ (h : At S n m) : callF (run (PG L) (k + 1)) 510 [.loc n] (putJ S n m J) = .ok (.tup J.as) (putJ S n m J) := by
  refine callF_st locs_imp ?_ rfl
  rw [run_fd (fd := fd_Jar_log) rfl rfl]
  simp [fd_Jar_log, sm_Jar_log, fj4 h]
@[simp] theorem sex_setFs {F : Nat → List D → Store → Out D} {ρ : Env} {S : Store} {cs fs : List Nat} {i : Nat} {v : Ex} : ex F (.setFs cs fs i v) ρ S = (ev F v ρ S).thn ρ fun v S1 => match v with
    | .tup ds => (match varOf ρ i with
      | .loc n => (gcO S.length (setFDs cs fs ds (.loc n) S1)).thn ρ fun _ S3 => .nx ρ S3
      | _ => .bad)
    | _ => .bad := rfl
theorem truth_J (h : At S n m) : truth (putJ S n m J) (.loc m) = some (!J.past.isEmpty) := by
  simp only [truth]
  rw [putJ_m h]
theorem ty_P (h : At S n m) : tyOk .pop (putJ S n m J) (.loc m) = true := len_J h
theorem c_undo0 (h : At S n m) (hp : J.past = []) : callF (run (PG L) (k + 1)) 509 [.loc n] (putJ S n m J) = .exc 6 (putJ S n m J) := by
  refine callF_ex locs_imp ?_
  rw [run_fd (fd := fd_Jar_undo) rfl rfl]
  have t := truth_J (J := J) h
  rw [hp] at t
  simp [fd_Jar_undo, sm_Jar_undo, fj3 h, t]
theorem c_undo1 {J1 : JS} {p : List D} (h : At S n m) (hp : J.past = p ++ [stD J1]) : callF (run (PG L) (k + 1)) 509 [.loc n] (putJ S n m J) = .ok .non (putJ S n m ⟨J1.r, J1.ts, J1.t, p, J.as⟩) := by
  refine callF_st locs_imp ?_ (by simp)
  rw [run_fd (fd := fd_Jar_undo) rfl rfl]
  have t := truth_J (J := J) h
  rw [hp] at t
  have pp : popD (.loc m) (putJ S n m J) = .ok (stD J1) (putJ S n m { J with past := p }) := by
    simp only [popD]
    rw [putJ_m h, hp]
    simp only [List.getLast?_append, List.getLast?_singleton, Option.some_or, List.dropLast_concat]
    rw [putJ_setm h.ne]
  unfold stD at pp
  have sf : setFDs [0] [0, 1, 2] [J1.r.d, .tup (J1.ts.map NT.d), .int J1.t] (.loc n) (putJ S n m { J with past := p }) = .ok .non (putJ S n m ⟨J1.r, J1.ts, J1.t, p, J.as⟩) := by
    simp [setFDs, gj0 h, gj1 h, gj2 h]
  simp [fd_Jar_undo, sm_Jar_undo, fj3 h, t, ty_P h, methD, zero, pp, varOf, sf]
end
/-! ### the law's own taking -/
theorem split_one {c : Nat} : ∀ l : List Nat, decide ((splitC c l).length = 1) = !l.contains c
  | [] => rfl
  | x :: l => by
    have ih := split_one (c := c) l
    have ne := splitC_ne c l
    rw [splitC]
    by_cases h : x = c
    · rw [if_pos h, h]
      cases e : splitC c l with
      | nil => exact absurd e ne
      | cons p ps => simp
    · rw [if_neg h]
      have hb : (c == x) = false := beq_eq_false_iff_ne.mpr fun z => h z.symm
      rw [List.contains_cons, hb, Bool.false_or, ← ih]
      cases e : splitC c l with
      | nil => exact absurd e ne
      | cons p ps => rfl
theorem may_eq (n : NT) (h : List Nat) : mayPut n h = !((n.deep && decide ((splitC 46 n.host).length = 1)) || ((splitC 46 h).drop ((splitC 46 h).length - (splitC 46 n.host).length) != splitC 46 n.host)) := by
  rw [split_one]
  unfold mayPut
  rw [Bool.not_or]
  congr 1
  rw [below_eq, bne, Bool.not_not]
  by_cases e : h = n.host
  · subst e
    simp
  · have hb : (h == n.host) = false := beq_eq_false_iff_ne.mpr e
    rw [hb, Bool.false_or]
    by_cases hl : (splitC 46 n.host).length < (splitC 46 h).length
    · simp [hl]
    · rw [decide_eq_false hl, Bool.false_and, Nat.sub_eq_zero_of_le (by omega), List.drop_zero]
      symm
      rw [beq_eq_false_iff_ne]
      intro z
      exact e (by rw [← join_split (c := 46) h, z, join_split])
def tkS (r : RT) (ts : List NT) (t : Int) (nt : NT) (ho : List Nat) : List NT ⊕ Nat :=
  if mayPut nt ho = true then (if hasEnded r nt t = true then .inl (restF ts nt) else match putF ts nt with
    | some us => .inl us
    | none => .inr 3) else .inr 5
theorem take_S {J : JS} {nt : NT} {ho : List Nat} : takeF J nt ho = match tkS J.r J.ts J.t nt ho with
    | .inl us => .inl (J.bec J.r us J.t)
    | .inr c => .inr c := by
  unfold takeF tkS
  split
  · split
    · rfl
    · cases putF J.ts nt <;> rfl
  · rfl
def tkD (r : RT) (t : Int) : List NT ⊕ Nat → D
  | .inl us => .tup [r.d, .tup (us.map NT.d), .int t]
  | .inr c => .str (wordF c)
end Lw
set_option Elab.async false
set_option linter.all false
set_option maxRecDepth 100000
set_option maxHeartbeats 1000000
namespace Lw
open Ev
def q57_1 : Sm := Sm.asgT [4, 5, 6] (Ex.var 0)
def q57_2 : Sm := Sm.par [7, 8] (Exs.cons (Ex.meth Me.split (Ex.idx (Ex.var 1) (Ex.dat (D.int 2))) (Exs.cons (Ex.dat (D.str [46])) Exs.nil)) (Exs.cons (Ex.meth Me.split (Ex.var 2) (Exs.cons (Ex.dat (D.str [46])) Exs.nil)) Exs.nil))
def q57_3 : Sm := Sm.ife (Ex.or (Ex.and (Ex.idx (Ex.var 1) (Ex.dat (D.int 3))) (Ex.cmp Cop.eq (Ex.bi Bi.len (Exs.cons (Ex.var 7) Exs.nil)) (Ex.dat (D.int 1)))) (Ex.cmp Cop.ne (Ex.slc (Ex.var 8) (Ex.bi Bi.max2 (Exs.cons (Ex.dat (D.int 0)) (Exs.cons (Ex.bin Bop.sub (Ex.bi Bi.len (Exs.cons (Ex.var 8) Exs.nil)) (Ex.bi Bi.len (Exs.cons (Ex.var 7) Exs.nil))) Exs.nil))) (Ex.dat D.non)) (Ex.var 7))) (Sms.cons (Sm.ret (Ex.dat (D.str [110, 111, 116, 32, 116, 104, 101, 105, 114, 115]))) Sms.nil) Sms.nil
def q57_4 : Sm := Sm.asg 3 (Ex.comp ce__law_take__v1_1 (Tg.one 10) (It.of (Ex.var 5)) (Ex.dat (D.bl true)))
def q57_5 : Sm := Sm.ife (Ex.call 28 (Exs.cons (Ex.var 4) (Exs.cons (Ex.var 1) (Exs.cons (Ex.var 6) Exs.nil)))) (Sms.cons (Sm.ret (Ex.tup (Exs.cons (Ex.var 4) (Exs.cons (Ex.bi Bi.tuple (Exs.cons (Ex.comp ce__law_take__v1_2 (Tg.one 10) (It.of (Ex.var 5)) (Ex.cmp Cop.ne (Ex.call 13 (Exs.cons (Ex.var 10) Exs.nil)) (Ex.call 13 (Exs.cons (Ex.var 1) Exs.nil)))) Exs.nil)) (Exs.cons (Ex.var 6) Exs.nil))))) Sms.nil) Sms.nil
def q57_6 : Sm := Sm.ife (Ex.cmp Cop.isin (Ex.call 13 (Exs.cons (Ex.var 1) Exs.nil)) (Ex.var 3)) (Sms.cons (Sm.asg 9 (Ex.meth Me.index (Ex.var 3) (Exs.cons (Ex.call 13 (Exs.cons (Ex.var 1) Exs.nil)) Exs.nil))) (Sms.cons (Sm.ret (Ex.tup (Exs.cons (Ex.var 4) (Exs.cons (Ex.bin Bop.add (Ex.bin Bop.add (Ex.slc (Ex.var 5) (Ex.dat D.non) (Ex.var 9)) (Ex.tup (Exs.cons (Ex.var 1) Exs.nil))) (Ex.slc (Ex.var 5) (Ex.bin Bop.add (Ex.var 9) (Ex.dat (D.int 1))) (Ex.dat D.non))) (Exs.cons (Ex.var 6) Exs.nil))))) Sms.nil)) Sms.nil
def q57_7 : Sm := Sm.ret (Ex.ife (Ex.cmp Cop.gt (Ex.bi Bi.len (Exs.cons (Ex.var 5) Exs.nil)) (Ex.dat (D.int 5))) (Ex.dat (D.str [102, 117, 108, 108])) (Ex.tup (Exs.cons (Ex.var 4) (Exs.cons (Ex.bin Bop.add (Ex.var 5) (Ex.tup (Exs.cons (Ex.var 1) Exs.nil))) (Exs.cons (Ex.var 6) Exs.nil)))))
theorem q57_eq : sm__law_take__v1 = .cons q57_1 (.cons q57_2 (.cons q57_3 (.cons q57_4 (.cons q57_5 (.cons q57_6 (.cons q57_7 .nil)))))) := rfl
section
variable {L : FD} {k : Nat} {r : RT} {nt : NT} {ts : List NT} {t : Int} {ho : List Nat} {v3 v9 v10 : Option D}
theorem cut_max {α : Type} (xs : List α) (b : Nat) : cutL xs (some (if b < xs.length then (xs.length : Int) - b else 0)) none = xs.drop (xs.length - b) := by
  rw [cutL_lo]
  congr 1
  unfold cutIx
  simp only
  split
  · rename_i h
    rw [if_neg (by omega)]
    omega
  · rw [if_neg (by omega)]
    omega
def hl2 (nt : NT) (ho : List Nat) : Store := [.lst ((splitC 46 nt.host).map .str), .lst ((splitC 46 ho).map .str)]
theorem y1 : ex (run (PG L) (k + 2)) q57_1 [some (.tup [r.d, .tup (ts.map NT.d), .int t]), some nt.d, some (.str ho), none, none, none, none, none, none, none, none] [] = .nx [some (.tup [r.d, .tup (ts.map NT.d), .int t]), some nt.d, some (.str ho), none, some r.d, some (.tup (ts.map NT.d)), some (.int t), none, none, none, none] [] := by
  simp [q57_1, setAll]
theorem y2 {v0 v4 v5 v6 : Option D} (h1 : nt.host.length ≤ 10000) (h2 : ho.length ≤ 10000) : ex (run (PG L) (k + 2)) q57_2 [v0, some nt.d, some (.str ho), none, v4, v5, v6, none, none, none, none] [] = .nx [v0, some nt.d, some (.str ho), none, v4, v5, v6, some (.loc 0), some (.loc 1), none, none] (hl2 nt ho) := by
  have s1 := splitD_ok (s := nt.host) (c := 46) (S := []) (by omega) (by omega)
  have s2 := splitD_ok (s := ho) (c := 46) (S := [.lst ((splitC 46 nt.host).map .str)]) (by omega) (by omega)
  have i2 : ∀ S, idxD nt.d (.int 2) S = .ok (.str nt.host) S := fun S => rfl
  simp at s1 s2
  simp [q57_2, i2, tyOk, isStr, methD, one, s1, s2, setAll, hl2]
theorem y3 {v0 v3 v4 v5 v6 v9 v10 : Option D} (h1 : nt.host.length ≤ 10000) (h2 : ho.length ≤ 10000) : ∃ T, ex (run (PG L) (k + 2)) q57_3 [v0, some nt.d, some (.str ho), v3, v4, v5, v6, some (.loc 0), some (.loc 1), v9, v10] (hl2 nt ho) =
    if mayPut nt ho = true then .nx [v0, some nt.d, some (.str ho), v3, v4, v5, v6, some (.loc 0), some (.loc 1), v9, v10] (hl2 nt ho) else .rt (.str (wordF 5)) T := by
  have z1 := split_len 46 nt.host
  have z2 := split_len 46 ho
  have i3 : ∀ S, idxD nt.d (.int 3) S = .ok (.bl nt.deep) S := fun S => rfl
  generalize hT : hl2 nt ho = T2
  have t0 : T2[0]? = some (.lst ((splitC 46 nt.host).map .str)) := by rw [← hT]; rfl
  have t1 : T2[1]? = some (.lst ((splitC 46 ho).map .str)) := by rw [← hT]; rfl
  have cl : closedS T2.length T2 = true := by rw [← hT]; rfl
  generalize hd : (splitC 46 ho).drop ((splitC 46 ho).length - (splitC 46 nt.host).length) = dd
  have ld : dd.length ≤ 10001 := by rw [← hd, List.length_drop]; omega
  have nl : newL (cutL ((splitC 46 ho).map D.str) (some (if (splitC 46 nt.host).length < (splitC 46 ho).length then ((splitC 46 ho).length : Int) - ((splitC 46 nt.host).length : Int) else 0)) none) T2 = .ok (.loc T2.length) (T2 ++ [.lst (dd.map .str)]) := by
    have cm := cut_max ((splitC 46 ho).map D.str) (splitC 46 nt.host).length
    rw [List.length_map, ← List.map_drop, hd] at cm
    rw [cm, newL_ok (pureAll_strs _) (by rw [List.length_map]; omega)]
  have q : cmpD .ne (.loc T2.length) (.loc 0) (T2 ++ [.lst (dd.map .str)]) = .ok (.bl (dd != splitC 46 nt.host)) (T2 ++ [.lst (dd.map .str)]) := by
    rw [ne_of (x := .lit (dd.map .str)) (y := .lit ((splitC 46 nt.host).map .str)) (by simp [der]) (by simp only [der]; rw [List.getElem?_append_left (List.getElem?_eq_some_iff.mp t0).1, t0]) (by rw [depth_lit, depth_st]; omega), eqD_lit, eqDs_st]
    rfl
  have g2 : ∀ T, gc T2.length .non (T2 ++ T) = .ok .non T2 := fun T => gc_drop (S := T2) cl rfl
  have hw : wordF 5 = [110, 111, 116, 32, 116, 104, 101, 105, 114, 115] := rfl
  rw [may_eq, hw, hd]
  clear hT
  refine ⟨T2, ?_⟩
  cases hx : nt.deep with
  | true =>
    by_cases hy : (splitC 46 nt.host).length = 1
    · simp [q57_3, i3, hx, t0, hy, or_if]
    · have hy' : ¬ ((splitC 46 nt.host).length : Int) = 1 := by omega
      by_cases hz : dd = splitC 46 nt.host
      · have hb : (dd != splitC 46 nt.host) = false := by simpa using hz
        simp [q57_3, i3, hx, t0, t1, hy, hy', nl, q, hb, g2, or_if]
      · have hb : (dd != splitC 46 nt.host) = true := by simpa using hz
        simp [q57_3, i3, hx, t0, t1, hy, hy', nl, q, hb, g2, or_if]
  | false =>
    by_cases hz : dd = splitC 46 nt.host
    · have hb : (dd != splitC 46 nt.host) = false := by simpa using hz
      simp [q57_3, i3, hx, t0, t1, nl, q, hb, g2, and_if, or_if]
    · have hb : (dd != splitC 46 nt.host) = true := by simpa using hz
      simp [q57_3, i3, hx, t0, t1, nl, q, hb, g2, and_if, or_if]
theorem e_ltk {F : Nat → List D → Store → Out D} {v0 v2 v3 v4 v6 v7 v8 v9 v10 : Option D} {S : Store} (hF : ∀ (n : NT) S, callF F 13 [n.d] S = .ok n.mk3 S) (hl : ts.length ≤ 1000) : ev F (.comp ce__law_take__v1_1 (.one 10) (.of (.var 5)) (.dat (.bl true))) [v0, some nt.d, v2, v3, v4, some (.tup (ts.map NT.d)), v6, v7, v8, v9, v10] S = .ok (.loc S.length) (S ++ [.lst (ts.map NT.mk3)]) := by
  refine comp_map (l := ts) (f := NT.d) (g := fun n => some n.mk3) rfl (fun n h => ?_) (by rw [← List.filterMap_eq_map]; rfl) (pureAll_mk3 _) (by rw [List.length_map]; omega)
  simp [compTurn, ce__law_take__v1_1, hF, NT.mk3, D.pure, D.pureAll]
theorem e_ltk2 {v0 v2 v3 v4 v6 v7 v8 v9 v10 : Option D} {S : Store} (hl : ts.length ≤ 1000) : ev (run (PG L) (k + 2)) (.comp ce__law_take__v1_2 (.one 10) (.of (.var 5)) (.cmp .ne (.call 13 (.cons (.var 10) .nil)) (.call 13 (.cons (.var 1) .nil)))) [v0, some nt.d, v2, v3, v4, some (.tup (ts.map NT.d)), v6, v7, v8, v9, v10] S = .ok (.loc S.length) (S ++ [.lst ((restF ts nt).map NT.d)]) := by
  refine comp_map (l := ts) (f := NT.d) (g := fun m => if (!decide (m.key = nt.key)) = true then some m.d else none) rfl (fun m h => ?_) (filt_map ts) (pureAll_map fun _ _ => NT.pure _) (by rw [List.length_map]; have := rest_len (n := nt) (ts := ts); omega)
  have c1 := fun (m : NT) S => c_mark (L := L) (k := k + 1) (n := m) (S := S)
  have q := fun S => ne_pure (S := S) (a := m.mk3) (b := nt.mk3) rfl rfl (by simp [NT.mk3, D.depth, D.depthAll])
  rw [eqD_mk3] at q
  cases hd : decide (m.key = nt.key) <;> simp [compTurn, ce__law_take__v1_2, c1, q, hd, NT.pure]
theorem isin_loc {S : Store} {a x : D} {j : Nat} {ys : List D} (ha : der S a = some x) (hb : der S (.loc j) = some (.lit ys)) (hd : x.depth ≤ 60) : cmpD .isin a (.loc j) S = .ok (.bl (ys.any fun y => eqD y x)) S := by
  have : inS S a (.loc j) = some (ys.any fun y => eqD y x) := by
    cases a <;> (simp only [inS]; rw [ha, hb]; simp [hd])
  simp only [cmpD, cmpO, this, blO]
theorem in_mk3S {T : Store} (n : NT) (ts : List NT) : cmpD .isin n.mk3 (.loc T.length) (T ++ [.lst (ts.map NT.mk3)]) = .ok (.bl (posF ts n).isSome) (T ++ [.lst (ts.map NT.mk3)]) := by
  rw [← any_mk3]
  exact isin_loc rfl (by simp [der]) (by simp [NT.mk3, D.depth, D.depthAll])
theorem ix_mk3S {T : Store} {n : NT} {ts : List NT} {j : Nat} (h : posF ts n = some j) (hl : ts.length ≤ 1000) : methD .index (.loc T.length) [n.mk3] (T ++ [.lst (ts.map NT.mk3)]) = .ok (.int j) (T ++ [.lst (ts.map NT.mk3)]) := by
  simp only [methD, one, lplD]
  have d1 : der (T ++ [.lst (ts.map NT.mk3)]) (.loc T.length) = some (.lit (ts.map NT.mk3)) := by simp [der]
  have d2 : der (T ++ [.lst (ts.map NT.mk3)]) n.mk3 = some n.mk3 := rfl
  rw [d1, d2]
  simp only
  rw [find_mk3, h]
  simp only
  rw [if_pos]
  simp [NT.mk3, D.depth, D.depthAll]
  omega
theorem r_ltk (h6 : ts.length ≤ 6) (h1 : nt.host.length ≤ 10000) (h2 : ho.length ≤ 10000) : Gives (run (PG L) (k + 3)) 57 [.tup [r.d, .tup (ts.map NT.d), .int t], nt.d, .str ho] (tkD r t (tkS r ts t nt ho)) := by
  refine gives_of (fd := fd__law_take__v1) rfl rfl ?_
  show Is (endD (exs (run (PG L) (k + 2)) sm__law_take__v1 [some (.tup [r.d, .tup (ts.map NT.d), .int t]), some nt.d, some (.str ho), none, none, none, none, none, none, none, none] [])) _
  rw [q57_eq, exs_cons y1, exs_cons (y2 h1 h2)]
  obtain ⟨T, e3⟩ := y3 (L := L) (k := k) (nt := nt) (ho := ho) (v0 := some (.tup [r.d, .tup (ts.map NT.d), .int t])) (v3 := none) (v4 := some r.d) (v5 := some (.tup (ts.map NT.d))) (v6 := some (.int t)) (v9 := none) (v10 := none) h1 h2
  unfold tkS
  cases hm : mayPut nt ho with
  | false =>
    rw [hm, if_neg Bool.false_ne_true] at e3
    rw [exs_rt e3]
    simp [tkD]
  | true =>
    rw [hm, if_pos rfl] at e3
    rw [exs_cons e3]
    generalize hH : hl2 nt ho = T2
    have cl : closedS T2.length T2 = true := by rw [← hH]; rfl
    clear hH e3
    have e4 := e_ltk (F := run (PG L) (k + 2)) (nt := nt) (ts := ts) (S := T2) (v0 := some (.tup [r.d, .tup (ts.map NT.d), .int t])) (v2 := some (.str ho)) (v3 := none) (v4 := some r.d) (v6 := some (.int t)) (v7 := some (.loc 0)) (v8 := some (.loc 1)) (v9 := none) (v10 := none) (fun n S => c_mark) (by omega)
    have x4 : ex (run (PG L) (k + 2)) q57_4 [some (.tup [r.d, .tup (ts.map NT.d), .int t]), some nt.d, some (.str ho), none, some r.d, some (.tup (ts.map NT.d)), some (.int t), some (.loc 0), some (.loc 1), none, none] T2 = .nx [some (.tup [r.d, .tup (ts.map NT.d), .int t]), some nt.d, some (.str ho), some (.loc T2.length), some r.d, some (.tup (ts.map NT.d)), some (.int t), some (.loc 0), some (.loc 1), none, none] (T2 ++ [.lst (ts.map NT.mk3)]) := by
      simp [q57_4, e4, gc_lst cl]
    rw [exs_cons x4]
    have ce := fun S => c_lended (L := L) (k := k + 1) (r := r) (n := nt) (t := t) (S := S)
    have cm := fun S => c_mark (L := L) (k := k + 1) (n := nt) (S := S)
    cases he : hasEnded r nt t with
    | true =>
      have e5 := fun S => e_ltk2 (L := L) (k := k) (nt := nt) (ts := ts) (S := S) (v0 := some (.tup [r.d, .tup (ts.map NT.d), .int t])) (v2 := some (.str ho)) (v3 := some (.loc T2.length)) (v4 := some r.d) (v6 := some (.int t)) (v7 := some (.loc 0)) (v8 := some (.loc 1)) (v9 := none) (v10 := none) (by omega)
      simp [q57_5, ce, he, e5, tkD]
    | false =>
      have x5 : ex (run (PG L) (k + 2)) q57_5 [some (.tup [r.d, .tup (ts.map NT.d), .int t]), some nt.d, some (.str ho), some (.loc T2.length), some r.d, some (.tup (ts.map NT.d)), some (.int t), some (.loc 0), some (.loc 1), none, none] (T2 ++ [.lst (ts.map NT.mk3)]) = .nx [some (.tup [r.d, .tup (ts.map NT.d), .int t]), some nt.d, some (.str ho), some (.loc T2.length), some r.d, some (.tup (ts.map NT.d)), some (.int t), some (.loc 0), some (.loc 1), none, none] (T2 ++ [.lst (ts.map NT.mk3)]) := by
        simp [q57_5, ce, he]
      rw [exs_cons x5]
      have c2 := in_mk3S (T := T2) nt ts
      unfold putF
      cases hp : posF ts nt with
      | some j =>
        have hj := pos_lt hp
        have c3 := ix_mk3S (T := T2) hp (by omega)
        rw [hp] at c2
        have a1 := fun S => add_tup (S := S) (x := (ts.take j).map NT.d) (y := [nt.d]) (by simp; omega) (by simp)
        have a2 := fun S => add_tup (S := S) (x := (ts.take j).map NT.d ++ [nt.d]) (y := (ts.drop (j + 1)).map NT.d) (by simp; omega) (by simp; omega)
        simp [q57_6, cm, c2, c3, tyOk, listOf, slcD, put_cut, put_cut2 hj, a1, a2, tkD, -List.append_assoc, -List.map_take, -List.map_drop]
      | none =>
        rw [hp] at c2
        have a1 := fun S => add_tup (S := S) (x := ts.map NT.d) (y := [nt.d]) (by simp; omega) (by simp)
        by_cases h5 : 5 < ts.length
        · have h7 : (5 : Int) < ts.length := by omega
          simp [q57_6, q57_7, cm, c2, h5, h7, tkD, wordF]
        · have h7 : ¬ (5 : Int) < ts.length := by omega
          simp [q57_6, q57_7, cm, c2, h5, h7, a1, tkD]
theorem tkD_pure {x : List NT ⊕ Nat} : (tkD r t x).pure = true := by
  cases x with
  | inl us => simp [tkD, D.pure, D.pureAll, RT.pure]
  | inr c => rfl
theorem c_ltk {S : Store} (h6 : ts.length ≤ 6) (h1 : nt.host.length ≤ 10000) (h2 : ho.length ≤ 10000) : callF (run (PG L) (k + 3)) 57 [.tup [r.d, .tup (ts.map NT.d), .int t], nt.d, .str ho] S = .ok (tkD r t (tkS r ts t nt ho)) S := callF_ok (by simp [D.pureAll, D.pure, RT.pure, NT.pure]) (r_ltk h6 h1 h2) tkD_pure
end
end Lw
set_option Elab.async false
set_option linter.all false
set_option maxRecDepth 100000
set_option maxHeartbeats 1000000
namespace Lw
open Ev
variable {L : FD} {k : Nat}
/-! ### deeds -/
inductive DT where
  | ask (h p : List Nat) (s : Bool) (o : Option (List Nat)) (l : Bool)
  | pass (z : Int)
  | take (n : NT) (ho : List Nat)
def DT.d : DT → D
  | .ask h p s o l => .tup [.str [97, 115, 107], .str h, .str p, .bl s, orgD o, .bl l]
  | .pass z => .tup [.str [112, 97, 115, 115, 95, 111, 110], .int z]
  | .take n ho => .tup [.str [116, 97, 107, 101], n.d, .str ho]
theorem DT.pure (x : DT) : x.d.pure = true := by
  cases x with
  | ask h p s o l => cases o <;> rfl
  | pass z => rfl
  | take n ho => simp [DT.d, D.pure, D.pureAll, NT.pure]
def DT.Ok : DT → Prop
  | .ask h p s o l => h.length ≤ 50 ∧ PathG p ∧ ∀ x, o = some x → x.length ≤ 100
  | .pass z => 0 ≤ z ∧ z ≤ 100
  | .take n ho => n.Good ∧ ho.length ≤ 1000
structure JS.Inv (J : JS) (b : Nat) : Prop where
  good : ∀ n ∈ J.ts, n.Good
  six : J.ts.length ≤ 6
  t0 : 0 ≤ J.t
  t1 : J.t ≤ 99
  past : J.past.length ≤ b
  as : J.as.length ≤ b
theorem J0_inv (r : RT) : (J0 r).Inv 0 := ⟨fun n h => (nomatch h), by simp [J0], by simp [J0], by simp [J0], by simp [J0], by simp [J0]⟩
theorem JS.Inv.ask {J : JS} {b : Nat} (h : J.Inv b) {hh p : List Nat} {s : Bool} {o : Option (List Nat)} {l : Bool} (q : (DT.ask hh p s o l).Ok) : (⟨hh, p, J.t, s, o, l⟩ : AT).Ok := ⟨q.1, q.2.1, h.t0, h.t1, q.2.2⟩
def passT (J : JS) (z : Int) : Int := if J.t + z < 99 then J.t + z else 99
def stepF (J : JS) : DT → JS × D
  | .ask h p s o l => (J.askd ⟨h, p, J.t, s, o, l⟩, .tup ((sentF J.r J.ts ⟨h, p, J.t, s, o, l⟩).map pairD))
  | .pass z => (J.bec J.r (freshF J.r J.ts (passT J z)) (passT J z), .non)
  | .take n ho => match takeF J n ho with
    | .inl J' => (J', .str [107, 101, 112, 116])
    | .inr c => (J, .str (wordF c))
theorem mem_put {ts us : List NT} {n x : NT} (h : putF ts n = some us) (hx : x ∈ us) : x ∈ ts ∨ x = n := by
  unfold putF at h
  split at h
  · simp only [Option.some.injEq] at h
    subst h
    rcases List.mem_append.mp hx with hx | hx
    · rcases List.mem_append.mp hx with hx | hx
      · exact .inl (List.mem_of_mem_take hx)
      · exact .inr (List.mem_singleton.mp hx)
    · exact .inl (List.mem_of_mem_drop hx)
  · split at h
    · cases h
    · simp only [Option.some.injEq] at h
      subst h
      rcases List.mem_append.mp hx with hx | hx
      · exact .inl hx
      · exact .inr (List.mem_singleton.mp hx)
theorem bec_inv {J : JS} {b : Nat} {r' : RT} {us : List NT} {t' : Int} (h : J.Inv b) (hg : ∀ n ∈ us, n.Good) (h6 : us.length ≤ 6) (h0 : 0 ≤ t') (h1 : t' ≤ 99) : (J.bec r' us t').Inv (b + 1) := ⟨hg, h6, h0, h1, by simp [JS.bec]; exact h.past, Nat.le_succ_of_le h.as⟩
theorem take_inv {J J' : JS} {b : Nat} {n : NT} {ho : List Nat} (h : J.Inv b) (hn : n.Good) (e : takeF J n ho = .inl J') : J'.Inv (b + 1) ∧ J'.r = J.r ∧ J'.t = J.t := by
  unfold takeF at e
  split at e
  · split at e
    · cases e
      exact ⟨bec_inv h (fun x hx => h.good x ((List.mem_filter.mp hx).1)) (Nat.le_trans rest_len h.six) h.t0 h.t1, rfl, rfl⟩
    · split at e
      · rename_i us hp
        cases e
        refine ⟨bec_inv h (fun x hx => ?_) (put_len hp h.six).1 h.t0 h.t1, rfl, rfl⟩
        rcases mem_put hp hx with hx | rfl
        · exact h.good x hx
        · exact hn
      · cases e
  · cases e
theorem fresh_len {r : RT} {ts : List NT} {t : Int} : (freshF r ts t).length ≤ ts.length := List.length_filter_le _ _
theorem passT_b {J : JS} {z : Int} (h0 : 0 ≤ J.t) (hz : 0 ≤ z) : 0 ≤ passT J z ∧ passT J z ≤ 99 := by unfold passT; split <;> omega
theorem JS.Inv.mono {J : JS} {b c : Nat} (h : J.Inv b) (hc : b ≤ c) : J.Inv c := ⟨h.good, h.six, h.t0, h.t1, Nat.le_trans h.past hc, Nat.le_trans h.as hc⟩
theorem step_inv {J : JS} {b : Nat} {x : DT} (h : J.Inv b) (hx : x.Ok) : (stepF J x).1.Inv (b + 1) ∧ (stepF J x).1.r = J.r := by
  cases x with
  | ask hh p s o l => exact ⟨⟨h.good, h.six, h.t0, h.t1, Nat.le_succ_of_le h.past, by simp [stepF, JS.askd]; exact h.as⟩, rfl⟩
  | pass z =>
    have hb := passT_b (J := J) h.t0 hx.1
    exact ⟨bec_inv h (fun y hy => h.good y ((List.mem_filter.mp hy).1)) (Nat.le_trans fresh_len h.six) hb.1 hb.2, rfl⟩
  | take n ho =>
    unfold stepF
    simp only
    cases e : takeF J n ho with
    | inl J' =>
      have := take_inv h hx.1 e
      exact ⟨this.1, this.2.1⟩
    | inr c => exact ⟨h.mono (Nat.le_succ _), rfl⟩
def toldF : JS → List DT → List D
  | _, [] => []
  | J, x :: xs => (stepF J x).2 :: toldF (stepF J x).1 xs
def endF : JS → List DT → JS
  | J, [] => J
  | J, x :: xs => endF (stepF J x).1 xs
theorem told_len : ∀ (xs : List DT) (J : JS), (toldF J xs).length = xs.length
  | [], J => rfl
  | x :: xs, J => by rw [toldF, List.length_cons, told_len xs, List.length_cons]
theorem told_take : ∀ (xs : List DT) (J : JS) (c : Nat), toldF J (xs.take c) = (toldF J xs).take c
  | [], J, c => by simp [toldF]
  | x :: xs, J, 0 => rfl
  | x :: xs, J, c + 1 => by rw [List.take_succ_cons, toldF, toldF, List.take_succ_cons, told_take xs]
/-- what is told is data, not deep -/
def Flat (d : D) : Prop := d.pure = true ∧ d.depth ≤ 2 ∧ plainD d = true
theorem step_flat {J : JS} {x : DT} (h : J.ts.length ≤ 1000) : Flat (stepF J x).2 := by
  cases x with
  | ask hh p s o l =>
    have hd := depth_map (l := sentF J.r J.ts ⟨hh, p, J.t, s, o, l⟩) (f := pairD) (m := 1) (fun _ _ => by simp [pairD, D.depth, D.depthAll])
    have hm := sent_len (r := J.r) (a := ⟨hh, p, J.t, s, o, l⟩) (ns := J.ts)
    refine ⟨pairs_pure, by simp only [stepF, D.depth]; omega, ?_⟩
    show plainD (.tup _) = true
    rw [plainD, plain_map (fun _ _ => rfl)]
    simp
    omega
  | pass z => exact ⟨rfl, by simp [stepF, D.depth], rfl⟩
  | take n ho =>
    unfold stepF
    simp only
    split
    · exact ⟨rfl, by simp [D.depth], rfl⟩
    · exact ⟨rfl, by simp [D.depth], rfl⟩
theorem told_flat : ∀ (xs : List DT) (J : JS) (b : Nat), J.Inv b → (∀ x ∈ xs, x.Ok) → ∀ d ∈ toldF J xs, Flat d
  | [], J, b, h, hx, d, hd => (nomatch hd)
  | x :: xs, J, b, h, hx, d, hd => by
    rw [toldF] at hd
    rcases List.mem_cons.mp hd with rfl | hd
    · exact step_flat (by have := h.six; omega)
    · exact told_flat xs _ _ (step_inv h (hx x List.mem_cons_self)).1 (fun y hy => hx y (List.mem_cons_of_mem _ hy)) d hd
/-! ### do, run -/
section
variable {S : Store} {n m : Nat} {J : JS} {b : Nat}
def manyK (F : Nat → List D → Store → Out D) (hs : Hds) : SOut → SOut
  | .exc e ρ1 S1 => hands F hs e ρ1 S1
  | o => o
@[simp] theorem sex_many {F : Nat → List D → Store → Out D} {ρ : Env} {S : Store} {bd : Sms} {hs : Hds} : ex F (.tryMany bd hs) ρ S = manyK F hs (exs F bd ρ S) := by
  rw [ex]
  cases exs F bd ρ S <;> rfl
@[simp] theorem manyK_nx {F : Nat → List D → Store → Out D} {ρ : Env} {S : Store} {hs : Hds} : manyK F hs (.nx ρ S) = .nx ρ S := rfl
@[simp] theorem manyK_rt {F : Nat → List D → Store → Out D} {d : D} {S : Store} {hs : Hds} : manyK F hs (.rt d S) = .rt d S := rfl
@[simp] theorem manyK_exc {F : Nat → List D → Store → Out D} {ρ : Env} {S : Store} {hs : Hds} {e : Nat} : manyK F hs (.exc e ρ S) = hands F hs e ρ S := rfl
theorem r_do {x : DT} (h : At S n m) (hi : J.Inv b) (hb : b < 900) (hx : x.Ok) : run (PG L) (k + 7) 53 [.loc n, x.d] (putJ S n m J) = .ok (stepF J x).2 (putJ S n m (stepF J x).1) := by
  rw [run_fd (fd := fd_do) rfl rfl]
  have hp := hi.past
  have ha := hi.as
  have h6 := hi.six
  cases x with
  | ask hh p s o l =>
    have c1 := c_askJ (L := L) (k := k) (J := J) (h := hh) (p := p) (s := s) (o := o) (l := l) h hi.good (hi.ask hx) (by omega) (by omega)
    simp [fd_do, sm_do, DT.d, idxD, atZ, retO, mc_J h, mid, c1, stepF]
  | pass z =>
    have c1 := c_passon (L := L) (k := k + 3) (J := J) (z := z) h (by omega) (by omega)
    simp only [← passT.eq_1] at c1
    simp [fd_do, sm_do, DT.d, idxD, atZ, retO, mc_J h, mid, c1, stepF]
  | take nt ho =>
    have c1 := c_take (L := L) (k := k + 1) (J := J) (nt := nt) (ho := ho) h (by omega) h6 (by have := hx.1.host; omega) (by have := hx.2; omega)
    have i1 : ∀ S, idxD (.tup [.str [116, 97, 107, 101], nt.d, .str ho]) (.int 1) S = .ok nt.d S := fun S => rfl
    have i0 : ∀ S, idxD (.tup [.str [116, 97, 107, 101], nt.d, .str ho]) (.int 0) S = .ok (.str [116, 97, 107, 101]) S := fun S => rfl
    have i2 : ∀ S, idxD (.tup [.str [116, 97, 107, 101], nt.d, .str ho]) (.int 2) S = .ok (.str ho) S := fun S => rfl
    cases e : takeF J nt ho with
    | inl J' =>
      rw [e] at c1
      simp [fd_do, sm_do, DT.d, i0, i1, i2, mc_J h, mid, c1, stepF, e, sumO]
    | inr c =>
      rw [e] at c1
      rcases take_c e with rfl | rfl
      · simp [fd_do, sm_do, DT.d, i0, i1, i2, mc_J h, mid, c1, stepF, e, sumO, hands, subC, hotEnd, wordF]
      · simp [fd_do, sm_do, DT.d, i0, i1, i2, mc_J h, mid, c1, stepF, e, sumO, hands, subC, hotEnd, wordF]
theorem c_do {x : DT} (h : At S n m) (hi : J.Inv b) (hb : b < 900) (hx : x.Ok) : callF (run (PG L) (k + 7)) 53 [.loc n, x.d] (putJ S n m J) = .ok (stepF J x).2 (putJ S n m (stepF J x).1) := callF_st locs_imp (r_do h hi hb hx) (by simp)
theorem comp_run {v0 v1 v3 : Option D} (h : At S n m) : ∀ (xs : List DT) (J : JS) (b : Nat), J.Inv b → b + xs.length < 900 → (∀ x ∈ xs, x.Ok) →
    compLoop (compTurn (run (PG L) (k + 7)) ce_run_1 (.one 3) (.dat (.bl true)) [v0, v1, some (.loc n), v3]) (xs.map DT.d) (putJ S n m J) = .ok (toldF J xs) (putJ S n m (endF J xs))
  | [], J, b, hi, hl, hx => rfl
  | x :: xs, J, b, hi, hl, hx => by
    rw [List.length_cons] at hl
    have hx0 := hx x List.mem_cons_self
    have c1 := c_do (L := L) (k := k) h hi (by omega) hx0
    have ih := comp_run (v0 := v0) (v1 := v1) (v3 := v3) h xs (stepF J x).1 (b + 1) (step_inv hi hx0).1 (by omega) fun y hy => hx y (List.mem_cons_of_mem _ hy)
    have fl := step_flat (J := J) (x := x) (by have := hi.six; omega)
    have t1 : compTurn (run (PG L) (k + 7)) ce_run_1 (.one 3) (.dat (.bl true)) [v0, v1, some (.loc n), v3] x.d (putJ S n m J) = .ok (some (stepF J x).2) (putJ S n m (stepF J x).1) := by
      simp [compTurn, ce_run_1, c1, fl.1]
    rw [List.map_cons, compLoop, t1]
    simp only [ok_bind]
    rw [ih]
    rfl
end
theorem pure_of_flat {ds : List D} (h : ∀ d ∈ ds, Flat d) : D.pureAll ds = true := by
  have := pureAll_map (f := id) (l := ds) fun d hd => (h d hd).1
  simpa using this
theorem deeds_pure {xs : List DT} : D.pure (.tup (xs.map DT.d)) = true := by rw [D.pure]; exact pureAll_map fun x _ => x.pure
theorem r_run {r : RT} {xs : List DT} (hl : xs.length ≤ 500) (hx : ∀ x ∈ xs, x.Ok) : Gives (run (PG L) (k + 8)) 54 [r.d, .tup (xs.map DT.d)] (.tup (toldF (J0 r) xs)) := by
  refine gives_of (fd := fd_run) rfl rfl ?_
  have mk := c_make (L := L) (k := k + 6) (S := []) (r := r)
  simp at mk
  have g : gc 0 (.loc 0) [jarO (J0 r) 1, .lst []] = .ok (.loc 0) [jarO (J0 r) 1, .lst []] := rfl
  have e : [jarO (J0 r) 1, MO.lst []] = putJ [.lst [], .lst []] 0 1 (J0 r) := rfl
  have at0 : At [.lst [], .lst []] 0 1 := ⟨by simp, by simp, by omega⟩
  have c1 := comp_run (L := L) (k := k) (v0 := some r.d) (v1 := some (.tup (xs.map DT.d))) (v3 := none) at0 xs (J0 r) 0 (J0_inv r) (by omega) hx
  have pu := pure_of_flat (told_flat xs (J0 r) 0 (J0_inv r) hx)
  have ll := told_len xs (J0 r)
  have ec : ev (run (PG L) (k + 7)) (.comp ce_run_1 (.one 3) (.of (.var 1)) (.dat (.bl true))) [some r.d, some (.tup (xs.map DT.d)), some (.loc 0), none] (putJ [.lst [], .lst []] 0 1 (J0 r)) = .ok (.loc 2) (putJ [.lst [], .lst []] 0 1 (endF (J0 r) xs) ++ [.lst (toldF (J0 r) xs)]) := by
    rw [ev_comp]
    have hi : evIt (run (PG L) (k + 7)) (.of (.var 1)) [some r.d, some (.tup (xs.map DT.d)), some (.loc 0), none] (putJ [.lst [], .lst []] 0 1 (J0 r)) = .ok ⟨xs.map DT.d, none⟩ (putJ [.lst [], .lst []] 0 1 (J0 r)) := rfl
    rw [hi]
    simp only [ok_bind]
    rw [c1]
    simp only [noexc, lockEnd, unlock, ok_bind]
    rw [newL_ok pu (by omega)]
    simp
  have tp : tupleD (.loc 2) (putJ [.lst [], .lst []] 0 1 (endF (J0 r) xs) ++ [.lst (toldF (J0 r) xs)]) = .ok (.tup (toldF (J0 r) xs)) (putJ [.lst [], .lst []] 0 1 (endF (J0 r) xs) ++ [.lst (toldF (J0 r) xs)]) := by
    simp [tupleD, listOf]
  rw [e] at mk g
  simp [fd_run, sm_run, mk, g]
  rw [ec]
  simp [tp]
theorem told_pure {r : RT} {xs : List DT} (hx : ∀ x ∈ xs, x.Ok) : D.pure (.tup (toldF (J0 r) xs)) = true := by
  rw [D.pure]
  exact pure_of_flat (told_flat xs (J0 r) 0 (J0_inv r) hx)
theorem c_run {r : RT} {xs : List DT} {S : Store} (hl : xs.length ≤ 500) (hx : ∀ x ∈ xs, x.Ok) : callF (run (PG L) (k + 8)) 54 [r.d, .tup (xs.map DT.d)] S = .ok (.tup (toldF (J0 r) xs)) S := callF_ok (by simp [D.pureAll, deeds_pure, RT.pure]) (r_run hl hx) (told_pure hx)
end Lw
set_option Elab.async false
set_option linter.all false
set_option maxRecDepth 100000
set_option maxHeartbeats 1000000
namespace Lw
open Ev
variable {L : FD} {k : Nat}
/-! ### _law_run -/
section
variable {J : JS} {b : Nat} {v0 v1 v2 v5 v6 v7 : Option D} {told : List D}
theorem app_1 {d : D} (hd : d.pure = true) (hl : told.length < 1000) : methD .append (.loc 0) [d] [.lst told] = .ok .non [.lst (told ++ [d])] := by
  have hz : told.length < lineN := by unfold lineN; omega
  simp [methD, one, appendD, hd, hz]
theorem lrun_turn {x : DT} (hi : J.Inv b) (or : J.r.Ok) (hx : x.Ok) (hl : told.length < 900) : ∃ w5 w6 w7, loopTurn (run (PG L) (k + 7)) (.one 2) lb__law_run_1 false x.d [some J.r.d, v1, v2, some (stD J), some (.loc 0), v5, v6, v7] [.lst told] =
    .nx [some J.r.d, v1, some x.d, some (stD (stepF J x).1), some (.loc 0), w5, w6, w7] [.lst (told ++ [(stepF J x).2])] := by
  have fl := step_flat (J := J) (x := x) (by have := hi.six; omega)
  have ap := app_1 (told := told) fl.1 (by omega)
  have h6 := hi.six
  have t0 : ∀ S, idxD (stD J) (.int 0) S = .ok J.r.d S := fun S => rfl
  have t1 : ∀ S, idxD (stD J) (.int 1) S = .ok (.tup (J.ts.map NT.d)) S := fun S => rfl
  have t2 : ∀ S, idxD (stD J) (.int 2) S = .ok (.int J.t) S := fun S => rfl
  have ty : tyOk .append [.lst told] (.loc 0) = true := rfl
  cases x with
  | ask hh p s o l =>
    refine ⟨v5, v6, v7, ?_⟩
    have c1 := fun S => c_lsent (L := L) (k := k + 3) (r := J.r) (S := S) or hi.good (hi.ask hx) (by omega)
    have i0 : ∀ S, idxD (DT.ask hh p s o l).d (.int 0) S = .ok (.str [97, 115, 107]) S := fun S => rfl
    have i1 : ∀ S, idxD (DT.ask hh p s o l).d (.int 1) S = .ok (.str hh) S := fun S => rfl
    have i2 : ∀ S, idxD (DT.ask hh p s o l).d (.int 2) S = .ok (.str p) S := fun S => rfl
    have i3 : ∀ S, slcD (DT.ask hh p s o l).d (some 3) none S = .ok (.tup [.bl s, orgD o, .bl l]) S := fun S => rfl
    have a1 : ∀ S, binD .add (.tup [.str hh, .str p, .int J.t]) (.tup [.bl s, orgD o, .bl l]) S = .ok (⟨hh, p, J.t, s, o, l⟩ : AT).d S := fun S => rfl
    simp only [stepF] at ap ⊢
    have es : stD (J.askd ⟨hh, p, J.t, s, o, l⟩) = stD J := rfl
    rw [es]
    generalize (DT.ask hh p s o l).d = xd at *
    generalize stD J = sd at *
    simp [loopTurn, putTg, lb__law_run_1, i0, i1, i2, i3, t1, t2, a1, c1, ty, ap]
  | pass z =>
    have i0 : ∀ S, idxD (DT.pass z).d (.int 0) S = .ok (.str [112, 97, 115, 115, 95, 111, 110]) S := fun S => rfl
    have i1 : ∀ S, idxD (DT.pass z).d (.int 1) S = .ok (.int z) S := fun S => rfl
    refine ⟨some (.int (passT J z)), v6, v7, ?_⟩
    have hp : (if J.t + z < 99 then J.t + z else 99) = passT J z := rfl
    have e1 : ∀ v2, ev (run (PG L) (k + 7)) (.comp ce__law_run_1 (.one 7) (.of (.idx (.var 3) (.dat (.int 1)))) (.not (.call 28 (.cons (.var 0) (.cons (.var 7) (.cons (.var 5) .nil)))))) [some J.r.d, v1, v2, some (stD J), some (.loc 0), some (.int (passT J z)), v6, v7] [.lst told] = .ok (.loc 1) [.lst told, .lst ((freshF J.r J.ts (passT J z)).map NT.d)] := fun v2 => by
      refine comp_map (S := [.lst told]) (l := J.ts) (f := NT.d) (g := fun m => if (!hasEnded J.r m (passT J z)) = true then some m.d else none) rfl (fun m h => ?_) (filt_map J.ts) (pureAll_map fun _ _ => NT.pure _) (by rw [List.length_map]; have := List.length_filter_le (fun m : NT => !hasEnded J.r m (passT J z)) J.ts; unfold freshF; omega)
      have c1 := fun S => c_lended (L := L) (k := k + 6) (r := J.r) (n := m) (t := passT J z) (S := S)
      cases hd : hasEnded J.r m (passT J z) <;> simp [compTurn, ce__law_run_1, c1, hd, NT.pure]
    simp only [stepF] at ap ⊢
    have es : stD (J.bec J.r (freshF J.r J.ts (passT J z)) (passT J z)) = .tup [J.r.d, .tup ((freshF J.r J.ts (passT J z)).map NT.d), .int (passT J z)] := rfl
    rw [es]
    have g1 : ∀ (d : D) (T : Store), d.pure = true → gc 1 d (.lst told :: T) = .ok d [.lst told] := fun d T h => gc_drop (S := [.lst told]) (T := T) rfl (low_pure _ _ h)
    have pf : D.pure (.tup [J.r.d, .tup ((freshF J.r J.ts (passT J z)).map NT.d), .int (passT J z)]) = true := by simp [D.pure, D.pureAll, RT.pure]
    generalize hq : (freshF J.r J.ts (passT J z)).map NT.d = fr at *
    generalize (DT.pass z).d = xd at *
    generalize stD J = sd at *
    simp [loopTurn, putTg, lb__law_run_1, i0, i1, t2, hp, e1, g1, pf, ty, ap]
  | take nt ho =>
    have i0 : ∀ S, idxD (DT.take nt ho).d (.int 0) S = .ok (.str [116, 97, 107, 101]) S := fun S => rfl
    have i1 : ∀ S, idxD (DT.take nt ho).d (.int 1) S = .ok nt.d S := fun S => rfl
    have i2 : ∀ S, idxD (DT.take nt ho).d (.int 2) S = .ok (.str ho) S := fun S => rfl
    have c1 := fun S => c_ltk (L := L) (k := k + 4) (r := J.r) (t := J.t) (nt := nt) (ts := J.ts) (ho := ho) (S := S) h6 (by have := hx.1.host; omega) (by have := hx.2; omega)
    have es : D.tup [J.r.d, .tup (J.ts.map NT.d), .int J.t] = stD J := rfl
    rw [es] at c1
    simp only [stepF, take_S] at ap ⊢
    generalize (DT.take nt ho).d = xd at *
    cases e : tkS J.r J.ts J.t nt ho with
    | inl us =>
      rw [e] at c1 ap
      simp only at ap ⊢
      have ec : stD (J.bec J.r us J.t) = tkD J.r J.t (.inl us) := rfl
      rw [ec]
      have is : ∀ S, isTys S (tkD J.r J.t (.inl us)) [.tStr] = some false := fun S => rfl
      refine ⟨v5, some (tkD J.r J.t (.inl us)), v7, ?_⟩
      generalize tkD J.r J.t (.inl us) = nd at *
      generalize stD J = sd at *
      simp [loopTurn, putTg, lb__law_run_1, i0, i1, i2, c1, is, blO, ty, ap]
    | inr c =>
      rw [e] at c1 ap
      simp only at ap ⊢
      have is : ∀ S, isTys S (tkD J.r J.t (.inr c)) [.tStr] = some true := fun S => rfl
      have ec : D.str (wordF c) = tkD J.r J.t (.inr c) := rfl
      rw [ec] at ap ⊢
      refine ⟨v5, some (tkD J.r J.t (.inr c)), v7, ?_⟩
      generalize tkD J.r J.t (.inr c) = nd at *
      generalize stD J = sd at *
      simp [loopTurn, putTg, lb__law_run_1, i0, i1, i2, c1, is, blO, ty, ap]
theorem lrun_loop : ∀ (xs : List DT) (J : JS) (b : Nat) (told : List D) (v2 v5 v6 v7 : Option D), J.Inv b → J.r.Ok → (∀ x ∈ xs, x.Ok) → told.length + xs.length < 900 →
    ∃ w2 w5 w6 w7, forLoop (loopTurn (run (PG L) (k + 7)) (.one 2) lb__law_run_1 false) (xs.map DT.d) [some J.r.d, v1, v2, some (stD J), some (.loc 0), v5, v6, v7] [.lst told] = .nx [some J.r.d, v1, w2, some (stD (endF J xs)), some (.loc 0), w5, w6, w7] [.lst (told ++ toldF J xs)]
  | [], J, b, told, v2, v5, v6, v7, hi, or, hx, hl => ⟨v2, v5, v6, v7, by simp [forLoop, endF, toldF]⟩
  | x :: xs, J, b, told, v2, v5, v6, v7, hi, or, hx, hl => by
    rw [List.length_cons] at hl
    have hx0 := hx x List.mem_cons_self
    obtain ⟨w5, w6, w7, e⟩ := lrun_turn (L := L) (k := k) (v1 := v1) (v2 := v2) (v5 := v5) (v6 := v6) (v7 := v7) (told := told) hi or hx0 (by omega)
    obtain ⟨si, sr⟩ := step_inv hi hx0
    obtain ⟨u2, u5, u6, u7, e2⟩ := lrun_loop xs (stepF J x).1 (b + 1) (told ++ [(stepF J x).2]) (some x.d) w5 w6 w7 si (by rw [sr]; exact or) (fun y hy => hx y (List.mem_cons_of_mem _ hy)) (by simp; omega)
    rw [sr] at e2
    refine ⟨u2, u5, u6, u7, ?_⟩
    rw [List.map_cons, forLoop, e]
    simp only
    rw [e2]
    simp [endF, toldF]
end
theorem walk_tup {n : Nat} {xs : List D} {S : Store} : walkOf n (.tup xs) S = .ok ⟨xs, none⟩ S := rfl
theorem lockS_none {o : SOut} : lockEndS none o = o := by cases o <;> rfl
theorem r_lrun {r : RT} {xs : List DT} (or : r.Ok) (hl : xs.length ≤ 500) (hx : ∀ x ∈ xs, x.Ok) : Gives (run (PG L) (k + 8)) 58 [r.d, .tup (xs.map DT.d)] (.tup [.tup (toldF (J0 r) xs), .tup ((endF (J0 r) xs).ts.map NT.d)]) := by
  refine gives_of (fd := fd__law_run) rfl rfl ?_
  obtain ⟨u2, u5, u6, u7, e⟩ := lrun_loop (L := L) (k := k) (v1 := some (.tup (xs.map DT.d))) xs (J0 r) 0 [] none none none none (J0_inv r) or hx (by simp; omega)
  have e0 : stD (J0 r) = .tup [r.d, .tup [], .int 0] := rfl
  have nl : newL [] ([] : Store) = .ok (.loc 0) [.lst []] := rfl
  rw [e0] at e
  have it : ∀ ρ3 ρ4 S, evIt (run (PG L) (k + 7)) (.of (.var 1)) [some r.d, some (.tup (xs.map DT.d)), none, ρ3, ρ4, none, none, none] S = .ok ⟨xs.map DT.d, none⟩ S := fun _ _ _ => rfl
  have x1 : ∀ S, idxD (stD (endF (J0 r) xs)) (.int 1) S = .ok (.tup ((endF (J0 r) xs).ts.map NT.d)) S := fun S => rfl
  have tp : ∀ ds, tupleD (.loc 0) [.lst ds] = .ok (.tup ds) [.lst ds] := fun ds => rfl
  have e' : forLoop (loopTurn (run (PG L) (k + 7)) (.one 2) lb__law_run_1 false) (xs.map DT.d) [some r.d, some (.tup (xs.map DT.d)), none, some (.tup [r.d, .tup [], .int 0]), some (.loc 0), none, none, none] [.lst []] = .nx [some r.d, some (.tup (xs.map DT.d)), u2, some (stD (endF (J0 r) xs)), some (.loc 0), u5, u6, u7] [.lst (toldF (J0 r) xs)] := by
    simpa [J0] using e
  generalize stD (endF (J0 r) xs) = sd at *
  simp [fd__law_run, sm__law_run, nl, setAll, ex_loop, walk_tup, e', lockS_none, tp, x1]
theorem c_lrun {r : RT} {xs : List DT} {S : Store} (or : r.Ok) (hl : xs.length ≤ 500) (hx : ∀ x ∈ xs, x.Ok) : callF (run (PG L) (k + 8)) 58 [r.d, .tup (xs.map DT.d)] S = .ok (.tup [.tup (toldF (J0 r) xs), .tup ((endF (J0 r) xs).ts.map NT.d)]) S := callF_ok (by simp [D.pureAll, deeds_pure, RT.pure]) (r_lrun or hl hx) (by
  rw [D.pure, D.pureAll, told_pure hx, D.pureAll, notes_pure]
  rfl)
end Lw
set_option Elab.async false
set_option linter.all false
set_option maxRecDepth 100000
set_option maxHeartbeats 1000000
namespace Lw
open Ev
variable {L : FD} {k : Nat}
/-! ### _law_by_jar -/
section
variable {J : JS} {b : Nat} {v0 v1 v2 v5 : Option D} {told : List D}
def B3 (told : List D) : Store := [.lst [], .lst [], .lst told]
theorem atB : At (B3 told) 0 1 := ⟨by simp [B3], by simp [B3], by omega⟩
@[simp] theorem lenB : (B3 told).length = 3 := rfl
theorem app_B {d : D} (hd : d.pure = true) (hl : told.length < 1000) : methD .append (.loc 2) [d] (putJ (B3 told) 0 1 J) = .ok .non (putJ (B3 (told ++ [d])) 0 1 J) := by
  have hz : told.length < lineN := by unfold lineN; omega
  have e : putJ (B3 told) 0 1 J = [jarO J 1, .lst J.past, .lst told] := rfl
  have e2 : putJ (B3 (told ++ [d])) 0 1 J = [jarO J 1, .lst J.past, .lst (told ++ [d])] := rfl
  rw [e, e2]
  simp [methD, one, appendD, hd, hz]
theorem ty_B : tyOk .append (putJ (B3 told) 0 1 J) (.loc 2) = true := rfl
theorem byjar_turn {x : DT} (hi : J.Inv b) (hb : b < 900) (hx : x.Ok) (hl : told.length < 900) : ∃ w5, loopTurn (run (PG L) (k + 7)) (.one 2) lb__law_by_jar_1 false x.d [v0, v1, v2, some (.loc 0), some (.loc 2), v5] (putJ (B3 told) 0 1 J) =
    .nx [v0, v1, some x.d, some (.loc 0), some (.loc 2), w5] (putJ (B3 (told ++ [(stepF J x).2])) 0 1 (stepF J x).1) := by
  have fl := step_flat (J := J) (x := x) (by have := hi.six; omega)
  have ap := fun J' => app_B (told := told) (J := J') fl.1 (by omega)
  have h6 := hi.six
  have hp := hi.past
  have ha := hi.as
  have ty := fun J' => ty_B (told := told) (J := J')
  cases x with
  | ask hh p s o l =>
    refine ⟨v5, ?_⟩
    have c1 := c_askJ (L := L) (k := k + 1) (S := B3 told) (n := 0) (m := 1) (J := J) (h := hh) (p := p) (s := s) (o := o) (l := l) atB hi.good (hi.ask hx) (by omega) (by omega)
    have i0 : ∀ S, idxD (DT.ask hh p s o l).d (.int 0) S = .ok (.str [97, 115, 107]) S := fun S => rfl
    have i1 : ∀ S, idxD (DT.ask hh p s o l).d (.int 1) S = .ok (.str hh) S := fun S => rfl
    have i2 : ∀ S, idxD (DT.ask hh p s o l).d (.int 2) S = .ok (.str p) S := fun S => rfl
    have i3 : ∀ S, idxD (DT.ask hh p s o l).d (.int 3) S = .ok (.bl s) S := fun S => rfl
    have i4 : ∀ S, idxD (DT.ask hh p s o l).d (.int 4) S = .ok (orgD o) S := fun S => rfl
    have i5 : ∀ S, idxD (DT.ask hh p s o l).d (.int 5) S = .ok (.bl l) S := fun S => rfl
    simp only [stepF] at ap ⊢
    generalize (DT.ask hh p s o l).d = xd at *
    simp [loopTurn, putTg, lb__law_by_jar_1, i0, i1, i2, i3, i4, i5, ty, mc_J atB, mid, c1, ap]
  | pass z =>
    refine ⟨v5, ?_⟩
    have c1 := c_passon (L := L) (k := k + 4) (S := B3 told) (n := 0) (m := 1) (J := J) (z := z) atB (by omega) (by omega)
    simp only [← passT.eq_1] at c1
    have i0 : ∀ S, idxD (DT.pass z).d (.int 0) S = .ok (.str [112, 97, 115, 115, 95, 111, 110]) S := fun S => rfl
    have i1 : ∀ S, idxD (DT.pass z).d (.int 1) S = .ok (.int z) S := fun S => rfl
    simp only [stepF] at ap ⊢
    generalize (DT.pass z).d = xd at *
    simp [loopTurn, putTg, lb__law_by_jar_1, i0, i1, ty, mc_J atB, mid, c1, ap]
  | take nt ho =>
    have c1 := c_take (L := L) (k := k + 2) (S := B3 told) (n := 0) (m := 1) (J := J) (nt := nt) (ho := ho) atB (by omega) h6 (by have := hx.1.host; omega) (by have := hx.2; omega)
    have i0 : ∀ S, idxD (DT.take nt ho).d (.int 0) S = .ok (.str [116, 97, 107, 101]) S := fun S => rfl
    have i1 : ∀ S, idxD (DT.take nt ho).d (.int 1) S = .ok nt.d S := fun S => rfl
    have i2 : ∀ S, idxD (DT.take nt ho).d (.int 2) S = .ok (.str ho) S := fun S => rfl
    simp only [stepF] at ap ⊢
    generalize (DT.take nt ho).d = xd at *
    cases e : takeF J nt ho with
    | inl J' =>
      rw [e] at c1 ap
      simp only at ap
      refine ⟨v5, ?_⟩
      simp [loopTurn, putTg, lb__law_by_jar_1, i0, i1, i2, ty, mc_J atB, mid, c1, sumO, ap]
    | inr c =>
      rw [e] at c1 ap
      simp only at ap
      have hx5 : ∀ S, hotF c (run (PG L) (k + 7)) 1005 [] S = .ok (.bl (subC c 5)) S := fun S => rfl
      have hx3 : ∀ S, hotF c (run (PG L) (k + 7)) 1003 [] S = .ok (.bl (subC c 3)) S := fun S => rfl
      refine ⟨none, ?_⟩
      rcases take_c e with rfl | rfl
      · simp only [wordF] at ap
        simp [loopTurn, putTg, lb__law_by_jar_1, i0, i1, i2, ty, mc_J atB, mid, c1, sumO, ap, subC, hx5, hx3, wordF]
      · simp only [wordF] at ap
        simp [loopTurn, putTg, lb__law_by_jar_1, i0, i1, i2, ty, mc_J atB, mid, c1, sumO, ap, subC, hx5, hx3, wordF]
theorem byjar_loop : ∀ (xs : List DT) (J : JS) (b : Nat) (told : List D) (v2 v5 : Option D), J.Inv b → b + xs.length < 900 → (∀ x ∈ xs, x.Ok) → told.length + xs.length < 900 →
    ∃ w2 w5, forLoop (loopTurn (run (PG L) (k + 7)) (.one 2) lb__law_by_jar_1 false) (xs.map DT.d) [v0, v1, v2, some (.loc 0), some (.loc 2), v5] (putJ (B3 told) 0 1 J) = .nx [v0, v1, w2, some (.loc 0), some (.loc 2), w5] (putJ (B3 (told ++ toldF J xs)) 0 1 (endF J xs))
  | [], J, b, told, v2, v5, hi, hb, hx, hl => ⟨v2, v5, by simp [forLoop, endF, toldF]⟩
  | x :: xs, J, b, told, v2, v5, hi, hb, hx, hl => by
    rw [List.length_cons] at hl hb
    have hx0 := hx x List.mem_cons_self
    obtain ⟨w5, e⟩ := byjar_turn (L := L) (k := k) (v0 := v0) (v1 := v1) (v2 := v2) (v5 := v5) (told := told) hi (by omega) hx0 (by omega)
    obtain ⟨u2, u5, e2⟩ := byjar_loop xs (stepF J x).1 (b + 1) (told ++ [(stepF J x).2]) (some x.d) w5 (step_inv hi hx0).1 (by omega) (fun y hy => hx y (List.mem_cons_of_mem _ hy)) (by simp; omega)
    refine ⟨u2, u5, ?_⟩
    rw [List.map_cons, forLoop, e]
    simp only
    rw [e2]
    simp [endF, toldF]
theorem r_byjar {r : RT} {xs : List DT} (hl : xs.length ≤ 500) (hx : ∀ x ∈ xs, x.Ok) : Gives (run (PG L) (k + 8)) 59 [r.d, .tup (xs.map DT.d)] (.tup (toldF (J0 r) xs)) := by
  refine gives_of (fd := fd__law_by_jar) rfl rfl ?_
  have mk := c_make (L := L) (k := k + 6) (S := []) (r := r)
  simp at mk
  have nl : newL [] [jarO (J0 r) 1, .lst []] = .ok (.loc 2) (putJ (B3 []) 0 1 (J0 r)) := rfl
  obtain ⟨u2, u5, e⟩ := byjar_loop (L := L) (k := k) (v0 := some r.d) (v1 := some (.tup (xs.map DT.d))) xs (J0 r) 0 [] none none (J0_inv r) (by omega) hx (by simp; omega)
  rw [List.nil_append] at e
  have tp : ∀ ds J, tupleD (.loc 2) (putJ (B3 ds) 0 1 J) = .ok (.tup ds) (putJ (B3 ds) 0 1 J) := fun ds J => rfl
  simp [fd__law_by_jar, sm__law_by_jar, mk, nl, setAll, ex_loop, walk_tup, e, lockS_none]
  exact ⟨_, rfl⟩
theorem c_byjar {r : RT} {xs : List DT} {S : Store} (hl : xs.length ≤ 500) (hx : ∀ x ∈ xs, x.Ok) : callF (run (PG L) (k + 8)) 59 [r.d, .tup (xs.map DT.d)] S = .ok (.tup (toldF (J0 r) xs)) S := callF_ok (by simp [D.pureAll, deeds_pure, RT.pure]) (r_byjar hl hx) (told_pure hx)
end
/-! ### parts_at -/
def neqJ (A B : List D) (j : Nat) : Bool := match A[j]?, B[j]? with
  | some a, some b => !eqD a b
  | _, _ => false
def diffF (A B : List D) : Option Nat := (List.range A.length).find? (neqJ A B)
def natD : Option Nat → D
  | some j => .int j
  | none => .non
theorem ev_neq {A B : List D} {j : Nat} {S : Store} (hA : ∀ d ∈ A, Flat d) (hB : ∀ d ∈ B, Flat d) (h1 : j < A.length) (h2 : j < B.length) :
    ((idxD (.tup A) (.int j) S).bind fun x S => (idxD (.tup B) (.int j) S).bind fun y S => cmpD .ne x y S) = .ok (.bl (neqJ A B j)) S := by
  have a1 : idxD (.tup A) (.int j) S = .ok A[j] S := by simp [idxD, atZ, h1, retO]
  have b1 : ∀ S, idxD (.tup B) (.int j) S = .ok B[j] S := fun S => by simp [idxD, atZ, h2, retO]
  have fa := hA A[j] (List.getElem_mem h1)
  have fb := hB B[j] (List.getElem_mem h2)
  rw [a1]
  simp only [ok_bind, b1]
  rw [ne_pure fa.1 fb.1 (by have := fa.2.1; omega)]
  simp [neqJ, h1, h2]
theorem parts_loop {v0 v1 v2 : Option D} {A B : List D} (hA : ∀ d ∈ A, Flat d) (hB : ∀ d ∈ B, Flat d) (hl : B.length = A.length) : ∀ (js : List Nat) (v3 : Option D), (∀ j ∈ js, j < A.length) →
    match js.find? (neqJ A B) with
    | some j => forLoop (loopTurn (run (PG L) k) (.one 3) lb_parts_at_1 false) (js.map fun (j : Nat) => D.int j) [v0, v1, v2, v3, some (.tup A), some (.tup B)] [] = .rt (.int j) []
    | none => ∃ w3, forLoop (loopTurn (run (PG L) k) (.one 3) lb_parts_at_1 false) (js.map fun (j : Nat) => D.int j) [v0, v1, v2, v3, some (.tup A), some (.tup B)] [] = .nx [v0, v1, v2, w3, some (.tup A), some (.tup B)] []
  | [], v3, h => ⟨v3, rfl⟩
  | j :: js, v3, h => by
    have hj := h j List.mem_cons_self
    have q := ev_neq (S := []) hA hB hj (by omega)
    have ih := parts_loop (v0 := v0) (v1 := v1) (v2 := v2) hA hB hl js (some (.int j)) fun i hi => h i (List.mem_cons_of_mem _ hi)
    have t1 : loopTurn (run (PG L) k) (.one 3) lb_parts_at_1 false (.int j) [v0, v1, v2, v3, some (.tup A), some (.tup B)] [] = if neqJ A B j = true then .rt (.int j) [] else .nx [v0, v1, v2, some (.int j), some (.tup A), some (.tup B)] [] := by
      simp [loopTurn, putTg, lb_parts_at_1, q]
    rw [List.find?_cons, List.map_cons, forLoop, t1]
    cases e : neqJ A B j with
    | true => simp
    | false =>
      simp only [Bool.false_eq_true, if_false]
      exact ih
theorem evIt_r1 {F : Nat → List D → Store → Out D} {a : Ex} {ρ : Env} {S : Store} : evIt F (.range1 a) ρ S = (ev F a ρ S).bind range1D := by rw [evIt]
theorem range1_ok {n : Nat} {S : Store} (hn : n < 1000000) : range1D (.int (n : Int)) S = .ok ⟨(List.range n).map fun (j : Nat) => D.int j, none⟩ S := by
  have hs : sm62 (n : Int) = true := sm62_of (by omega) (by omega)
  unfold range1D
  simp only
  rw [if_pos hs, upFrom_eq]
  simp
theorem r_parts {r r' : RT} {xs : List DT} (hl : xs.length ≤ 500) (hx : ∀ x ∈ xs, x.Ok) : Gives (run (PG L) (k + 9)) 55 [r.d, r'.d, .tup (xs.map DT.d)] (natD (diffF (toldF (J0 r) xs) (toldF (J0 r') xs))) := by
  refine gives_of (fd := fd_parts_at) rfl rfl ?_
  have c1 := fun r S => c_run (L := L) (k := k) (r := r) (xs := xs) (S := S) hl hx
  have f1 := told_flat xs (J0 r) 0 (J0_inv r) hx
  have f2 := told_flat xs (J0 r') 0 (J0_inv r') hx
  have l1 := told_len xs (J0 r)
  have l2 := told_len xs (J0 r')
  generalize hA : toldF (J0 r) xs = A at *
  generalize hB : toldF (J0 r') xs = B at *
  have lp := parts_loop (L := L) (k := k + 8) (v0 := some r.d) (v1 := some r'.d) (v2 := some (.tup (xs.map DT.d))) f1 f2 (by omega) (List.range A.length) none (fun j hj => List.mem_range.mp hj)
  generalize hds : xs.map DT.d = ds at *
  have ld : ds.length = A.length := by rw [← hds, List.length_map]; omega
  have rg : range1D (.int (ds.length : Int)) [] = .ok ⟨(List.range A.length).map fun (j : Nat) => D.int j, none⟩ [] := by
    rw [← ld]
    exact range1_ok (by omega)
  have x1 : ex (run (PG L) (k + 8)) (.par [4, 5] (.cons (.call 54 (.cons (.var 0) (.cons (.var 2) .nil))) (.cons (.call 54 (.cons (.var 1) (.cons (.var 2) .nil))) .nil))) [some r.d, some r'.d, some (.tup ds), none, none, none] [] = .nx [some r.d, some r'.d, some (.tup ds), none, some (.tup A), some (.tup B)] [] := by
    simp [c1, hA, hB, setAll]
  have x2 : ex (run (PG L) (k + 8)) (.loop (.one 3) (.range1 (.bi .len (.cons (.var 2) .nil))) lb_parts_at_1 false) [some r.d, some r'.d, some (.tup ds), none, some (.tup A), some (.tup B)] [] = forLoop (loopTurn (run (PG L) (k + 8)) (.one 3) lb_parts_at_1 false) ((List.range A.length).map fun (j : Nat) => D.int j) [some r.d, some r'.d, some (.tup ds), none, some (.tup A), some (.tup B)] [] := by
    have e : ev (run (PG L) (k + 8)) (.bi .len (.cons (.var 2) .nil)) [some r.d, some r'.d, some (.tup ds), none, some (.tup A), some (.tup B)] [] = .ok (.int (ds.length : Int)) [] := rfl
    rw [ex_loop, evIt_r1, e, ok_bind, rg, ok_thn, lockS_none]
  show Is (endD (exs (run (PG L) (k + 8)) sm_parts_at [some r.d, some r'.d, some (.tup ds), none, none, none] [])) _
  unfold sm_parts_at
  rw [exs_cons x1]
  unfold diffF
  cases e : (List.range A.length).find? (neqJ A B) with
  | some j =>
    rw [e] at lp
    simp only at lp
    rw [lp] at x2
    rw [exs_rt x2]
    simp [natD]
  | none =>
    rw [e] at lp
    simp only at lp
    obtain ⟨w3, lp⟩ := lp
    rw [lp] at x2
    rw [exs_cons x2]
    simp [natD]
theorem natD_pure {o : Option Nat} : (natD o).pure = true := by cases o <;> rfl
theorem c_parts {r r' : RT} {xs : List DT} {S : Store} (hl : xs.length ≤ 500) (hx : ∀ x ∈ xs, x.Ok) : callF (run (PG L) (k + 9)) 55 [r.d, r'.d, .tup (xs.map DT.d)] S = .ok (natD (diffF (toldF (J0 r) xs) (toldF (J0 r') xs))) S := callF_ok (by simp [D.pureAll, deeds_pure, RT.pure]) (r_parts hl hx) natD_pure
end Lw
set_option Elab.async false
set_option linter.all false
set_option maxRecDepth 100000
set_option maxHeartbeats 1000000
namespace Lw
open Ev
variable {L : FD} {k : Nat}
/-! ### drawn deeds -/
theorem at_nt2 {ts : List NT} {z : Int} (h0 : 0 ≤ z) (h1 : z < ts.length) : ∃ n ∈ ts, ∀ S, idxD (.tup (ts.map NT.d)) (.int z) S = .ok n.d S := by
  obtain ⟨n, hn, e⟩ := at_nts h0 h1
  exact ⟨n, hn, fun S => by simp [idxD, e, retO]⟩
theorem pick_host {n : NT} {z : Int} (hn : n.Ok) (h0 : 0 ≤ z) (h1 : z < 4) : ∃ ho : List Nat, ho.length ≤ 100 ∧ ∀ S, idxD (.tup [.str n.host, .str n.host, .str ([120, 46] ++ n.host), .str [97]]) (.int z) S = .ok (.str ho) S := by
  have hl := hn.host.len
  have : z = 0 ∨ z = 1 ∨ z = 2 ∨ z = 3 := by omega
  rcases this with rfl | rfl | rfl | rfl
  · exact ⟨n.host, by omega, fun S => rfl⟩
  · exact ⟨n.host, by omega, fun S => rfl⟩
  · exact ⟨[120, 46] ++ n.host, by simp; omega, fun S => rfl⟩
  · exact ⟨[97], by simp, fun S => rfl⟩
theorem pick_int {xs : List Int} {z : Int} (h0 : 0 ≤ z) (h1 : z < xs.length) : ∃ x ∈ xs, ∀ S, idxD (.tup (xs.map .int)) (.int z) S = .ok (.int x) S :=
  ⟨pickI xs z, pickI_mem h0 h1, fun S => by simp [idxD, atZ_int rfl h0 h1, retO]⟩
def q56_1 : Sm := Sm.asg 2 (Ex.call 8 (Exs.cons (Ex.var 0) (Exs.cons (Ex.dat (D.int 9587)) (Exs.cons (Ex.dat (D.int 8)) Exs.nil))))
def q56_2 : Sm := Sm.ife (Ex.cmp Cop.lt (Ex.var 2) (Ex.dat (D.int 4))) (Sms.cons (Sm.asg 3 (Ex.ife (Ex.and (Ex.cmp Cop.ne (Ex.var 1) (Ex.tup Exs.nil)) (Ex.cmp Cop.lt (Ex.var 2) (Ex.dat (D.int 3)))) (Ex.idx (Ex.var 1) (Ex.call 8 (Exs.cons (Ex.var 0) (Exs.cons (Ex.dat (D.int 9551)) (Exs.cons (Ex.bi Bi.len (Exs.cons (Ex.var 1) Exs.nil)) Exs.nil))))) (Ex.call 12 (Exs.cons (Ex.bin Bop.add (Ex.var 0) (Ex.dat (D.int 1))) Exs.nil)))) (Sms.cons (Sm.ret (Ex.tup (Exs.cons (Ex.dat (D.str [116, 97, 107, 101])) (Exs.cons (Ex.var 3) (Exs.cons (Ex.idx (Ex.tup (Exs.cons (Ex.idx (Ex.var 3) (Ex.dat (D.int 2))) (Exs.cons (Ex.idx (Ex.var 3) (Ex.dat (D.int 2))) (Exs.cons (Ex.bin Bop.add (Ex.dat (D.str [120, 46])) (Ex.idx (Ex.var 3) (Ex.dat (D.int 2)))) (Exs.cons (Ex.dat (D.str [97])) Exs.nil))))) (Ex.call 8 (Exs.cons (Ex.var 0) (Exs.cons (Ex.dat (D.int 9547)) (Exs.cons (Ex.dat (D.int 4)) Exs.nil))))) Exs.nil))))) Sms.nil)) Sms.nil
def q56_3 : Sm := Sm.ife (Ex.cmp Cop.lt (Ex.var 2) (Ex.dat (D.int 7))) (Sms.cons (Sm.asg 4 (Ex.call 25 (Exs.cons (Ex.bin Bop.add (Ex.var 0) (Ex.dat (D.int 1))) (Exs.cons (Ex.var 1) Exs.nil)))) (Sms.cons (Sm.ret (Ex.bin Bop.add (Ex.bin Bop.add (Ex.tup (Exs.cons (Ex.dat (D.str [97, 115, 107])) Exs.nil)) (Ex.slc (Ex.var 4) (Ex.dat D.non) (Ex.dat (D.int 2)))) (Ex.slc (Ex.var 4) (Ex.dat (D.int 3)) (Ex.dat D.non)))) Sms.nil)) Sms.nil
def q56_4 : Sm := Sm.ret (Ex.tup (Exs.cons (Ex.dat (D.str [112, 97, 115, 115, 95, 111, 110])) (Exs.cons (Ex.idx (Ex.tup (Exs.cons (Ex.dat (D.int 0)) (Exs.cons (Ex.dat (D.int 1)) (Exs.cons (Ex.dat (D.int 5)) (Exs.cons (Ex.dat (D.int 40)) Exs.nil))))) (Ex.call 8 (Exs.cons (Ex.var 0) (Exs.cons (Ex.dat (D.int 9539)) (Exs.cons (Ex.dat (D.int 4)) Exs.nil))))) Exs.nil)))
theorem q56_eq : sm__law_row_deed = .cons q56_1 (.cons q56_2 (.cons q56_3 (.cons q56_4 .nil))) := rfl
theorem r_rowdeed {c : Int} {ts : List NT} (hts : ∀ n ∈ ts, n.Ok) (hl : ts.length ≤ 100) : ∃ x : DT, x.Ok ∧ Gives (run (PG L) (k + 4)) 56 [.int c, .tup (ts.map NT.d)] x.d := by
  have c1 := fun S => c_mix (L := L) (k := k + 2) (c := c) (p := 9587) (m := 8) (S := S) (by omega) (by omega) (by omega)
  have w0 := mixF_nn (c := c) (p := 9587) (m := 8) (by omega)
  generalize mixF c 9587 8 = w at *
  by_cases h4 : w < 4
  · have c3 := fun S => c_mix (L := L) (k := k + 2) (c := c) (p := 9547) (m := 4) (S := S) (by omega) (by omega) (by omega)
    have cn := fun S => c_note (L := L) (k := k) (c := c + 1) (S := S)
    have key : ∃ n : NT, n.Ok ∧ ev (run (PG L) (k + 3)) (Ex.ife (Ex.and (Ex.cmp Cop.ne (Ex.var 1) (Ex.tup Exs.nil)) (Ex.cmp Cop.lt (Ex.var 2) (Ex.dat (D.int 3)))) (Ex.idx (Ex.var 1) (Ex.call 8 (Exs.cons (Ex.var 0) (Exs.cons (Ex.dat (D.int 9551)) (Exs.cons (Ex.bi Bi.len (Exs.cons (Ex.var 1) Exs.nil)) Exs.nil))))) (Ex.call 12 (Exs.cons (Ex.bin Bop.add (Ex.var 0) (Ex.dat (D.int 1))) Exs.nil))) [some (.int c), some (.tup (ts.map NT.d)), some (.int w), none, none] [] = .ok n.d [] := by
      cases ts with
      | nil =>
        refine ⟨noteF (c + 1), note_ok _, ?_⟩
        have q := fun S => ne_self (d := .tup []) (S := S) rfl (by decide)
        simp [q, and_if, cn]
      | cons t0 ts =>
        have q := fun S => ne_pure (S := S) (a := .tup (t0.d :: ts.map NT.d)) (b := .tup []) (by rw [D.pure, D.pureAll, NT.pure, pureAll_nts]; rfl) rfl (by simp [D.depth, D.depthAll])
        by_cases h3 : w < 3
        · have hp : (0 : Int) < (t0 :: ts).length := by simp
          have c2 := fun S => c_mix (L := L) (k := k + 2) (c := c) (p := 9551) (m := (t0 :: ts).length) (S := S) (by omega) (by omega) hp
          obtain ⟨n, hn, e⟩ := at_nt2 (ts := t0 :: ts) (mixF_nn (c := c) (p := 9551) hp) (mixF_lt (c := c) (p := 9551) hp)
          refine ⟨n, hts n hn, ?_⟩
          simp only [List.map_cons, List.length_cons, Int.natCast_add, Int.natCast_one] at e c2
          simp [q, eqD, eqDs, h3, c2, e]
        · refine ⟨noteF (c + 1), note_ok _, ?_⟩
          simp [q, eqD, eqDs, h3, cn]
    obtain ⟨n, hn, e⟩ := key
    obtain ⟨ho, hho, e2⟩ := pick_host (z := mixF c 9547 4) hn (mixF_nn (by omega)) (mixF_lt (by omega))
    refine ⟨.take n ho, ⟨hn.good, by omega⟩, gives_of (fd := fd__law_row_deed) rfl rfl ?_⟩
    have i2 : ∀ S, idxD n.d (.int 2) S = .ok (.str n.host) S := fun S => rfl
    have a1 := fun S => add_str (S := S) (x := [120, 46]) (y := n.host) (by simp) (by have := hn.host.len; omega)
    have x1 : ex (run (PG L) (k + 3)) (.asg 3 (Ex.ife (Ex.and (Ex.cmp Cop.ne (Ex.var 1) (Ex.tup Exs.nil)) (Ex.cmp Cop.lt (Ex.var 2) (Ex.dat (D.int 3)))) (Ex.idx (Ex.var 1) (Ex.call 8 (Exs.cons (Ex.var 0) (Exs.cons (Ex.dat (D.int 9551)) (Exs.cons (Ex.bi Bi.len (Exs.cons (Ex.var 1) Exs.nil)) Exs.nil))))) (Ex.call 12 (Exs.cons (Ex.bin Bop.add (Ex.var 0) (Ex.dat (D.int 1))) Exs.nil)))) [some (.int c), some (.tup (ts.map NT.d)), some (.int w), none, none] [] = .nx [some (.int c), some (.tup (ts.map NT.d)), some (.int w), some n.d, none] [] := by
      rw [ex, e]
      rfl
    have y1 : ex (run (PG L) (k + 3)) q56_1 [some (.int c), some (.tup (ts.map NT.d)), none, none, none] [] = .nx [some (.int c), some (.tup (ts.map NT.d)), some (.int w), none, none] [] := by
      simp [q56_1, c1]
    have y2 : ex (run (PG L) (k + 3)) q56_2 [some (.int c), some (.tup (ts.map NT.d)), some (.int w), none, none] [] = .rt (DT.take n ho).d [] := by
      have hc : ev (run (PG L) (k + 3)) (Ex.cmp Cop.lt (Ex.var 2) (Ex.dat (D.int 4))) [some (.int c), some (.tup (ts.map NT.d)), some (.int w), none, none] [] = .ok (.bl true) [] := by
        simp [h4]
      rw [q56_2, ex_ife hc rfl rfl]
      simp only [if_true]
      rw [exs_cons x1]
      have nd : D.tup [.str [116, 97, 107, 101], n.d, .str ho] = (DT.take n ho).d := rfl
      simp only [List.cons_append, List.nil_append] at e2
      simp [i2, a1, c3, e2]
      exact nd
    show Is (endD (exs (run (PG L) (k + 3)) sm__law_row_deed [some (.int c), some (.tup (ts.map NT.d)), none, none, none] [])) _
    rw [q56_eq, exs_cons y1, exs_rt y2]
    simp
  · by_cases h7 : w < 7
    · obtain ⟨a, ca, oa⟩ := c_ask (L := L) (k := k) (c := c + 1) (ns := ts) (S := []) hts
      refine ⟨.ask a.host a.path a.safe a.org a.near, ⟨oa.host, oa.path, oa.org⟩, gives_of (fd := fd__law_row_deed) rfl rfl ?_⟩
      have s1 : ∀ S, slcD a.d none (some 2) S = .ok (.tup [.str a.host, .str a.path]) S := fun S => rfl
      have s2 : ∀ S, slcD a.d (some 3) none S = .ok (.tup [.bl a.safe, orgD a.org, .bl a.near]) S := fun S => rfl
      have a1 : ∀ S, binD .add (.tup [.str [97, 115, 107]]) (.tup [.str a.host, .str a.path]) S = .ok (.tup [.str [97, 115, 107], .str a.host, .str a.path]) S := fun S => rfl
      have a2 : ∀ S, binD .add (.tup [.str [97, 115, 107], .str a.host, .str a.path]) (.tup [.bl a.safe, orgD a.org, .bl a.near]) S = .ok (DT.ask a.host a.path a.safe a.org a.near).d S := fun S => rfl
      simp [fd__law_row_deed, sm__law_row_deed, c1, h4, h7, ca, s1, s2, a1, a2]
    · have c3 := fun S => c_mix (L := L) (k := k + 2) (c := c) (p := 9539) (m := 4) (S := S) (by omega) (by omega) (by omega)
      obtain ⟨z, hz, e⟩ := pick_int (xs := [0, 1, 5, 40]) (z := mixF c 9539 4) (mixF_nn (by omega)) (mixF_lt (by omega))
      refine ⟨.pass z, ?_, gives_of (fd := fd__law_row_deed) rfl rfl ?_⟩
      · simp only [List.mem_cons, List.not_mem_nil, or_false] at hz
        rcases hz with rfl | rfl | rfl | rfl <;> exact ⟨by omega, by omega⟩
      · simp only [List.map_cons, List.map_nil] at e
        simp [fd__law_row_deed, sm__law_row_deed, c1, h4, h7, c3, e, DT.d]
end Lw
set_option Elab.async false
set_option linter.all false
set_option maxRecDepth 100000
set_option maxHeartbeats 1000000
namespace Lw
open Ev
variable {L : FD} {k : Nat}
/-! ### run, told otherwise -/
theorem r_runv {r : RT} {xs : List DT} (hl : xs.length ≤ 500) (hx : ∀ x ∈ xs, x.Ok) : Gives (run (PG L) (k + 8)) 63 [r.d, .tup (xs.map DT.d)] (.tup (toldF (J0 r) xs)) := by
  obtain ⟨S', e⟩ := r_run (L := L) (k := k) (r := r) hl hx
  refine ⟨S', ?_⟩
  rw [← e, run_fd (fd := fd_run__v1) rfl rfl, run_fd (fd := fd_run) rfl rfl]
  rfl
theorem c_runv {r : RT} {xs : List DT} {S : Store} (hl : xs.length ≤ 500) (hx : ∀ x ∈ xs, x.Ok) : callF (run (PG L) (k + 8)) 63 [r.d, .tup (xs.map DT.d)] S = .ok (.tup (toldF (J0 r) xs)) S := callF_ok (by simp [D.pureAll, deeds_pure, RT.pure]) (r_runv hl hx) (told_pure hx)
/-! ### stores that are closed -/
def Cl (S : Store) : Prop := ∀ n, closedS n S = true
theorem Cl.append {S T : Store} (h : Cl S) (h2 : Cl T) : Cl (S ++ T) := fun n => by
  have := h n
  have h2 := h2 n
  unfold closedS at *
  rw [List.all_append, this, h2]
  rfl
theorem Cl.lst {xs : List D} : Cl [.lst xs] := fun n => rfl
theorem Cl.set {S : Store} (h : Cl S) {i : Nat} {o : MO} (ho : ∀ n, o.closed n = true) : Cl (S.set i o) := fun n => by
  unfold closedS
  rw [List.all_eq_true]
  intro x hx
  rcases List.mem_or_eq_of_mem_set hx with hx | rfl
  · exact List.all_eq_true.mp (h n) x hx
  · exact ho n
/-- a call in the caller's store; what is new is forgotten -/
theorem callF_gc {F : Nat → List D → Store → Out D} {f : Nat} {ds : List D} {S S1 T : Store} {d : D} (hi : D.pureAll ds = false) (h : F f ds S = .ok d (S1 ++ T)) (hl : S1.length = S.length) (hc : Cl S1) (hd : d.pure = true) : callF F f ds S = .ok d S1 := by
  unfold callF
  rw [if_neg (by rw [hi]; exact Bool.false_ne_true), h]
  show gc S.length d (S1 ++ T) = _
  rw [← hl]
  exact gc_drop (hc _) (low_pure _ _ hd)
/-! ### sides -/
structure SS where
  a : RT
  b : RT
  row : List DT
  und : List DT
def sidO (X : SS) : MO := .ins 1 [(5, .tup [X.a.d, X.b.d]), (6, .tup (X.row.map DT.d)), (7, .tup (X.und.map DT.d))]
theorem sid_closed (X : SS) (n : Nat) : (sidO X).closed n = true := by
  have h1 : D.low n (.tup [X.a.d, X.b.d]) = true := low_pure _ _ rfl
  have h2 : D.low n (.tup (X.row.map DT.d)) = true := low_pure _ _ deeds_pure
  have h3 : D.low n (.tup (X.und.map DT.d)) = true := low_pure _ _ deeds_pure
  simp [sidO, MO.closed, h1, h2, h3]
section
variable {S : Store} {n : Nat} {X X' : SS}
theorem ins_S (h : S[n]? = some (sidO X)) : insOf S (.loc n) = some (1, [(5, .tup [X.a.d, X.b.d]), (6, .tup (X.row.map DT.d)), (7, .tup (X.und.map DT.d))]) := by
  simp only [insOf]
  rw [h]
  rfl
theorem sf5 (h : S[n]? = some (sidO X)) : fldD [1] 5 (.loc n) S = .ok (.tup [X.a.d, X.b.d]) S := by rw [fldD, ins_S h]; rfl
theorem sf6 (h : S[n]? = some (sidO X)) : fldD [1] 6 (.loc n) S = .ok (.tup (X.row.map DT.d)) S := by rw [fldD, ins_S h]; rfl
theorem sf7 (h : S[n]? = some (sidO X)) : fldD [1] 7 (.loc n) S = .ok (.tup (X.und.map DT.d)) S := by rw [fldD, ins_S h]; rfl
theorem sg_at {d : D} {f : Nat} (h : S[n]? = some (sidO X)) (hf : f < 8) (e : MO.ins 1 (putFd f d [(5, .tup [X.a.d, X.b.d]), (6, .tup (X.row.map DT.d)), (7, .tup (X.und.map DT.d))]) = sidO X') : setFD [1] f (.loc n) d S = .ok .non (S.set n (sidO X')) := by
  unfold setFD
  simp only
  rw [h]
  unfold sidO
  simp only
  rw [if_pos (by simp [hf]), e]
  rfl
theorem sg6 {us : List DT} (h : S[n]? = some (sidO X)) : setFD [1] 6 (.loc n) (.tup (us.map DT.d)) S = .ok .non (S.set n (sidO { X with row := us })) := sg_at h (by omega) rfl
theorem sg7 {us : List DT} (h : S[n]? = some (sidO X)) : setFD [1] 7 (.loc n) (.tup (us.map DT.d)) S = .ok .non (S.set n (sidO { X with und := us })) := sg_at h (by omega) rfl
theorem mc_S {F : Nat → List D → Store → Out D} {cs : List Nat} {j : Nat} {o : Out (List D)} (h : S[n]? = some (sidO X)) (hc : cs.contains 1 = true) : mcK F cs j (.loc n) S o = o.bind fun ds S => callF F (mid 1 j) (.loc n :: ds) S := by
  unfold mcK
  rw [ins_S h]
  simp only
  rw [if_pos hc]
theorem get_S {o : MO} (h : S[n]? = some (sidO X)) : (S.set n o)[n]? = some o := by
  rw [List.getElem?_set_self (List.getElem?_eq_some_iff.mp h).1]
theorem setset {o o' : MO} : (S.set n o).set n o' = S.set n o' := List.set_set ..
theorem set_id (h : S[n]? = some (sidO X)) : S.set n (sidO X) = S := by
  obtain ⟨hl, e⟩ := List.getElem?_eq_some_iff.mp h
  rw [← e]
  exact List.set_getElem_self hl
def lastD (ds : List D) : D := ds.getLast?.getD .non
theorem idx_last {ds : List D} {S : Store} (h : ds ≠ []) : idxD (.tup ds) (.int (-1)) S = .ok (lastD ds) S := by
  have hl : 0 < ds.length := List.length_pos_iff.mpr h
  show retO (atZ ds (-1)) S = _
  unfold atZ
  rw [if_neg (by omega), if_pos (by omega)]
  have : (-1 + (ds.length : Int)).toNat = ds.length - 1 := by omega
  rw [this, ← List.getLast?_eq_getElem?]
  unfold lastD
  cases e : ds.getLast? with
  | none => exact absurd (List.getLast?_eq_none_iff.mp e) h
  | some d => rfl
/-- what both tell of the last -/
def saidS (X : SS) : D := .tup [lastD (toldF (J0 X.a) X.row), lastD (toldF (J0 X.b) X.row)]
theorem last_flat {ds : List D} (h : ∀ d ∈ ds, Flat d) : Flat (lastD ds) := by
  unfold lastD
  cases e : ds.getLast? with
  | none => exact ⟨rfl, by simp [D.depth], rfl⟩
  | some d => exact h d (List.mem_of_getLast? e)
theorem r_sdo {x : DT} {xs : List DT} (he : X.row ++ [x] = xs) (h : S[n]? = some (sidO X)) (hC : Cl S) (hl : X.row.length < 400) (hx : ∀ y ∈ xs, y.Ok) : ∃ T, run (PG L) (k + 9) 561 [.loc n, x.d] S = .ok (saidS ⟨X.a, X.b, xs, []⟩) (S.set n (sidO ⟨X.a, X.b, xs, []⟩) ++ T) := by
  rw [run_fd (fd := fd_Sides_do) rfl rfl]
  have hxl : xs.length ≤ 500 := by rw [← he]; simp; omega
  have c1 := fun r S => c_runv (L := L) (k := k) (r := r) (xs := xs) (S := S) hxl hx
  have a1 := fun S => add_tup (S := S) (x := X.row.map DT.d) (y := [x.d]) (by simp; omega) (by simp)
  have ea : X.row.map DT.d ++ [x.d] = xs.map DT.d := by rw [← he]; simp
  rw [ea] at a1
  have hne : xs ≠ [] := by rw [← he]; simp
  clear ea he
  have g1 := sg6 (us := xs) h
  have h2 := get_S (o := sidO ⟨X.a, X.b, xs, X.und⟩) h
  have g2 := sg7 (X := ⟨X.a, X.b, xs, X.und⟩) (us := []) h2
  rw [setset] at g2
  have h3 := get_S (o := sidO ⟨X.a, X.b, xs, []⟩) h
  have f5 := sf5 h3
  have f6 := sf6 h3
  have l2 : (S.set n (sidO ⟨X.a, X.b, xs, []⟩)).length = S.length := by simp
  have fl := fun r => told_flat xs (J0 r) 0 (J0_inv r) hx
  have ne : ∀ r, toldF (J0 r) xs ≠ [] := fun r z => by
    have := told_len xs (J0 r)
    rw [z] at this
    exact hne (List.length_eq_zero_iff.mp this.symm)
  refine ⟨[.lst [lastD (toldF (J0 X.a) xs), lastD (toldF (J0 X.b) xs)]], ?_⟩
  have il := fun r S => idx_last (S := S) (ne r)
  generalize hS2 : S.set n (sidO ⟨X.a, X.b, xs, []⟩) = S2 at *
  simp only at f5 f6
  have hd : D.tup ([] : List D) = .tup (([] : List DT).map DT.d) := rfl
  have f6' := sf6 h
  generalize hdd : xs.map DT.d = dd at *
  have ec : ∀ v1 v2, ev (run (PG L) (k + 8)) (.comp ce_Sides_do_1 (.one 2) (.of (.fld [1] 5 (.var 0))) (.dat (.bl true))) [some (.loc n), v1, v2] S2 = .ok (.loc S2.length) (S2 ++ [.lst [lastD (toldF (J0 X.a) xs), lastD (toldF (J0 X.b) xs)]]) := fun v1 v2 => by
    refine comp_map (S := S2) (l := [X.a, X.b]) (f := RT.d) (g := fun r => some (lastD (toldF (J0 r) xs))) ?_ (fun r hr => ?_) rfl ?_ (by simp)
    · simp [evIt, f5, walk_tup]
    · simp [compTurn, ce_Sides_do_1, f6, c1, il, (last_flat (fl r)).1]
    · simp [D.pureAll, (last_flat (fl _)).1]
  have tp : ∀ ds, tupleD (.loc S2.length) (S2 ++ [.lst ds]) = .ok (.tup ds) (S2 ++ [.lst ds]) := fun ds => by
    simp [tupleD, listOf]
  simp only [List.map_nil] at g2
  have gl : ∀ o, (S.set n o).length = S.length := fun o => by simp
  have e1 := ec (some x.d) none
  simp [fd_Sides_do, sm_Sides_do, f6', a1, g1, g2, l2, e1]
  rfl
theorem c_sdo {x : DT} (h : S[n]? = some (sidO X)) (hC : Cl S) (hl : X.row.length < 400) (hx : ∀ y ∈ X.row ++ [x], y.Ok) : callF (run (PG L) (k + 9)) 561 [.loc n, x.d] S = .ok (saidS ⟨X.a, X.b, X.row ++ [x], []⟩) (S.set n (sidO ⟨X.a, X.b, X.row ++ [x], []⟩)) := by
  obtain ⟨T, e⟩ := r_sdo (L := L) (k := k) rfl h hC hl hx
  have fl := fun r => told_flat (X.row ++ [x]) (J0 r) 0 (J0_inv r) hx
  refine callF_gc locs_imp e (by simp) (hC.set fun m => sid_closed _ m) ?_
  simp [saidS, D.pure, D.pureAll, (last_flat (fl _)).1]
theorem c_sdeeds (h : S[n]? = some (sidO X)) : callF (run (PG L) (k + 1)) 562 [.loc n] S = .ok (.tup (X.row.map DT.d)) S := by
  refine callF_st locs_imp ?_ rfl
  rw [run_fd (fd := fd_Sides_deeds) rfl rfl]
  simp [fd_Sides_deeds, sm_Sides_deeds, sf6 h]
theorem c_ssteps (h : S[n]? = some (sidO X)) : callF (run (PG L) (k + 1)) 566 [.loc n] S = .ok (.tup [.int X.row.length, .int X.und.length]) S := by
  refine callF_st locs_imp ?_ rfl
  rw [run_fd (fd := fd_Sides_steps) rfl rfl]
  simp [fd_Sides_steps, sm_Sides_steps, sf6 h, sf7 h]
theorem cut_last (xs : List DT) : cutL (xs.map DT.d) (some (-1)) none = (xs.drop (xs.length - 1)).map DT.d := by
  rw [cutL_lo]
  unfold cutIx
  simp only [List.length_map]
  rw [if_pos (by omega), List.map_drop]
  congr 1
  omega
theorem cut_front (xs : List DT) : cutL (xs.map DT.d) none (some (-1)) = (xs.take (xs.length - 1)).map DT.d := by
  unfold cutL cutIx
  simp only [List.length_map, List.drop_zero, Nat.sub_zero]
  rw [if_pos (by omega), List.map_take]
  congr 1
  omega
theorem drop_one {xs : List DT} {x : DT} : (xs ++ [x]).drop ((xs ++ [x]).length - 1) = [x] := by simp
theorem take_one {xs : List DT} {x : DT} : (xs ++ [x]).take ((xs ++ [x]).length - 1) = xs := by simp
theorem c_back0 (h : S[n]? = some (sidO X)) (e : X.row = []) : callF (run (PG L) (k + 1)) 564 [.loc n] S = .exc 6 S := by
  refine callF_ex locs_imp ?_
  rw [run_fd (fd := fd_Sides_back) rfl rfl]
  have f6 := sf6 h
  rw [e] at f6
  simp [fd_Sides_back, sm_Sides_back, f6]
theorem c_forth0 (h : S[n]? = some (sidO X)) (e : X.und = []) : callF (run (PG L) (k + 1)) 565 [.loc n] S = .exc 6 S := by
  refine callF_ex locs_imp ?_
  rw [run_fd (fd := fd_Sides_forth) rfl rfl]
  have f7 := sf7 h
  rw [e] at f7
  simp [fd_Sides_forth, sm_Sides_forth, f7]
theorem c_back1 {xs : List DT} {x : DT} (h : S[n]? = some (sidO X)) (e : X.row = xs ++ [x]) (hl : X.und.length ≤ 1000) : callF (run (PG L) (k + 1)) 564 [.loc n] S = .ok .non (S.set n (sidO ⟨X.a, X.b, xs, X.und ++ [x]⟩)) := by
  refine callF_st locs_imp ?_ (by simp)
  rw [run_fd (fd := fd_Sides_back) rfl rfl]
  have f6 := sf6 h
  have f7 := sf7 h
  have s1 : ∀ S, slcD (.tup (X.row.map DT.d)) (some (-1)) none S = .ok (.tup [x.d]) S := fun S => by
    rw [slcD, cut_last, e, drop_one]
    rfl
  have s2 : ∀ S, slcD (.tup (X.row.map DT.d)) none (some (-1)) S = .ok (.tup (xs.map DT.d)) S := fun S => by
    rw [slcD, cut_front, e, take_one]
  have a1 := fun S => add_tup (S := S) (x := X.und.map DT.d) (y := [x.d]) (by simp; omega) (by simp)
  have ea : X.und.map DT.d ++ [x.d] = (X.und ++ [x]).map DT.d := by simp
  rw [ea] at a1
  have g1 := sg7 (us := X.und ++ [x]) h
  have h2 := get_S (o := sidO { X with und := X.und ++ [x] }) h
  have f6' := sf6 h2
  have g2 := sg6 (us := xs) h2
  rw [setset] at g2
  have te : (X.row.map DT.d).isEmpty = false := by rw [e]; simp
  generalize (X.und ++ [x]).map DT.d = uu at *
  simp only at f6'
  generalize X.row.map DT.d = rr at *
  generalize xs.map DT.d = xx at *
  simp [fd_Sides_back, sm_Sides_back, f6, te, f7, s1, a1, g1, f6', s2, g2]
theorem c_forth1 {xs : List DT} {x : DT} (h : S[n]? = some (sidO X)) (e : X.und = xs ++ [x]) (hl : X.row.length ≤ 1000) : callF (run (PG L) (k + 1)) 565 [.loc n] S = .ok .non (S.set n (sidO ⟨X.a, X.b, X.row ++ [x], xs⟩)) := by
  refine callF_st locs_imp ?_ (by simp)
  rw [run_fd (fd := fd_Sides_forth) rfl rfl]
  have f6 := sf6 h
  have f7 := sf7 h
  have s1 : ∀ S, slcD (.tup (X.und.map DT.d)) (some (-1)) none S = .ok (.tup [x.d]) S := fun S => by
    rw [slcD, cut_last, e, drop_one]
    rfl
  have s2 : ∀ S, slcD (.tup (X.und.map DT.d)) none (some (-1)) S = .ok (.tup (xs.map DT.d)) S := fun S => by
    rw [slcD, cut_front, e, take_one]
  have a1 := fun S => add_tup (S := S) (x := X.row.map DT.d) (y := [x.d]) (by simp; omega) (by simp)
  have ea : X.row.map DT.d ++ [x.d] = (X.row ++ [x]).map DT.d := by simp
  rw [ea] at a1
  have g1 := sg6 (us := X.row ++ [x]) h
  have h2 := get_S (o := sidO { X with row := X.row ++ [x] }) h
  have f7' := sf7 h2
  have g2 := sg7 (us := xs) h2
  rw [setset] at g2
  have te : (X.und.map DT.d).isEmpty = false := by rw [e]; simp
  generalize (X.row ++ [x]).map DT.d = uu at *
  simp only at f7'
  generalize X.und.map DT.d = rr at *
  generalize xs.map DT.d = xx at *
  simp [fd_Sides_forth, sm_Sides_forth, f6, te, f7, s1, a1, g1, f7', s2, g2]
/-! ### unlike, notes -/
def othD (A B : List D) : List D := ((List.range A.length).filter (neqJ A B)).map fun (j : Nat) => D.int j
theorem othD_pure {A B : List D} : D.pureAll (othD A B) = true := pureAll_map fun _ _ => rfl
theorem othD_len {A B : List D} : (othD A B).length ≤ A.length := by
  have := List.length_filter_le (neqJ A B) (List.range A.length)
  rw [List.length_range] at this
  unfold othD
  rw [List.length_map]
  exact this
theorem c_unlike (h : S[n]? = some (sidO X)) (hC : Cl S) (hl : X.row.length < 400) (hx : ∀ y ∈ X.row, y.Ok) : callF (run (PG L) (k + 9)) 563 [.loc n] S = .ok (.tup (othD (toldF (J0 X.a) X.row) (toldF (J0 X.b) X.row))) S := by
  have c1 := fun r S => c_runv (L := L) (k := k) (r := r) (xs := X.row) (S := S) (by omega) hx
  have f1 := told_flat X.row (J0 X.a) 0 (J0_inv X.a) hx
  have f2 := told_flat X.row (J0 X.b) 0 (J0_inv X.b) hx
  have l1 := told_len X.row (J0 X.a)
  have l2 := told_len X.row (J0 X.b)
  have pu : ∀ r, D.pure (.tup (toldF (J0 r) X.row)) = true := fun r => told_pure hx
  have f5 := sf5 h
  have f6 := sf6 h
  have hn : n < S.length := (List.getElem?_eq_some_iff.mp h).1
  have e1 : ∀ v1 v2 v3 v4, ev (run (PG L) (k + 8)) (.comp ce_Sides_unlike_1 (.one 3) (.of (.fld [1] 5 (.var 0))) (.dat (.bl true))) [some (.loc n), v1, v2, v3, v4] S = .ok (.loc S.length) (S ++ [.lst [.tup (toldF (J0 X.a) X.row), .tup (toldF (J0 X.b) X.row)]]) := fun v1 v2 v3 v4 => by
    refine comp_map (S := S) (l := [X.a, X.b]) (f := RT.d) (g := fun r => some (.tup (toldF (J0 r) X.row))) ?_ (fun r hr => ?_) rfl (by simp [D.pureAll, pu]) (by simp)
    · simp [evIt, f5, walk_tup]
    · simp [compTurn, ce_Sides_unlike_1, f6, c1, pu]
  generalize hA : toldF (J0 X.a) X.row = A at *
  generalize hB : toldF (J0 X.b) X.row = B at *
  have lo : listOf (S ++ [.lst [.tup A, .tup B]]) (.loc S.length) = some [.tup A, .tup B] := by simp [listOf]
  have h' : (S ++ [MO.lst [.tup A, .tup B]])[n]? = some (sidO X) := by rw [List.getElem?_append_left hn]; exact h
  have f6' := sf6 h'
  generalize hS1 : S ++ [MO.lst [.tup A, .tup B]] = S1 at *
  have e2 : ∀ v3 v4, ev (run (PG L) (k + 8)) (.comp ce_Sides_unlike_2 (.one 4) (.range1 (.bi .len (.cons (.fld [1] 6 (.var 0)) .nil))) (.cmp .ne (.idx (.var 1) (.var 4)) (.idx (.var 2) (.var 4)))) [some (.loc n), some (.tup A), some (.tup B), v3, v4] S1 = .ok (.loc S1.length) (S1 ++ [.lst (othD A B)]) := fun v3 v4 => by
    refine comp_map (S := S1) (l := List.range A.length) (f := fun (j : Nat) => D.int j) (g := fun j => if neqJ A B j = true then some (D.int (j : Nat)) else none) ?_ (fun j hj => ?_) (filt_map _) othD_pure (by have := othD_len (A := A) (B := B); omega)
    · have e : ev (run (PG L) (k + 8)) (.bi .len (.cons (.fld [1] 6 (.var 0)) .nil)) [some (.loc n), some (.tup A), some (.tup B), v3, v4] S1 = .ok (.int (A.length : Int)) S1 := by
        simp [f6', l1]
      rw [evIt_r1, e, ok_bind]
      exact range1_ok (by omega)
    · have hj' := List.mem_range.mp hj
      have q := ev_neq (S := S1) f1 f2 hj' (by omega)
      cases e : neqJ A B j <;> rw [e] at q <;> simp [compTurn, ce_Sides_unlike_2, q, D.pure]
  have tp : tupleD (.loc S1.length) (S1 ++ [.lst (othD A B)]) = .ok (.tup (othD A B)) (S1 ++ [.lst (othD A B)]) := by simp [tupleD, listOf]
  have x1 : ex (run (PG L) (k + 8)) (.asgU [1, 2] (.comp ce_Sides_unlike_1 (.one 3) (.of (.fld [1] 5 (.var 0))) (.dat (.bl true)))) [some (.loc n), none, none, none, none] S = .nx [some (.loc n), some (.tup A), some (.tup B), none, none] S1 := by
    rw [ex, e1]
    simp only [ok_thn]
    rw [lo]
    rfl
  refine callF_gc (S1 := S) (T := [.lst [.tup A, .tup B], .lst (othD A B)]) locs_imp ?_ rfl hC (by rw [D.pure]; exact othD_pure)
  rw [run_fd (fd := fd_Sides_unlike) rfl rfl]
  show endD (exs (run (PG L) (k + 8)) sm_Sides_unlike [some (.loc n), none, none, none, none] S) = _
  unfold sm_Sides_unlike
  rw [exs_cons x1]
  have e3 := e2 none none
  have eT : S1 ++ [.lst (othD A B)] = S ++ [.lst [.tup A, .tup B], .lst (othD A B)] := by rw [← hS1]; simp
  rw [← eT]
  simp [e3]
end
end Lw
set_option Elab.async false
set_option linter.all false
set_option maxRecDepth 100000
set_option maxHeartbeats 1000000
namespace Lw
open Ev
variable {L : FD} {k : Nat}
section
variable {S : Store} {n : Nat} {X : SS}
theorem gc_ins {n m c : Nat} {fs : List (Nat × D)} {S : Store} (h : S[m]? = some (.ins c fs)) (hm : n ≤ m) : gc n (.loc m) S = .ok (.loc m) S := by
  unfold gc
  have hl : D.low n (.loc m) = false := by rw [D.low]; exact decide_eq_false (by omega)
  split
  · rfl
  · split
    · rw [hl, if_neg Bool.false_ne_true]
      simp only
      rw [h]
    · rfl
theorem putJ_end {S : Store} {J : JS} : putJ (S ++ [.lst [], .lst []]) S.length (S.length + 1) J = S ++ [jarO J (S.length + 1), .lst J.past] := by
  unfold putJ
  rw [List.set_append_right _ _ (by omega), Nat.add_sub_cancel_left, List.set_append_right _ _ (by omega), Nat.sub_self]
  rfl
theorem atE {S : Store} : At (S ++ [.lst [], .lst []]) S.length (S.length + 1) := ⟨by simp, by simp, by omega⟩
theorem deeds_loop {v0 v1 v2 : Option D} {q m : Nat} {B : Store} (ha : At B q m) : ∀ (xs : List DT) (J : JS) (b : Nat) (v4 : Option D), J.Inv b → b + xs.length < 900 → (∀ x ∈ xs, x.Ok) →
    ∃ w4, forLoop (loopTurn (run (PG L) (k + 7)) (.one 4) lb_Sides_notes_1 false) (xs.map DT.d) [v0, v1, v2, some (.loc q), v4] (putJ B q m J) = .nx [v0, v1, v2, some (.loc q), w4] (putJ B q m (endF J xs))
  | [], J, b, v4, hi, hl, hx => ⟨v4, rfl⟩
  | x :: xs, J, b, v4, hi, hl, hx => by
    rw [List.length_cons] at hl
    have hx0 := hx x List.mem_cons_self
    have c1 := c_do (L := L) (k := k) ha hi (by omega) hx0
    obtain ⟨w4, e⟩ := deeds_loop (v0 := v0) (v1 := v1) (v2 := v2) ha xs (stepF J x).1 (b + 1) (some x.d) (step_inv hi hx0).1 (by omega) fun y hy => hx y (List.mem_cons_of_mem _ hy)
    refine ⟨w4, ?_⟩
    have t1 : loopTurn (run (PG L) (k + 7)) (.one 4) lb_Sides_notes_1 false x.d [v0, v1, v2, some (.loc q), v4] (putJ B q m J) = .nx [v0, v1, v2, some (.loc q), some x.d] (putJ B q m (stepF J x).1) := by
      simp [loopTurn, putTg, lb_Sides_notes_1, c1]
    rw [List.map_cons, forLoop, t1]
    exact e
def ntD (r : RT) (xs : List DT) : D := .tup ((endF (J0 r) xs).ts.map NT.d)
theorem app_mid {S T : Store} {found : List D} {d : D} (hd : d.pure = true) (hl : found.length < 1000) : methD .append (.loc S.length) [d] (S ++ .lst found :: T) = .ok .non (S ++ .lst (found ++ [d]) :: T) := by
  have hz : found.length < lineN := by unfold lineN; omega
  simp only [methD, one, appendD]
  rw [List.getElem?_append_right (Nat.le_refl _), Nat.sub_self, List.getElem?_cons_zero]
  simp only
  rw [if_pos (by simp [hd, hz]), set_end]
theorem ty_mid {S T : Store} {found : List D} : tyOk .append (S ++ .lst found :: T) (.loc S.length) = true := by
  simp [tyOk, listOf]
theorem notes_turn {T : Store} {found : List D} {r : RT} {v2 v3 v4 : Option D} (h : S[n]? = some (sidO X)) (hl : X.row.length < 400) (hx : ∀ y ∈ X.row, y.Ok) (hf : found.length < 10) :
    ∃ w3 w4 T', loopTurn (run (PG L) (k + 7)) (.one 2) lb_Sides_notes_2 false r.d [some (.loc n), some (.loc S.length), v2, v3, v4] (S ++ .lst found :: T) = .nx [some (.loc n), some (.loc S.length), some r.d, w3, w4] (S ++ .lst (found ++ [ntD r X.row]) :: T') := by
  have hn : n < S.length := (List.getElem?_eq_some_iff.mp h).1
  generalize hS1 : S ++ .lst found :: T = S1
  have mk := c_make (L := L) (k := k + 6) (S := S1) (r := r)
  have hg : (S1 ++ [jarO (J0 r) (S1.length + 1), MO.lst []])[S1.length]? = some (jarO (J0 r) (S1.length + 1)) := by
    rw [List.getElem?_append_right (Nat.le_refl _), Nat.sub_self]
    rfl
  have g := gc_ins (n := S1.length) (c := 0) hg (Nat.le_refl _)
  have hn1 : ∀ J, (putJ (S1 ++ [.lst [], .lst []]) S1.length (S1.length + 1) J)[n]? = some (sidO X) := fun J => by
    rw [putJ_end, List.getElem?_append_left (by rw [← hS1, List.length_append]; omega), ← hS1, List.getElem?_append_left hn]
    exact h
  have f6 := fun J => sf6 (hn1 J)
  rw [make_at] at mk g
  obtain ⟨w4, e1⟩ := deeds_loop (L := L) (k := k) (v0 := some (.loc n)) (v1 := some (.loc S.length)) (v2 := some r.d) (q := S1.length) (m := S1.length + 1) (B := S1 ++ [.lst [], .lst []]) atE X.row (J0 r) 0 v4 (J0_inv r) (by omega) hx
  have cn := c_notesJ (L := L) (k := k + 6) (S := S1 ++ [.lst [], .lst []]) (n := S1.length) (m := S1.length + 1) (J := endF (J0 r) X.row) atE
  have ep : putJ (S1 ++ [.lst [], .lst []]) S1.length (S1.length + 1) (endF (J0 r) X.row) = S ++ .lst found :: (T ++ [jarO (endF (J0 r) X.row) (S1.length + 1), .lst (endF (J0 r) X.row).past]) := by
    rw [putJ_end, ← hS1]
    simp
  have ty : tyOk .append (putJ (S1 ++ [.lst [], .lst []]) S1.length (S1.length + 1) (endF (J0 r) X.row)) (.loc S.length) = true := by rw [ep]; exact ty_mid
  have ap : methD .append (.loc S.length) [.tup ((endF (J0 r) X.row).ts.map NT.d)] (putJ (S1 ++ [.lst [], .lst []]) S1.length (S1.length + 1) (endF (J0 r) X.row)) = .ok .non (S ++ .lst (found ++ [ntD r X.row]) :: (T ++ [jarO (endF (J0 r) X.row) (S1.length + 1), .lst (endF (J0 r) X.row).past])) := by
    rw [ep]
    exact app_mid notes_pure (by omega)
  have mcn := mc_J (F := run (PG L) (k + 7)) (j := 5) (J := endF (J0 r) X.row) (o := .ok [] (putJ (S1 ++ [.lst [], .lst []]) S1.length (S1.length + 1) (endF (J0 r) X.row))) (atE (S := S1))
  have mc2 : mcK (run (PG L) (k + 7)) [0, 1] 5 (.loc S1.length) (putJ (S1 ++ [.lst [], .lst []]) S1.length (S1.length + 1) (endF (J0 r) X.row)) (.ok [] (putJ (S1 ++ [.lst [], .lst []]) S1.length (S1.length + 1) (endF (J0 r) X.row))) = .ok (.tup ((endF (J0 r) X.row).ts.map NT.d)) (putJ (S1 ++ [.lst [], .lst []]) S1.length (S1.length + 1) (endF (J0 r) X.row)) := by
    unfold mcK
    rw [ins_J atE]
    exact cn
  refine ⟨some (.loc S1.length), w4, T ++ [jarO (endF (J0 r) X.row) (S1.length + 1), .lst (endF (J0 r) X.row).past], ?_⟩
  have x1 : ex (run (PG L) (k + 7)) (.asg 3 (.make 0 (.cons (.var 2) .nil))) [some (.loc n), some (.loc S.length), some r.d, v3, v4] S1 = .nx [some (.loc n), some (.loc S.length), some r.d, some (.loc S1.length), v4] (putJ (S1 ++ [.lst [], .lst []]) S1.length (S1.length + 1) (J0 r)) := by
    simp [mk, g]
  have x2 : ex (run (PG L) (k + 7)) (.loop (.one 4) (.of (.fld [1] 6 (.var 0))) lb_Sides_notes_1 false) [some (.loc n), some (.loc S.length), some r.d, some (.loc S1.length), v4] (putJ (S1 ++ [.lst [], .lst []]) S1.length (S1.length + 1) (J0 r)) = .nx [some (.loc n), some (.loc S.length), some r.d, some (.loc S1.length), w4] (putJ (S1 ++ [.lst [], .lst []]) S1.length (S1.length + 1) (endF (J0 r) X.row)) := by
    simp [ex_loop, evIt, f6, walk_tup, e1, lockS_none]
  have gl : (S ++ .lst (found ++ [ntD r X.row]) :: (T ++ [jarO (endF (J0 r) X.row) (S1.length + 1), .lst (endF (J0 r) X.row).past])).length = S1.length + 2 := by
    rw [← hS1]
    simp
    omega
  have x3 : ex (run (PG L) (k + 7)) (.expr (.meth .append (.var 1) (.cons (.mcall [0, 1] 5 (.var 3) .nil) .nil))) [some (.loc n), some (.loc S.length), some r.d, some (.loc S1.length), w4] (putJ (S1 ++ [.lst [], .lst []]) S1.length (S1.length + 1) (endF (J0 r) X.row)) = .nx [some (.loc n), some (.loc S.length), some r.d, some (.loc S1.length), w4] (S ++ .lst (found ++ [ntD r X.row]) :: (T ++ [jarO (endF (J0 r) X.row) (S1.length + 1), .lst (endF (J0 r) X.row).past])) := by
    have hlp : (putJ (S1 ++ [.lst [], .lst []]) S1.length (S1.length + 1) (endF (J0 r) X.row)).length = S1.length + 2 := by simp
    generalize putJ (S1 ++ [.lst [], .lst []]) S1.length (S1.length + 1) (endF (J0 r) X.row) = PP at *
    simp [ty, mc2, ap]
    rw [hlp, gc_len gl]
    rfl
  rw [turn_one (by simp)]
  simp only [List.set_cons_succ, List.set_cons_zero]
  unfold lb_Sides_notes_2
  rw [exs_cons x1, exs_cons x2, exs_cons x3]
  rfl
theorem c_snotes (h : S[n]? = some (sidO X)) (hC : Cl S) (hl : X.row.length < 400) (hx : ∀ y ∈ X.row, y.Ok) : callF (run (PG L) (k + 8)) 555 [.loc n] S = .ok (.tup [ntD X.a X.row, ntD X.b X.row]) S := by
  have hn : n < S.length := (List.getElem?_eq_some_iff.mp h).1
  obtain ⟨w3, w4, T, e1⟩ := notes_turn (L := L) (k := k) (T := []) (found := []) (r := X.a) (v2 := none) (v3 := none) (v4 := none) h hl hx (by simp)
  obtain ⟨u3, u4, T2, e2⟩ := notes_turn (L := L) (k := k) (T := T) (found := [ntD X.a X.row]) (r := X.b) (v2 := some X.a.d) (v3 := w3) (v4 := w4) h hl hx (by simp)
  simp only [List.nil_append] at e1
  have hn1 : (S ++ [MO.lst []])[n]? = some (sidO X) := by rw [List.getElem?_append_left hn]; exact h
  have f5 := sf5 hn1
  have x1 : ex (run (PG L) (k + 7)) (.asg 1 (.lst .nil)) [some (.loc n), none, none, none, none] S = .nx [some (.loc n), some (.loc S.length), none, none, none] (S ++ [.lst []]) := by
    have nl : newL [] S = .ok (.loc S.length) (S ++ [.lst []]) := by simp [newL, D.pureAll, szOk]
    simp [nl, gc_lst (hC _)]
  have x2 : ex (run (PG L) (k + 7)) (.loop (.one 2) (.of (.fld [1] 5 (.var 0))) lb_Sides_notes_2 false) [some (.loc n), some (.loc S.length), none, none, none] (S ++ [.lst []]) = .nx [some (.loc n), some (.loc S.length), some X.b.d, u3, u4] (S ++ .lst [ntD X.a X.row, ntD X.b X.row] :: T2) := by
    simp [ex_loop, evIt, f5, walk_tup, lockS_none, forLoop, e1, e2]
  refine callF_gc (S1 := S) (T := .lst [ntD X.a X.row, ntD X.b X.row] :: T2) locs_imp ?_ rfl hC (by simp [D.pure, D.pureAll, ntD])
  rw [run_fd (fd := fd_Sides_notes) rfl rfl]
  show endD (exs (run (PG L) (k + 7)) sm_Sides_notes [some (.loc n), none, none, none, none] S) = _
  unfold sm_Sides_notes
  rw [exs_cons x1, exs_cons x2]
  simp
end
end Lw
set_option Elab.async false
set_option linter.all false
set_option maxRecDepth 100000
set_option maxHeartbeats 1000000
namespace Lw
open Ev
variable {L : FD} {k : Nat}
section
variable {J : JS} {b : Nat} {v0 v1 v2 v5 v6 v7 : Option D} {told : List D} {T : Store}
theorem lrunT_turn {x : DT} (hi : J.Inv b) (or : J.r.Ok) (hx : x.Ok) (hl : told.length < 900) (hT : Cl T) : ∃ w5 w6 w7, loopTurn (run (PG L) (k + 7)) (.one 2) lb__law_run_1 false x.d [some J.r.d, v1, v2, some (stD J), some (.loc T.length), v5, v6, v7] (T ++ [.lst told]) =
    .nx [some J.r.d, v1, some x.d, some (stD (stepF J x).1), some (.loc T.length), w5, w6, w7] (T ++ [.lst (told ++ [(stepF J x).2])]) := by
  have fl := step_flat (J := J) (x := x) (by have := hi.six; omega)
  have ap := app_mid (S := T) (T := []) (found := told) fl.1 (by omega)
  have h6 := hi.six
  have t0 : ∀ S, idxD (stD J) (.int 0) S = .ok J.r.d S := fun S => rfl
  have t1 : ∀ S, idxD (stD J) (.int 1) S = .ok (.tup (J.ts.map NT.d)) S := fun S => rfl
  have t2 : ∀ S, idxD (stD J) (.int 2) S = .ok (.int J.t) S := fun S => rfl
  have ty : tyOk .append (T ++ [.lst told]) (.loc T.length) = true := ty_mid
  have cl : closedS (T ++ [MO.lst told]).length (T ++ [.lst told]) = true := (hT.append Cl.lst) _
  have lT : (T ++ [MO.lst told]).length = T.length + 1 := by simp
  cases x with
  | ask hh p s o l =>
    refine ⟨v5, v6, v7, ?_⟩
    have c1 := fun S => c_lsent (L := L) (k := k + 3) (r := J.r) (S := S) or hi.good (hi.ask hx) (by omega)
    have i0 : ∀ S, idxD (DT.ask hh p s o l).d (.int 0) S = .ok (.str [97, 115, 107]) S := fun S => rfl
    have i1 : ∀ S, idxD (DT.ask hh p s o l).d (.int 1) S = .ok (.str hh) S := fun S => rfl
    have i2 : ∀ S, idxD (DT.ask hh p s o l).d (.int 2) S = .ok (.str p) S := fun S => rfl
    have i3 : ∀ S, slcD (DT.ask hh p s o l).d (some 3) none S = .ok (.tup [.bl s, orgD o, .bl l]) S := fun S => rfl
    have a1 : ∀ S, binD .add (.tup [.str hh, .str p, .int J.t]) (.tup [.bl s, orgD o, .bl l]) S = .ok (⟨hh, p, J.t, s, o, l⟩ : AT).d S := fun S => rfl
    simp only [stepF] at ap ⊢
    have es : stD (J.askd ⟨hh, p, J.t, s, o, l⟩) = stD J := rfl
    rw [es]
    generalize (DT.ask hh p s o l).d = xd at *
    generalize stD J = sd at *
    have gl : (T ++ [MO.lst (told ++ [.tup ((sentF J.r J.ts ⟨hh, p, J.t, s, o, l⟩).map pairD)])]).length = (T ++ [MO.lst told]).length := by simp
    generalize hPP : T ++ [MO.lst told] = PP at *
    simp [loopTurn, putTg, lb__law_run_1, i0, i1, i2, i3, t1, t2, a1, c1, ty, ap]
    rw [← lT] at *
    simp [gc_len gl]
  | pass z =>
    have i0 : ∀ S, idxD (DT.pass z).d (.int 0) S = .ok (.str [112, 97, 115, 115, 95, 111, 110]) S := fun S => rfl
    have i1 : ∀ S, idxD (DT.pass z).d (.int 1) S = .ok (.int z) S := fun S => rfl
    refine ⟨some (.int (passT J z)), v6, v7, ?_⟩
    have hp : (if J.t + z < 99 then J.t + z else 99) = passT J z := rfl
    have e1 : ∀ v2, ev (run (PG L) (k + 7)) (.comp ce__law_run_1 (.one 7) (.of (.idx (.var 3) (.dat (.int 1)))) (.not (.call 28 (.cons (.var 0) (.cons (.var 7) (.cons (.var 5) .nil)))))) [some J.r.d, v1, v2, some (stD J), some (.loc T.length), some (.int (passT J z)), v6, v7] (T ++ [.lst told]) = .ok (.loc (T ++ [MO.lst told]).length) (T ++ [.lst told] ++ [.lst ((freshF J.r J.ts (passT J z)).map NT.d)]) := fun v2 => by
      refine comp_map (S := T ++ [.lst told]) (l := J.ts) (f := NT.d) (g := fun m => if (!hasEnded J.r m (passT J z)) = true then some m.d else none) ?_ (fun m h => ?_) (filt_map J.ts) (pureAll_map fun _ _ => NT.pure _) (by rw [List.length_map]; have := fresh_len (r := J.r) (ts := J.ts) (t := passT J z); unfold freshF at this; omega)
      · simp [evIt, t1, walk_tup]
      · have c1 := fun S => c_lended (L := L) (k := k + 6) (r := J.r) (n := m) (t := passT J z) (S := S)
        cases hd : hasEnded J.r m (passT J z) <;> simp [compTurn, ce__law_run_1, c1, hd, NT.pure]
    simp only [stepF] at ap ⊢
    have es : stD (J.bec J.r (freshF J.r J.ts (passT J z)) (passT J z)) = .tup [J.r.d, .tup ((freshF J.r J.ts (passT J z)).map NT.d), .int (passT J z)] := rfl
    rw [es]
    have g1 : ∀ (d : D) (fr : List D), d.pure = true → gc (T.length + 1) d (T ++ [.lst told, .lst fr]) = .ok d (T ++ [.lst told]) := fun d fr h => by
      have := gc_drop (S := T ++ [.lst told]) (T := [.lst fr]) cl (low_pure _ _ h)
      simpa using this
    have pf : D.pure (.tup [J.r.d, .tup ((freshF J.r J.ts (passT J z)).map NT.d), .int (passT J z)]) = true := by simp [D.pure, D.pureAll, RT.pure]
    generalize hq : (freshF J.r J.ts (passT J z)).map NT.d = fr at *
    generalize (DT.pass z).d = xd at *
    generalize stD J = sd at *
    simp [loopTurn, putTg, lb__law_run_1, i0, i1, t2, hp, e1, g1, pf, ty, ap]
  | take nt ho =>
    have i0 : ∀ S, idxD (DT.take nt ho).d (.int 0) S = .ok (.str [116, 97, 107, 101]) S := fun S => rfl
    have i1 : ∀ S, idxD (DT.take nt ho).d (.int 1) S = .ok nt.d S := fun S => rfl
    have i2 : ∀ S, idxD (DT.take nt ho).d (.int 2) S = .ok (.str ho) S := fun S => rfl
    have c1 := fun S => c_ltk (L := L) (k := k + 4) (r := J.r) (t := J.t) (nt := nt) (ts := J.ts) (ho := ho) (S := S) h6 (by have := hx.1.host; omega) (by have := hx.2; omega)
    have es : D.tup [J.r.d, .tup (J.ts.map NT.d), .int J.t] = stD J := rfl
    rw [es] at c1
    simp only [stepF, take_S] at ap ⊢
    generalize (DT.take nt ho).d = xd at *
    cases e : tkS J.r J.ts J.t nt ho with
    | inl us =>
      rw [e] at c1 ap
      simp only at ap ⊢
      have ec : stD (J.bec J.r us J.t) = tkD J.r J.t (.inl us) := rfl
      rw [ec]
      have is : ∀ S, isTys S (tkD J.r J.t (.inl us)) [.tStr] = some false := fun S => rfl
      refine ⟨v5, some (tkD J.r J.t (.inl us)), v7, ?_⟩
      generalize tkD J.r J.t (.inl us) = nd at *
      generalize stD J = sd at *
      simp [loopTurn, putTg, lb__law_run_1, i0, i1, i2, c1, is, blO, ty, ap]
    | inr c =>
      rw [e] at c1 ap
      simp only at ap ⊢
      have is : ∀ S, isTys S (tkD J.r J.t (.inr c)) [.tStr] = some true := fun S => rfl
      have ec : D.str (wordF c) = tkD J.r J.t (.inr c) := rfl
      rw [ec] at ap ⊢
      refine ⟨v5, some (tkD J.r J.t (.inr c)), v7, ?_⟩
      generalize tkD J.r J.t (.inr c) = nd at *
      generalize stD J = sd at *
      simp [loopTurn, putTg, lb__law_run_1, i0, i1, i2, c1, is, blO, ty, ap]
theorem lrunT_loop : ∀ (xs : List DT) (J : JS) (b : Nat) (told : List D) (v2 v5 v6 v7 : Option D), J.Inv b → J.r.Ok → (∀ x ∈ xs, x.Ok) → told.length + xs.length < 900 → Cl T →
    ∃ w2 w5 w6 w7, forLoop (loopTurn (run (PG L) (k + 7)) (.one 2) lb__law_run_1 false) (xs.map DT.d) [some J.r.d, v1, v2, some (stD J), some (.loc T.length), v5, v6, v7] (T ++ [.lst told]) = .nx [some J.r.d, v1, w2, some (stD (endF J xs)), some (.loc T.length), w5, w6, w7] (T ++ [.lst (told ++ toldF J xs)])
  | [], J, b, told, v2, v5, v6, v7, hi, or, hx, hl, hT => ⟨v2, v5, v6, v7, by simp [forLoop, endF, toldF]⟩
  | x :: xs, J, b, told, v2, v5, v6, v7, hi, or, hx, hl, hT => by
    rw [List.length_cons] at hl
    have hx0 := hx x List.mem_cons_self
    obtain ⟨w5, w6, w7, e⟩ := lrunT_turn (L := L) (k := k) (v1 := v1) (v2 := v2) (v5 := v5) (v6 := v6) (v7 := v7) (told := told) hi or hx0 (by omega) hT
    obtain ⟨si, sr⟩ := step_inv hi hx0
    obtain ⟨u2, u5, u6, u7, e2⟩ := lrunT_loop xs (stepF J x).1 (b + 1) (told ++ [(stepF J x).2]) (some x.d) w5 w6 w7 si (by rw [sr]; exact or) (fun y hy => hx y (List.mem_cons_of_mem _ hy)) (by simp; omega) hT
    rw [sr] at e2
    refine ⟨u2, u5, u6, u7, ?_⟩
    rw [List.map_cons, forLoop, e]
    simp only
    rw [e2]
    simp [endF, toldF]
end
end Lw
set_option Elab.async false
set_option linter.all false
set_option maxRecDepth 100000
set_option maxHeartbeats 1000000
namespace Lw
open Ev
variable {L : FD} {k : Nat}
/-! ### _law_run of a list -/
theorem set_same {S : Store} {j : Nat} {o : MO} (h : S[j]? = some o) : S.set j o = S := by
  obtain ⟨hl, e⟩ := List.getElem?_eq_some_iff.mp h
  rw [← e]
  exact List.set_getElem_self hl
def lrD (r : RT) (xs : List DT) : D := .tup [.tup (toldF (J0 r) xs), ntD r xs]
theorem lrD_pure {r : RT} {xs : List DT} (hx : ∀ x ∈ xs, x.Ok) : (lrD r xs).pure = true := by
  unfold lrD ntD
  rw [D.pure, D.pureAll, told_pure hx, D.pureAll, notes_pure]
  rfl
theorem c_lrunL {r : RT} {xs : List DT} {S : Store} {j : Nat} (or : r.Ok) (hl : xs.length ≤ 500) (hx : ∀ x ∈ xs, x.Ok) (hj : S[j]? = some (.lst (xs.map DT.d))) (hC : Cl S) : callF (run (PG L) (k + 8)) 58 [r.d, .loc j] S = .ok (lrD r xs) S := by
  have hlt : j < S.length := (List.getElem?_eq_some_iff.mp hj).1
  have hT : Cl (S.set j (.frz (xs.map DT.d))) := hC.set fun _ => rfl
  obtain ⟨u2, u5, u6, u7, e⟩ := lrunT_loop (L := L) (k := k) (v1 := some (.loc j)) (T := S.set j (.frz (xs.map DT.d))) xs (J0 r) 0 [] none none none none (J0_inv r) or hx (by simp; omega) hT
  rw [List.length_set, List.nil_append] at e
  have imp : D.pureAll [r.d, .loc j] = false := by simp [D.pureAll, D.pure]
  refine callF_gc (S1 := S) (T := [.lst (toldF (J0 r) xs)]) imp ?_ rfl hC (lrD_pure hx)
  rw [run_fd (fd := fd__law_run) rfl rfl]
  show endD (exs (run (PG L) (k + 7)) sm__law_run [some r.d, some (.loc j), none, none, none, none, none, none] S) = _
  have nl : newL [] S = .ok (.loc S.length) (S ++ [.lst []]) := by simp [newL, D.pureAll, szOk]
  have e0 : D.tup [r.d, .tup [], .int 0] = stD (J0 r) := rfl
  have x1 : ex (run (PG L) (k + 7)) (.par [3, 4] (.cons (.tup (.cons (.var 0) (.cons (.tup .nil) (.cons (.dat (.int 0)) .nil)))) (.cons (.lst .nil) .nil))) [some r.d, some (.loc j), none, none, none, none, none, none] S = .nx [some r.d, some (.loc j), none, some (stD (J0 r)), some (.loc S.length), none, none, none] (S ++ [.lst []]) := by
    rw [← e0]
    simp [nl, setAll]
  have wk : walkOf (S ++ [MO.lst []]).length (.loc j) (S ++ [.lst []]) = .ok ⟨xs.map DT.d, some j⟩ (S.set j (.frz (xs.map DT.d)) ++ [.lst []]) := by
    rw [walk_lock (xs := xs.map DT.d) (by rw [List.getElem?_append_left hlt]; exact hj) (by simp; omega), List.set_append_left _ _ hlt]
  have x2 : ex (run (PG L) (k + 7)) (.loop (.one 2) (.of (.var 1)) lb__law_run_1 false) [some r.d, some (.loc j), none, some (stD (J0 r)), some (.loc S.length), none, none, none] (S ++ [.lst []]) = .nx [some r.d, some (.loc j), u2, some (stD (endF (J0 r) xs)), some (.loc S.length), u5, u6, u7] (S ++ [.lst (toldF (J0 r) xs)]) := by
    have hit : evIt (run (PG L) (k + 7)) (.of (.var 1)) [some r.d, some (.loc j), none, some (stD (J0 r)), some (.loc S.length), none, none, none] (S ++ [.lst []]) = .ok ⟨xs.map DT.d, some j⟩ (S.set j (.frz (xs.map DT.d)) ++ [.lst []]) := by
      rw [evIt]
      exact wk
    rw [ex_loop, hit]
    simp only [ok_thn]
    have er : (J0 r).r = r := rfl
    rw [er] at e
    rw [e]
    simp only [lockEndS, unlock]
    have g : (S.set j (MO.frz (xs.map DT.d)) ++ [.lst (toldF (J0 r) xs)])[j]? = some (.frz (xs.map DT.d)) := by
      rw [List.getElem?_append_left (by simpa using hlt), List.getElem?_set_self hlt]
    rw [g]
    simp only [unlockO]
    rw [List.set_append_left _ _ (by simpa using hlt), List.set_set, set_same hj]
  have t1 : ∀ S, idxD (stD (endF (J0 r) xs)) (.int 1) S = .ok (ntD r xs) S := fun S => rfl
  unfold sm__law_run
  rw [exs_cons x1, exs_cons x2]
  have ed : D.tup [.tup (toldF (J0 r) xs), ntD r xs] = lrD r xs := rfl
  generalize stD (endF (J0 r) xs) = sd at *
  simp [t1, ed]
/-! ### drawn deeds of sides -/
inductive SD where
  | back | forth | deed (x : DT)
def SD.d : SD → D
  | .back => .tup [.str [98, 97, 99, 107]]
  | .forth => .tup [.str [102, 111, 114, 116, 104]]
  | .deed x => x.d
def SD.Ok : SD → Prop
  | .deed x => x.Ok
  | _ => True
theorem SD.pure (y : SD) : y.d.pure = true := by
  cases y with
  | back => rfl
  | forth => rfl
  | deed x => exact x.pure
theorem r_sidedeed {c : Int} {ts : List NT} (hts : ∀ n ∈ ts, n.Ok) (hl : ts.length ≤ 100) : ∃ y : SD, y.Ok ∧ Gives (run (PG L) (k + 5)) 65 [.int c, .tup (ts.map NT.d)] y.d := by
  have c1 := fun S => c_mix (L := L) (k := k + 3) (c := c) (p := 9479) (m := 10) (S := S) (by omega) (by omega) (by omega)
  obtain ⟨x, hx, g⟩ := r_rowdeed (L := L) (k := k) (c := c) hts hl
  have c2 := fun S => callF_ok (S := S) (by simp [D.pureAll, D.pure]) g x.pure
  generalize mixF c 9479 10 = w at *
  by_cases h2 : w < 2
  · refine ⟨.back, trivial, gives_of (fd := fd__law_side_deed) rfl rfl ?_⟩
    simp [fd__law_side_deed, sm__law_side_deed, c1, h2, SD.d]
  · by_cases h3 : w = 2
    · refine ⟨.forth, trivial, gives_of (fd := fd__law_side_deed) rfl rfl ?_⟩
      subst h3
      simp [fd__law_side_deed, sm__law_side_deed, c1, SD.d]
    · refine ⟨.deed x, hx, gives_of (fd := fd__law_side_deed) rfl rfl ?_⟩
      simp [fd__law_side_deed, sm__law_side_deed, c1, h2, h3, c2, SD.d]
/-! ### told by sides -/
def noD : D := .str [110, 111, 32, 100, 101, 101, 100]
inductive StepS : SS → SD → SS → D → Prop where
  | back0 {X : SS} (e : X.row = []) : StepS X .back X noD
  | back1 {X : SS} {xs : List DT} {x : DT} (e : X.row = xs ++ [x]) : StepS X .back ⟨X.a, X.b, xs, X.und ++ [x]⟩ .non
  | forth0 {X : SS} (e : X.und = []) : StepS X .forth X noD
  | forth1 {X : SS} {xs : List DT} {x : DT} (e : X.und = xs ++ [x]) : StepS X .forth ⟨X.a, X.b, X.row ++ [x], xs⟩ .non
  | deed {X : SS} {x : DT} : StepS X (.deed x) ⟨X.a, X.b, X.row ++ [x], []⟩ (saidS ⟨X.a, X.b, X.row ++ [x], []⟩)
theorem x_ne {x : DT} {s : List Nat} : eqD x.d (.tup [.str s]) = false := by
  cases x <;> simp [DT.d, eqD, eqDs]
section
variable {S : Store} {n : Nat} {X X' : SS} {y : SD} {told : D}
theorem c_sided (h : S[n]? = some (sidO X)) (hC : Cl S) (hl : X.row.length < 400) (hu : X.und.length < 400) (hx : ∀ z ∈ X.row, z.Ok) (hy : y.Ok) (st : StepS X y X' told) : callF (run (PG L) (k + 10)) 64 [.loc n, y.d] S = .ok told (S.set n (sidO X')) := by
  have dd : ∀ d : D, min d.depth (D.tup [.str [98, 97, 99, 107]]).depth ≤ 60 := fun d => by simp [D.depth, D.depthAll]; omega
  have df : ∀ d : D, min d.depth (D.tup [.str [102, 111, 114, 116, 104]]).depth ≤ 60 := fun d => by simp [D.depth, D.depthAll]; omega
  have q1 := fun d hd S => eq_pure (S := S) (a := d) (b := .tup [.str [98, 97, 99, 107]]) hd rfl (dd d)
  have q2 := fun d hd S => eq_pure (S := S) (a := d) (b := .tup [.str [102, 111, 114, 116, 104]]) hd rfl (df d)
  have h6 : ∀ S, hotF 6 (run (PG L) (k + 9)) 1006 [] S = .ok (.bl true) S := fun S => rfl
  have h0 : ∀ S, hotF 6 (run (PG L) (k + 9)) 1000 [] S = .ok (.bl true) S := fun S => rfl
  refine callF_st locs_imp ?_ (by simp)
  rw [run_fd (fd := fd__law_sided) rfl rfl]
  cases st with
  | back0 e =>
    have c1 := c_back0 (L := L) (k := k + 8) h e
    have qa := fun S => q1 SD.back.d rfl S
    have ea : eqD SD.back.d (.tup [.str [98, 97, 99, 107]]) = true := rfl
    rw [ea] at qa
    rw [set_id h]
    generalize SD.back.d = xd at *
    simp [fd__law_sided, sm__law_sided, qa, mc_S h, mid, c1, subC, h6, h0, noD]
  | @back1 xs x e =>
    have c1 := c_back1 (L := L) (k := k + 8) h e (by omega)
    have qa := fun S => q1 SD.back.d rfl S
    have ea : eqD SD.back.d (.tup [.str [98, 97, 99, 107]]) = true := rfl
    rw [ea] at qa
    generalize SD.back.d = xd at *
    simp [fd__law_sided, sm__law_sided, qa, mc_S h, mid, c1]
  | forth0 e =>
    have c1 := c_forth0 (L := L) (k := k + 8) h e
    have qa := fun S => q1 SD.forth.d rfl S
    have qb := fun S => q2 SD.forth.d rfl S
    have ea : eqD SD.forth.d (.tup [.str [98, 97, 99, 107]]) = false := rfl
    have eb : eqD SD.forth.d (.tup [.str [102, 111, 114, 116, 104]]) = true := rfl
    rw [ea] at qa
    rw [eb] at qb
    rw [set_id h]
    generalize SD.forth.d = xd at *
    simp [fd__law_sided, sm__law_sided, qa, qb, mc_S h, mid, c1, subC, h6, h0, noD]
  | @forth1 xs x e =>
    have c1 := c_forth1 (L := L) (k := k + 8) h e (by omega)
    have qa := fun S => q1 SD.forth.d rfl S
    have qb := fun S => q2 SD.forth.d rfl S
    have ea : eqD SD.forth.d (.tup [.str [98, 97, 99, 107]]) = false := rfl
    have eb : eqD SD.forth.d (.tup [.str [102, 111, 114, 116, 104]]) = true := rfl
    rw [ea] at qa
    rw [eb] at qb
    generalize SD.forth.d = xd at *
    simp [fd__law_sided, sm__law_sided, qa, qb, mc_S h, mid, c1]
  | @deed x =>
    have hx' : ∀ z ∈ X.row ++ [x], z.Ok := fun z hz => by
      rcases List.mem_append.mp hz with hz | hz
      · exact hx z hz
      · rw [List.mem_singleton.mp hz]; exact hy
    have c1 := c_sdo (L := L) (k := k) h hC (by omega) hx'
    have qa := fun S => q1 x.d x.pure S
    have qb := fun S => q2 x.d x.pure S
    rw [x_ne] at qa qb
    have ed : (SD.deed x).d = x.d := rfl
    rw [ed]
    generalize saidS ⟨X.a, X.b, X.row ++ [x], []⟩ = sd at *
    simp [fd__law_sided, sm__law_sided, qa, qb, mc_S h, mid, c1]
end
end Lw
set_option Elab.async false
set_option linter.all false
set_option maxRecDepth 100000
set_option maxHeartbeats 1000000
namespace Lw
open Ev
def q66_1 : Sm := Sm.asgT [5, 6] (Ex.tup (Exs.cons (Ex.call 58 (Exs.cons (Ex.var 1) (Exs.cons (Ex.var 3) Exs.nil))) (Exs.cons (Ex.call 58 (Exs.cons (Ex.var 2) (Exs.cons (Ex.var 3) Exs.nil))) Exs.nil)))
def q66_2 : Sm := Sm.ife (Ex.or (Ex.cmp Cop.ne (Ex.mcall [1] 12 (Ex.var 0) Exs.nil) (Ex.bi Bi.tuple (Exs.cons (Ex.var 3) Exs.nil))) (Ex.or (Ex.cmp Cop.ne (Ex.mcall [1] 16 (Ex.var 0) Exs.nil) (Ex.tup (Exs.cons (Ex.bi Bi.len (Exs.cons (Ex.var 3) Exs.nil)) (Exs.cons (Ex.bi Bi.len (Exs.cons (Ex.var 4) Exs.nil)) Exs.nil)))) (Ex.cmp Cop.ne (Ex.mcall [0, 1] 5 (Ex.var 0) Exs.nil) (Ex.tup (Exs.cons (Ex.idx (Ex.var 5) (Ex.dat (D.int 1))) (Exs.cons (Ex.idx (Ex.var 6) (Ex.dat (D.int 1))) Exs.nil)))))) (Sms.cons (Sm.ret (Ex.dat (D.bl false))) Sms.nil) Sms.nil
def q66_3 : Sm := Sm.ret (Ex.cmp Cop.eq (Ex.mcall [1] 13 (Ex.var 0) Exs.nil) (Ex.bi Bi.tuple (Exs.cons (Ex.comp ce__law_is_as_1 (Tg.one 7) (It.range1 (Ex.bi Bi.len (Exs.cons (Ex.var 3) Exs.nil))) (Ex.cmp Cop.ne (Ex.idx (Ex.idx (Ex.var 5) (Ex.dat (D.int 0))) (Ex.var 7)) (Ex.idx (Ex.idx (Ex.var 6) (Ex.dat (D.int 0))) (Ex.var 7)))) Exs.nil)))
theorem q66_eq : sm__law_is_as = .cons q66_1 (.cons q66_2 (.cons q66_3 .nil)) := rfl
def q24_1 : Sm := Sm.asg 10 (Ex.call 65 (Exs.cons (Ex.bin Bop.add (Ex.bin Bop.add (Ex.call 7 (Exs.cons (Ex.var 0) (Exs.cons (Ex.bin Bop.mod (Ex.var 3) (Ex.dat (D.int 9))) Exs.nil))) (Ex.bin Bop.mul (Ex.dat (D.int 47)) (Ex.var 3))) (Ex.var 1)) (Exs.cons (Ex.var 4) Exs.nil)))
def q24_2 : Sm := Sm.par [11, 12] (Exs.cons (Ex.call 64 (Exs.cons (Ex.var 7) (Exs.cons (Ex.var 10) Exs.nil))) (Exs.cons (Ex.dat D.non) Exs.nil))
def q24_3 : Sm := Sm.ife (Ex.cmp Cop.isin (Ex.idx (Ex.var 10) (Ex.dat (D.int 0))) (Ex.tup (Exs.cons (Ex.dat (D.str [98, 97, 99, 107])) (Exs.cons (Ex.dat (D.str [102, 111, 114, 116, 104])) Exs.nil)))) (Sms.cons (Sm.asgT [13, 14] (Ex.ife (Ex.cmp Cop.eq (Ex.idx (Ex.var 10) (Ex.dat (D.int 0))) (Ex.dat (D.str [98, 97, 99, 107]))) (Ex.tup (Exs.cons (Ex.var 8) (Exs.cons (Ex.var 9) Exs.nil))) (Ex.tup (Exs.cons (Ex.var 9) (Exs.cons (Ex.var 8) Exs.nil))))) (Sms.cons (Sm.asg 12 (Ex.ife (Ex.cmp Cop.eq (Ex.var 13) (Ex.lst Exs.nil)) (Ex.dat (D.str [110, 111, 32, 100, 101, 101, 100])) (Ex.dat D.non))) (Sms.cons (Sm.ife (Ex.cmp Cop.ne (Ex.var 13) (Ex.lst Exs.nil)) (Sms.cons (Sm.expr (Ex.meth Me.append (Ex.var 14) (Exs.cons (Ex.meth Me.pop (Ex.var 13) Exs.nil) Exs.nil))) Sms.nil) Sms.nil) Sms.nil))) (Sms.cons (Sm.expr (Ex.meth Me.append (Ex.var 8) (Exs.cons (Ex.var 10) Exs.nil))) (Sms.cons (Sm.par [9, 12] (Exs.cons (Ex.lst Exs.nil) (Exs.cons (Ex.tup (Exs.cons (Ex.idx (Ex.idx (Ex.call 58 (Exs.cons (Ex.var 5) (Exs.cons (Ex.var 8) Exs.nil))) (Ex.dat (D.int 0))) (Ex.dat (D.int (-1)))) (Exs.cons (Ex.idx (Ex.idx (Ex.call 58 (Exs.cons (Ex.var 6) (Exs.cons (Ex.var 8) Exs.nil))) (Ex.dat (D.int 0))) (Ex.dat (D.int (-1)))) Exs.nil))) Exs.nil))) Sms.nil))
def q24_4 : Sm := Sm.ife (Ex.or (Ex.cmp Cop.ne (Ex.var 11) (Ex.var 12)) (Ex.not (Ex.call 66 (Exs.cons (Ex.var 7) (Exs.cons (Ex.var 5) (Exs.cons (Ex.var 6) (Exs.cons (Ex.var 8) (Exs.cons (Ex.var 9) Exs.nil)))))))) (Sms.cons (Sm.ret (Ex.dat (D.bl false))) Sms.nil) Sms.nil
theorem q24_eq : lb_law_1 = .cons q24_1 (.cons q24_2 (.cons q24_3 (.cons q24_4 .nil))) := rfl
def u24_1 : Sm := Sm.asg 2 (Ex.bin Bop.add (Ex.call 7 (Exs.cons (Ex.var 0) (Exs.cons (Ex.var 1) Exs.nil))) (Ex.bin Bop.mul (Ex.dat (D.int 43)) (Ex.var 1)))
def u24_2 : Sm := Sm.par [4, 5, 6] (Exs.cons (Ex.call 14 (Exs.cons (Ex.var 2) (Exs.cons (Ex.dat (D.int 4)) Exs.nil))) (Exs.cons (Ex.call 24 (Exs.cons (Ex.bin Bop.add (Ex.var 2) (Ex.dat (D.int 3))) Exs.nil)) (Exs.cons (Ex.call 24 (Exs.cons (Ex.bin Bop.add (Ex.var 2) (Ex.dat (D.int 7))) Exs.nil)) Exs.nil)))
def u24_3 : Sm := Sm.par [7, 8, 9] (Exs.cons (Ex.make 1 (Exs.cons (Ex.var 5) (Exs.cons (Ex.var 6) Exs.nil))) (Exs.cons (Ex.lst Exs.nil) (Exs.cons (Ex.lst Exs.nil) Exs.nil)))
def u24_4 : Sm := Sm.loop (Tg.one 3) (It.range1 (Ex.dat (D.int 20))) lb_law_1 false
theorem u24_eq : lb_law_2 = .cons u24_1 (.cons u24_2 (.cons u24_3 (.cons u24_4 .nil))) := rfl
section
variable {L : FD} {k : Nat} {ns : List Int} {v0 v1 v2 v3 v4 v5 v6 v7 v8 v9 v10 v11 v12 v13 v14 : Option D} {X X' : SS} {S : Store} {n p m : Nat} {y : SD} {told : D}
/-! _law_is_as -/
theorem ne_pureS {d : D} {S : Store} (h : d.pure = true) (hd : d.depth ≤ 60) : cmpD .ne d d S = .ok (.bl false) S := ne_self h hd
theorem deeds_dep {xs : List DT} : (D.tup (xs.map DT.d)).depth ≤ 3 := by
  have := depth_map (l := xs) (f := DT.d) (m := 2) fun x _ => by
    cases x with
    | ask h p s o l => cases o <;> simp [DT.d, orgD, D.depth, D.depthAll]
    | pass z => simp [DT.d, D.depth, D.depthAll]
    | take n ho =>
      have := n.dep
      simp [DT.d, D.depth, D.depthAll, this]
  rw [D.depth]
  omega
theorem nt_dep {r : RT} {xs : List DT} : (ntD r xs).depth ≤ 2 := dep_nts
theorem c_isas (h0 : S[n]? = some (sidO X)) (h1 : S[p]? = some (.lst (X.row.map DT.d))) (h2 : S[m]? = some (.lst (X.und.map DT.d))) (hC : Cl S) (oa : X.a.Ok) (ob : X.b.Ok) (hl : X.row.length < 400) (hx : ∀ z ∈ X.row, z.Ok) :
    callF (run (PG L) (k + 10)) 66 [.loc n, X.a.d, X.b.d, .loc p, .loc m] S = .ok (.bl true) S := by
  have c1 := c_lrunL (L := L) (k := k + 1) (r := X.a) (xs := X.row) oa (by omega) hx h1 hC
  have c2 := c_lrunL (L := L) (k := k + 1) (r := X.b) (xs := X.row) ob (by omega) hx h1 hC
  have d1 := c_sdeeds (L := L) (k := k + 8) h0
  have d2 := c_ssteps (L := L) (k := k + 8) h0
  have d3 := c_snotes (L := L) (k := k + 1) h0 hC hl hx
  have d4 := c_unlike (L := L) (k := k) h0 hC hl hx
  have fA := told_flat X.row (J0 X.a) 0 (J0_inv X.a) hx
  have fB := told_flat X.row (J0 X.b) 0 (J0_inv X.b) hx
  have lA := told_len X.row (J0 X.a)
  have lB := told_len X.row (J0 X.b)
  generalize hA : toldF (J0 X.a) X.row = A at *
  generalize hB : toldF (J0 X.b) X.row = B at *
  have eA : lrD X.a X.row = .tup [.tup A, ntD X.a X.row] := by unfold lrD; rw [hA]
  have eB : lrD X.b X.row = .tup [.tup B, ntD X.b X.row] := by unfold lrD; rw [hB]
  rw [eA] at c1
  rw [eB] at c2
  have np : ∀ r, (ntD r X.row).pure = true := fun r => notes_pure
  have nd : ∀ r, (ntD r X.row).depth ≤ 2 := fun r => nt_dep
  have y1 : ex (run (PG L) (k + 9)) q66_1 [some (.loc n), some X.a.d, some X.b.d, some (.loc p), some (.loc m), none, none, none] S = .nx [some (.loc n), some X.a.d, some X.b.d, some (.loc p), some (.loc m), some (.tup [.tup A, ntD X.a X.row]), some (.tup [.tup B, ntD X.b X.row]), none] S := by
    simp [q66_1, c1, c2, setAll]
  have tp : tupleD (.loc p) S = .ok (.tup (X.row.map DT.d)) S := by simp [tupleD, listOf, h1]
  have i1 : ∀ (x y : D) S, idxD (.tup [x, y]) (.int 1) S = .ok y S := fun _ _ _ => rfl
  have i0 : ∀ (x y : D) S, idxD (.tup [x, y]) (.int 0) S = .ok x S := fun _ _ _ => rfl
  have q1 := ne_pureS (S := S) (deeds_pure (xs := X.row)) (by have := deeds_dep (xs := X.row); omega)
  have q2 := ne_pureS (d := .tup [.int X.row.length, .int X.und.length]) (S := S) rfl (by simp [D.depth, D.depthAll])
  have q3 := ne_pureS (d := .tup [ntD X.a X.row, ntD X.b X.row]) (S := S) (by simp [D.pure, D.pureAll, np]) (by
    have h1 := nd X.a
    have h2 := nd X.b
    simp [D.depth, D.depthAll]
    omega)
  have lp : biD .len [.loc p] S = .ok (.int X.row.length) S := by simp [h1]
  have lm : biD .len [.loc m] S = .ok (.int X.und.length) S := by simp [h2]
  have tq : biD .tuple [.loc p] S = .ok (.tup (X.row.map DT.d)) S := by simp [h1]
  generalize hna : ntD X.a X.row = na at *
  generalize hnb : ntD X.b X.row = nb at *
  have y2 : ex (run (PG L) (k + 9)) q66_2 [some (.loc n), some X.a.d, some X.b.d, some (.loc p), some (.loc m), some (.tup [.tup A, na]), some (.tup [.tup B, nb]), none] S = .nx [some (.loc n), some X.a.d, some X.b.d, some (.loc p), some (.loc m), some (.tup [.tup A, na]), some (.tup [.tup B, nb]), none] S := by
    have m01 := fun o => mc_S (F := run (PG L) (k + 9)) (cs := [0, 1]) (j := 5) (o := o) h0 rfl
    simp [q66_2, mc_S h0, m01, mid, d1, h1, h2, q1, d2, q2, d3, q3, i1]
  have e3 : ev (run (PG L) (k + 9)) (Ex.comp ce__law_is_as_1 (Tg.one 7) (It.range1 (Ex.bi Bi.len (Exs.cons (Ex.var 3) Exs.nil))) (Ex.cmp Cop.ne (Ex.idx (Ex.idx (Ex.var 5) (Ex.dat (D.int 0))) (Ex.var 7)) (Ex.idx (Ex.idx (Ex.var 6) (Ex.dat (D.int 0))) (Ex.var 7)))) [some (.loc n), some X.a.d, some X.b.d, some (.loc p), some (.loc m), some (.tup [.tup A, na]), some (.tup [.tup B, nb]), none] S = .ok (.loc S.length) (S ++ [.lst (othD A B)]) := by
    refine comp_map (S := S) (l := List.range A.length) (f := fun (j : Nat) => D.int j) (g := fun j => if neqJ A B j = true then some (D.int (j : Nat)) else none) ?_ (fun j hj => ?_) (filt_map _) othD_pure (by have := othD_len (A := A) (B := B); omega)
    · have e : ev (run (PG L) (k + 9)) (Ex.bi Bi.len (Exs.cons (Ex.var 3) Exs.nil)) [some (.loc n), some X.a.d, some X.b.d, some (.loc p), some (.loc m), some (.tup [.tup A, na]), some (.tup [.tup B, nb]), none] S = .ok (.int (A.length : Int)) S := by
        simp [h1, lA]
      rw [evIt_r1, e, ok_bind]
      exact range1_ok (by omega)
    · have hj' := List.mem_range.mp hj
      have q := ev_neq (S := S) fA fB hj' (by omega)
      cases e : neqJ A B j <;> rw [e] at q <;> simp [compTurn, ce__law_is_as_1, i0, q, D.pure]
  have hn : n < S.length := (List.getElem?_eq_some_iff.mp h0).1
  have q4 : ∀ S, cmpD .eq (.tup (othD A B)) (.tup (othD A B)) S = .ok (.bl true) S := fun S => eq_self (by rw [D.pure]; exact othD_pure) (by
    have := depth_map (l := (List.range A.length).filter (neqJ A B)) (f := fun (j : Nat) => D.int j) (m := 0) fun _ _ => by simp [D.depth]
    unfold othD
    rw [D.depth]
    omega)
  have imp : D.pureAll [.loc n, X.a.d, X.b.d, .loc p, .loc m] = false := by simp [D.pureAll, D.pure]
  refine callF_gc (S1 := S) (T := [.lst (othD A B)]) imp ?_ rfl hC rfl
  rw [run_fd (fd := fd__law_is_as) rfl rfl]
  show endD (exs (run (PG L) (k + 9)) sm__law_is_as [some (.loc n), some X.a.d, some X.b.d, some (.loc p), some (.loc m), none, none, none] S) = _
  rw [q66_eq, exs_cons y1, exs_cons y2]
  simp [q66_3, mc_S h0, mid, d4, e3, q4]
/-! made -/
theorem setF_end1 {S T : Store} {f : Nat} {d : D} {fs : List (Nat × D)} (hl : fs.length < 900) (hf : f < 8) : setFD [1] f (.loc S.length) d (S ++ .ins 1 fs :: T) = .ok .non (S ++ .ins 1 (putFd f d fs) :: T) := by
  unfold setFD
  simp only
  rw [List.getElem?_append_right (Nat.le_refl _), Nat.sub_self, List.getElem?_cons_zero]
  simp only
  rw [if_pos (by simp [hl, hf]), set_end]
theorem c_makeS {a b : RT} : makeF (run (PG L) (k + 1)) 1 [a.d, b.d] S = .ok (.loc S.length) (S ++ [sidO ⟨a, b, [], []⟩]) := by
  unfold makeF
  have e : run (PG L) (k + 1) (mid 1 0) [.loc S.length, a.d, b.d] (S ++ [.ins 1 []]) = .ok .non (S ++ [sidO ⟨a, b, [], []⟩]) := by
    rw [show mid 1 0 = 550 from rfl, run_fd (fd := fd_Sides___init__) rfl rfl]
    have s0 := setF_end1 (S := S) (T := []) (f := 5) (d := .tup [a.d, b.d]) (fs := []) (by simp) (by simp)
    have s1 := setF_end1 (S := S) (T := []) (f := 6) (d := .tup []) (fs := [(5, .tup [a.d, b.d])]) (by simp) (by simp)
    have s2 := setF_end1 (S := S) (T := []) (f := 7) (d := .tup []) (fs := [(5, .tup [a.d, b.d]), (6, .tup [])]) (by simp) (by simp)
    have p0 : putFd 5 (.tup [a.d, b.d]) [] = [(5, .tup [a.d, b.d])] := rfl
    have p1 : putFd 6 (.tup []) [(5, .tup [a.d, b.d])] = [(5, .tup [a.d, b.d]), (6, .tup [])] := rfl
    rw [p0] at s0
    rw [p1] at s1
    simp [fd_Sides___init__, sm_Sides___init__, s0, s1, s2]
    rfl
  rw [e]
/-! one turn -/
structure SInv (X : SS) (b : Nat) : Prop where
  row : X.row.length ≤ b
  und : X.und.length ≤ b
  okr : ∀ z ∈ X.row, z.Ok
  oku : ∀ z ∈ X.und, z.Ok
structure StS (S : Store) (X : SS) (m : Nat) : Prop where
  s0 : S[0]? = some (sidO X)
  s1 : S[1]? = some (.lst (X.row.map DT.d))
  sm : S[m]? = some (.lst (X.und.map DT.d))
  m0 : m ≠ 0
  m1 : m ≠ 1
  cl : Cl S
theorem popS {i : Nat} {xs : List D} {d : D} (h : S[i]? = some (.lst (xs ++ [d]))) : methD .pop (.loc i) [] S = .ok d (S.set i (.lst xs)) := by
  simp only [methD, zero, popD]
  rw [h]
  simp
theorem appS {i : Nat} {xs : List D} {d : D} (h : S[i]? = some (.lst xs)) (hd : d.pure = true) (hl : xs.length < 1000) : methD .append (.loc i) [d] S = .ok .non (S.set i (.lst (xs ++ [d]))) := by
  have hz : xs.length < lineN := by unfold lineN; omega
  simp only [methD, one, appendD]
  rw [h]
  simp only
  rw [if_pos (by simp [hd, hz])]
theorem tyS {i : Nat} {xs : List D} (h : S[i]? = some (.lst xs)) : tyOk .append S (.loc i) = true := by simp [tyOk, listOf, h]
theorem tyP {i : Nat} {xs : List D} (h : S[i]? = some (.lst xs)) : tyOk .pop S (.loc i) = true := by simp [tyOk, listOf, h]
theorem lt_of {i : Nat} {o : MO} (h : S[i]? = some o) : i < S.length := (List.getElem?_eq_some_iff.mp h).1
theorem lst_closed {xs : List D} (n : Nat) : (MO.lst xs).closed n = true := rfl
/-- behind a deed: the store, the lists -/
theorem q3_ok {b : Nat} (hs : StS S X m) (hi : SInv X b) (hb : b < 300) (oa : X.a.Ok) (ob : X.b.Ok) (hy : y.Ok) (st : StepS X y X' told) (hx' : ∀ z ∈ X'.row, z.Ok) :
    ∃ S2 m' w13 w14, StS S2 X' m' ∧ ex (run (PG L) (k + 12)) q24_3 [v0, v1, v2, v3, v4, some X.a.d, some X.b.d, some (.loc 0), some (.loc 1), some (.loc m), some y.d, v11, some .non, v13, v14] (S.set 0 (sidO X')) =
      .nx [v0, v1, v2, v3, v4, some X.a.d, some X.b.d, some (.loc 0), some (.loc 1), some (.loc m'), some y.d, v11, some told, w13, w14] S2 := by
  have l0 := lt_of hs.s0
  have l1 := lt_of hs.s1
  have lm := lt_of hs.sm
  have hr := hi.row
  have hu := hi.und
  have g0 : (S.set 0 (sidO X'))[0]? = some (sidO X') := List.getElem?_set_self l0
  have g1 : (S.set 0 (sidO X'))[1]? = some (.lst (X.row.map DT.d)) := by rw [List.getElem?_set_ne (by omega)]; exact hs.s1
  have gm : (S.set 0 (sidO X'))[m]? = some (.lst (X.und.map DT.d)) := by rw [List.getElem?_set_ne (Ne.symm hs.m0)]; exact hs.sm
  have cl : Cl (S.set 0 (sidO X')) := hs.cl.set fun n => sid_closed _ n
  generalize hS1 : S.set 0 (sidO X') = S1 at *
  have nl : newL [] S1 = .ok (.loc S1.length) (S1 ++ [.lst []]) := by simp [newL, D.pureAll, szOk]
  have gd : ∀ d : D, d.pure = true → gc S1.length d (S1 ++ [.lst []]) = .ok d S1 := fun d hd => gc_drop (cl _) (low_pure _ _ hd)
  have i0b : ∀ S, idxD SD.back.d (.int 0) S = .ok (.str [98, 97, 99, 107]) S := fun S => rfl
  have i0f : ∀ S, idxD SD.forth.d (.int 0) S = .ok (.str [102, 111, 114, 116, 104]) S := fun S => rfl
  have inb : ∀ S, cmpD .isin (.str [98, 97, 99, 107]) (.tup [.str [98, 97, 99, 107], .str [102, 111, 114, 116, 104]]) S = .ok (.bl true) S := fun S => rfl
  have inf : ∀ S, cmpD .isin (.str [102, 111, 114, 116, 104]) (.tup [.str [98, 97, 99, 107], .str [102, 111, 114, 116, 104]]) S = .ok (.bl true) S := fun S => rfl
  have eqL : ∀ (i : Nat) (xs : List DT), S1[i]? = some (.lst (xs.map DT.d)) → cmpD .eq (.loc i) (.loc S1.length) (S1 ++ [.lst []]) = .ok (.bl xs.isEmpty) (S1 ++ [.lst []]) ∧ cmpD .ne (.loc i) (.loc S1.length) (S1 ++ [.lst []]) = .ok (.bl (!xs.isEmpty)) (S1 ++ [.lst []]) := fun i xs h => by
    have d1 : der (S1 ++ [.lst []]) (.loc i) = some (.lit (xs.map DT.d)) := by
      simp only [der]
      rw [List.getElem?_append_left (lt_of h), h]
    have d2 : der (S1 ++ [.lst []]) (.loc S1.length) = some (.lit []) := by simp [der]
    have ee : eqD (.lit (xs.map DT.d)) (.lit []) = xs.isEmpty := by
      rw [eqD]
      cases xs <;> simp [eqDs]
    rw [eq_of d1 d2 (by simp [D.depth, D.depthAll]), ne_of d1 d2 (by simp [D.depth, D.depthAll]), ee]
    exact ⟨rfl, rfl⟩
  cases st with
  | back0 e =>
    obtain ⟨e1, e2⟩ := eqL 1 X.row g1
    rw [e] at e1 e2
    simp only [List.isEmpty_nil, Bool.not_true] at e1 e2
    refine ⟨S1, m, some (.loc 1), some (.loc m), ⟨g0, g1, gm, hs.m0, hs.m1, cl⟩, ?_⟩
    have gn := gd noD rfl
    have g2 := gd .non rfl
    unfold noD at gn ⊢
    generalize SD.back.d = xd at *
    simp [q24_3, i0b, inb, setAll, nl, e1, e2, gn, g2]
  | @back1 xs x e =>
    obtain ⟨e1, e2⟩ := eqL 1 X.row g1
    rw [e] at e1 e2
    have em : (xs ++ [x]).isEmpty = false := by simp
    rw [em] at e1 e2
    simp only [Bool.not_false] at e2
    rw [e, List.map_append] at g1
    have po := popS (S := S1) (xs := xs.map DT.d) (d := x.d) g1
    have gm2 : (S1.set 1 (.lst (xs.map DT.d)))[m]? = some (.lst (X.und.map DT.d)) := by rw [List.getElem?_set_ne (Ne.symm hs.m1)]; exact gm
    have ap := appS (d := x.d) gm2 x.pure (by simp; omega)
    have em2 : X.und.map DT.d ++ [x.d] = (X.und ++ [x]).map DT.d := by simp
    rw [em2] at ap
    have ty := tyS gm
    have tp := tyP g1
    have g2 := gd .non rfl
    have gl : (((S1.set 1 (.lst (xs.map DT.d))).set m (.lst ((X.und ++ [x]).map DT.d))) : Store).length = S1.length := by simp
    refine ⟨(S1.set 1 (.lst (xs.map DT.d))).set m (.lst ((X.und ++ [x]).map DT.d)), m, some (.loc 1), some (.loc m), ⟨?_, ?_, ?_, hs.m0, hs.m1, (cl.set fun n => rfl).set fun n => rfl⟩, ?_⟩
    · rw [List.getElem?_set_ne hs.m0, List.getElem?_set_ne (by omega)]; exact g0
    · rw [List.getElem?_set_ne hs.m1, List.getElem?_set_self (by rw [← hS1]; simpa using l1)]
    · rw [List.getElem?_set_self (by rw [← hS1]; simpa using lm)]
    · generalize SD.back.d = xd at *
      generalize (X.und ++ [x]).map DT.d = uu at *
      generalize xs.map DT.d = xx at *
      simp [q24_3, i0b, inb, setAll, nl, e1, e2, g2, ty, tp, po, ap, gc_len gl]
  | forth0 e =>
    obtain ⟨e1, e2⟩ := eqL m X.und gm
    rw [e] at e1 e2
    simp only [List.isEmpty_nil, Bool.not_true] at e1 e2
    refine ⟨S1, m, some (.loc m), some (.loc 1), ⟨g0, g1, gm, hs.m0, hs.m1, cl⟩, ?_⟩
    have gn := gd noD rfl
    have g2 := gd .non rfl
    unfold noD at gn ⊢
    generalize SD.forth.d = xd at *
    simp [q24_3, i0f, inf, setAll, nl, e1, e2, gn, g2]
  | @forth1 xs x e =>
    obtain ⟨e1, e2⟩ := eqL m X.und gm
    rw [e] at e1 e2
    have em : (xs ++ [x]).isEmpty = false := by simp
    rw [em] at e1 e2
    simp only [Bool.not_false] at e2
    rw [e, List.map_append] at gm
    have po := popS (S := S1) (xs := xs.map DT.d) (d := x.d) gm
    have g12 : (S1.set m (.lst (xs.map DT.d)))[1]? = some (.lst (X.row.map DT.d)) := by rw [List.getElem?_set_ne hs.m1]; exact g1
    have ap := appS (d := x.d) g12 x.pure (by simp; omega)
    have em2 : X.row.map DT.d ++ [x.d] = (X.row ++ [x]).map DT.d := by simp
    rw [em2] at ap
    have ty := tyS g1
    have tp := tyP gm
    have g2 := gd .non rfl
    have gl : (((S1.set m (.lst (xs.map DT.d))).set 1 (.lst ((X.row ++ [x]).map DT.d))) : Store).length = S1.length := by simp
    refine ⟨(S1.set m (.lst (xs.map DT.d))).set 1 (.lst ((X.row ++ [x]).map DT.d)), m, some (.loc m), some (.loc 1), ⟨?_, ?_, ?_, hs.m0, hs.m1, (cl.set fun n => rfl).set fun n => rfl⟩, ?_⟩
    · rw [List.getElem?_set_ne (by omega), List.getElem?_set_ne hs.m0]; exact g0
    · rw [List.getElem?_set_self (by rw [← hS1]; simpa using l1)]
    · rw [List.getElem?_set_ne (Ne.symm hs.m1), List.getElem?_set_self (by rw [← hS1]; simpa using lm)]
    · generalize SD.forth.d = xd at *
      generalize (X.row ++ [x]).map DT.d = uu at *
      generalize xs.map DT.d = xx at *
      simp [q24_3, i0f, inf, setAll, nl, e1, e2, g2, ty, tp, po, ap, gc_len gl]
  | @deed x =>
    have ap := appS (d := x.d) g1 x.pure (by simp; omega)
    have em2 : X.row.map DT.d ++ [x.d] = (X.row ++ [x]).map DT.d := by simp
    rw [em2] at ap
    have ty := tyS g1
    have cl2 : Cl (S1.set 1 (.lst ((X.row ++ [x]).map DT.d))) := cl.set fun n => rfl
    have l1' : 1 < S1.length := by rw [← hS1]; simpa using l1
    have gl : (S1.set 1 (.lst ((X.row ++ [x]).map DT.d))).length = S1.length := by simp
    have h2 : (S1.set 1 (.lst ((X.row ++ [x]).map DT.d)))[1]? = some (.lst ((X.row ++ [x]).map DT.d)) := List.getElem?_set_self l1'
    have h20 : (S1.set 1 (.lst ((X.row ++ [x]).map DT.d)))[0]? = some (sidO ⟨X.a, X.b, X.row ++ [x], []⟩) := by rw [List.getElem?_set_ne (by omega)]; exact g0
    generalize hS2 : S1.set 1 (.lst ((X.row ++ [x]).map DT.d)) = S2 at *
    have nl2 : newL [] S2 = .ok (.loc S2.length) (S2 ++ [.lst []]) := by simp [newL, D.pureAll, szOk]
    have cl3 : Cl (S2 ++ [.lst []]) := cl2.append Cl.lst
    have h3 : (S2 ++ [MO.lst []])[1]? = some (.lst ((X.row ++ [x]).map DT.d)) := by rw [List.getElem?_append_left (by omega)]; exact h2
    have c1 := c_lrunL (L := L) (k := k + 4) (r := X.a) (xs := X.row ++ [x]) oa (by simp; omega) hx' h3 cl3
    have c2 := c_lrunL (L := L) (k := k + 4) (r := X.b) (xs := X.row ++ [x]) ob (by simp; omega) hx' h3 cl3
    have ne : ∀ r, toldF (J0 r) (X.row ++ [x]) ≠ [] := fun r z => by
      have := told_len (X.row ++ [x]) (J0 r)
      rw [z] at this
      simp at this
    have il := fun r S => idx_last (S := S) (ne r)
    have j0 : ∀ r S, idxD (lrD r (X.row ++ [x])) (.int 0) S = .ok (.tup (toldF (J0 r) (X.row ++ [x]))) S := fun r S => rfl
    have ws : ∃ w, (w = [97, 115, 107] ∨ w = [112, 97, 115, 115, 95, 111, 110] ∨ w = [116, 97, 107, 101]) ∧ ∀ S, idxD x.d (.int 0) S = .ok (.str w) S := by
      cases x with
      | ask h p s o l => exact ⟨_, .inl rfl, fun S => rfl⟩
      | pass z => exact ⟨_, .inr (.inl rfl), fun S => rfl⟩
      | take n ho => exact ⟨_, .inr (.inr rfl), fun S => rfl⟩
    obtain ⟨w, hw, iw⟩ := ws
    have inw : ∀ S, cmpD .isin (.str w) (.tup [.str [98, 97, 99, 107], .str [102, 111, 114, 116, 104]]) S = .ok (.bl false) S := fun S => by
      rcases hw with rfl | rfl | rfl <;> rfl
    refine ⟨S2 ++ [.lst []], S2.length, v13, v14, ⟨?_, h3, ?_, by omega, by omega, cl3⟩, ?_⟩
    · rw [List.getElem?_append_left (by omega)]; exact h20
    · simp
    · have ed : (SD.deed x).d = x.d := rfl
      rw [ed]
      have sd : saidS ⟨X.a, X.b, X.row ++ [x], []⟩ = .tup [lastD (toldF (J0 X.a) (X.row ++ [x])), lastD (toldF (J0 X.b) (X.row ++ [x]))] := rfl
      rw [sd]
      have j0a := j0 X.a
      have j0b := j0 X.b
      have ila := il X.a
      have ilb := il X.b
      have gl' : gc S1.length .non S2 = .ok .non S2 := gc_len gl
      clear j0 il
      generalize hxd : x.d = xd at *
      generalize lrD X.a (X.row ++ [x]) = ra at *
      generalize lrD X.b (X.row ++ [x]) = rb at *
      generalize toldF (J0 X.a) (X.row ++ [x]) = ta at *
      generalize toldF (J0 X.b) (X.row ++ [x]) = tb at *
      simp [q24_3, iw, inw, ty, ap, gl', nl2, c1, j0a, ila, c2, j0b, ilb, setAll]
theorem step_exS {b : Nat} (hi : SInv X b) (hy : y.Ok) : ∃ X' told, StepS X y X' told ∧ SInv X' (b + 1) ∧ X'.a = X.a ∧ X'.b = X.b ∧ told.pure = true ∧ told.depth ≤ 60 := by
  have hr := hi.row
  have hu := hi.und
  cases y with
  | back =>
    by_cases e : X.row = []
    · exact ⟨X, _, .back0 e, ⟨by omega, by omega, hi.okr, hi.oku⟩, rfl, rfl, rfl, by simp [noD, D.depth]⟩
    · obtain ⟨xs, x, e⟩ : ∃ xs x, X.row = xs ++ [x] := ⟨X.row.dropLast, X.row.getLast e, (List.dropLast_concat_getLast e).symm⟩
      have ok := hi.okr
      rw [e] at hr ok
      simp at hr
      refine ⟨_, _, .back1 e, ⟨by simp; omega, by simp; omega, fun z hz => ok z (by simp [show z ∈ xs from hz]), fun z hz => ?_⟩, rfl, rfl, rfl, by simp [D.depth]⟩
      rcases List.mem_append.mp hz with hz | hz
      · exact hi.oku z hz
      · exact ok z (by simp [List.mem_singleton.mp hz])
  | forth =>
    by_cases e : X.und = []
    · exact ⟨X, _, .forth0 e, ⟨by omega, by omega, hi.okr, hi.oku⟩, rfl, rfl, rfl, by simp [noD, D.depth]⟩
    · obtain ⟨xs, x, e⟩ : ∃ xs x, X.und = xs ++ [x] := ⟨X.und.dropLast, X.und.getLast e, (List.dropLast_concat_getLast e).symm⟩
      have ok := hi.oku
      rw [e] at hu ok
      simp at hu
      refine ⟨_, _, .forth1 e, ⟨by simp; omega, by simp; omega, fun z hz => ?_, fun z hz => ok z (by simp [show z ∈ xs from hz])⟩, rfl, rfl, rfl, by simp [D.depth]⟩
      rcases List.mem_append.mp hz with hz | hz
      · exact hi.okr z hz
      · exact ok z (by simp [List.mem_singleton.mp hz])
  | deed x =>
    have ok : ∀ z ∈ X.row ++ [x], z.Ok := fun z hz => by
      rcases List.mem_append.mp hz with hz | hz
      · exact hi.okr z hz
      · rw [List.mem_singleton.mp hz]; exact hy
    have fl := fun r => last_flat (told_flat (X.row ++ [x]) (J0 r) 0 (J0_inv r) ok)
    refine ⟨_, _, .deed, ⟨by simp; omega, by simp, ok, fun z hz => (nomatch hz)⟩, rfl, rfl, ?_, ?_⟩
    · simp [saidS, D.pure, D.pureAll, (fl _).1]
    · have h1 := (fl X.a).2.1
      have h2 := (fl X.b).2.1
      simp only [saidS, D.depth, D.depthAll]
      omega
theorem q1_ok {i j : Nat} {ts : List NT} (hts : ∀ n ∈ ts, n.Ok) (hl : ts.length ≤ 100) : ∃ y : SD, y.Ok ∧ ex (run (PG L) (k + 12)) q24_1 [some (.lit (ns.map .int)), some (.int i), v2, some (.int j), some (.tup (ts.map NT.d)), v5, v6, v7, v8, v9, v10, v11, v12, v13, v14] S = .nx [some (.lit (ns.map .int)), some (.int i), v2, some (.int j), some (.tup (ts.map NT.d)), v5, v6, v7, v8, v9, some y.d, v11, v12, v13, v14] S := by
  have cc := fun S => c_cell (L := L) (k := k + 11) (ns := ns) (j := (j : Int) % 9) (S := S) (Int.emod_nonneg _ (by omega))
  obtain ⟨y, hy, g⟩ := r_sidedeed (L := L) (k := k + 7) (c := cellF ns ((j : Int) % 9) + 47 * (j : Int) + i) hts hl
  have c1 := fun S => callF_ok (S := S) (by simp [D.pureAll, D.pure]) g y.pure
  have m47 : ∀ S, binD .mul (.int 47) (.int (j : Int)) S = .ok (.int (47 * (j : Int))) S := fun S => by
    show (if (sm64 47 || sm64 j) = true then Out.ok (D.int (47 * (j : Int))) S else Out.bad) = _
    rw [show sm64 47 = true by decide]
    rfl
  have m9 : ∀ S, binD .mod (.int (j : Int)) (.int 9) S = .ok (.int ((j : Int) % 9)) S := fun S => rfl
  refine ⟨y, hy, ?_⟩
  simp [q24_1, m9, cc, m47, c1]
theorem q2_ok {b : Nat} (hs : StS S X m) (hi : SInv X b) (hb : b < 300) (hy : y.Ok) (st : StepS X y X' told) : ex (run (PG L) (k + 12)) q24_2 [v0, v1, v2, v3, v4, v5, v6, some (.loc 0), v8, v9, some y.d, v11, v12, v13, v14] S = .nx [v0, v1, v2, v3, v4, v5, v6, some (.loc 0), v8, v9, some y.d, some told, some .non, v13, v14] (S.set 0 (sidO X')) := by
  have hr := hi.row
  have hu := hi.und
  have c1 := c_sided (L := L) (k := k + 2) hs.s0 hs.cl (by omega) (by omega) hi.okr hy st
  simp [q24_2, c1, setAll]
theorem q4_ok {b : Nat} (hs : StS S X m) (hi : SInv X b) (hb : b < 300) (oa : X.a.Ok) (ob : X.b.Ok) (hp : told.pure = true) (hd : told.depth ≤ 60) : ex (run (PG L) (k + 12)) q24_4 [v0, v1, v2, v3, v4, some X.a.d, some X.b.d, some (.loc 0), some (.loc 1), some (.loc m), v10, some told, some told, v13, v14] S = .nx [v0, v1, v2, v3, v4, some X.a.d, some X.b.d, some (.loc 0), some (.loc 1), some (.loc m), v10, some told, some told, v13, v14] S := by
  have hr := hi.row
  have c1 := c_isas (L := L) (k := k + 2) hs.s0 hs.s1 hs.sm hs.cl oa ob (by omega) hi.okr
  have q := fun S => ne_self (d := told) (S := S) hp hd
  simp [q24_4, q, c1]
def I2 (ns : List Int) (i : Nat) (ts : List NT) (r r' : RT) (j : Nat) (ρ : Env) (S : Store) : Prop := ∃ X m v2 v3 v10 v11 v12 v13 v14, X.a = r ∧ X.b = r' ∧ SInv X j ∧ StS S X m ∧ ρ = [some (.lit (ns.map .int)), some (.int i), v2, v3, some (.tup (ts.map NT.d)), some r.d, some r'.d, some (.loc 0), some (.loc 1), some (.loc m), v10, v11, v12, v13, v14]
theorem k24_in {i t j : Nat} {ts : List NT} {r r' : RT} {ρ : Env} (hts : ∀ n ∈ ts, n.Ok) (hl : ts.length ≤ 100) (or : r.Ok) (or' : r'.Ok) (hj : j < 20) (h : I2 ns i ts r r' j ρ S) : ∃ ρ' S', loopTurn (run (PG L) (k + 12)) (.one 3) lb_law_1 false (.int t) ρ S = .nx ρ' S' ∧ I2 ns i ts r r' (j + 1) ρ' S' := by
  obtain ⟨X, m, v2, v3, v10, v11, v12, v13, v14, rfl, rfl, hi, hs, rfl⟩ := h
  rw [turn_one (by simp)]
  simp only [List.set_cons_succ, List.set_cons_zero]
  rw [q24_eq]
  obtain ⟨y, hy, e1⟩ := q1_ok (L := L) (k := k) (ns := ns) (S := S) (i := i) (j := t) (ts := ts) (v2 := v2) (v5 := some X.a.d) (v6 := some X.b.d) (v7 := some (.loc 0)) (v8 := some (.loc 1)) (v9 := some (.loc m)) (v10 := v10) (v11 := v11) (v12 := v12) (v13 := v13) (v14 := v14) hts hl
  obtain ⟨X', told, st, hi', ea, eb, hp, hd⟩ := step_exS hi hy
  have e2 := q2_ok (L := L) (k := k) (v0 := some (.lit (ns.map .int))) (v1 := some (.int i)) (v2 := v2) (v3 := some (.int t)) (v4 := some (.tup (ts.map NT.d))) (v5 := some X.a.d) (v6 := some X.b.d) (v8 := some (.loc 1)) (v9 := some (.loc m)) (v11 := v11) (v12 := v12) (v13 := v13) (v14 := v14) hs hi (by omega) hy st
  obtain ⟨S2, m', w13, w14, hs2, e3⟩ := q3_ok (L := L) (k := k) (v0 := some (.lit (ns.map .int))) (v1 := some (.int i)) (v2 := v2) (v3 := some (.int t)) (v4 := some (.tup (ts.map NT.d))) (v11 := some told) (v13 := v13) (v14 := v14) hs hi (by omega) or or' hy st hi'.okr
  have e4 := q4_ok (L := L) (k := k) (v0 := some (.lit (ns.map .int))) (v1 := some (.int i)) (v2 := v2) (v3 := some (.int t)) (v4 := some (.tup (ts.map NT.d))) (v10 := some y.d) (v13 := w13) (v14 := w14) hs2 hi' (by omega) (by rw [ea]; exact or) (by rw [eb]; exact or') hp hd
  rw [ea, eb] at e4
  rw [exs_cons e1, exs_cons e2, exs_cons e3, exs_cons e4]
  exact ⟨_, _, rfl, X', m', _, _, _, _, _, _, _, ea, eb, hi', hs2, rfl⟩
def I1 (ns : List Int) (ρ : Env) : Prop := ∃ v1 v2 v3 v4 v5 v6 v7 v8 v9 v10 v11 v12 v13 v14, ρ = [some (.lit (ns.map .int)), v1, v2, v3, v4, v5, v6, v7, v8, v9, v10, v11, v12, v13, v14]
theorem k24_turn {i : Nat} {ρ : Env} (h : I1 ns ρ) : ∃ ρ', loopTurn (run (PG L) (k + 12)) (.one 1) lb_law_2 true (.int i) ρ [] = .nx ρ' [] ∧ I1 ns ρ' := by
  obtain ⟨v1, v2, v3, v4, v5, v6, v7, v8, v9, v10, v11, v12, v13, v14, rfl⟩ := h
  have key : ∃ ρ2 T, exs (run (PG L) (k + 12)) lb_law_2 ([some (.lit (ns.map .int)), v1, v2, v3, v4, v5, v6, v7, v8, v9, v10, v11, v12, v13, v14].set 1 (some (.int i))) [] = .nx ρ2 ([] ++ T) ∧ ∃ w1 w2 w3 w4 w5 w6 w7 w8 w9 w10 w11 w12 w13 w14, ρ2 = [some (.lit (ns.map .int)), w1, w2, w3, w4, w5, w6, w7, w8, w9, w10, w11, w12, w13, w14] := by
    rw [u24_eq]
    simp only [List.set_cons_succ, List.set_cons_zero, List.nil_append]
    have cc := fun S => c_cell (L := L) (k := k + 11) (ns := ns) (j := (i : Int)) (S := S) (by omega)
    have m43 : ∀ S, binD .mul (.int 43) (.int i) S = .ok (.int (43 * (i : Int))) S := fun S => by
      show (if (sm64 43 || sm64 i) = true then Out.ok (D.int (43 * (i : Int))) S else Out.bad) = _
      rw [show sm64 43 = true by decide]
      rfl
    have y1 : ex (run (PG L) (k + 12)) u24_1 [some (.lit (ns.map .int)), some (.int i), v2, v3, v4, v5, v6, v7, v8, v9, v10, v11, v12, v13, v14] [] = .nx [some (.lit (ns.map .int)), some (.int i), some (.int (cellF ns i + 43 * (i : Int))), v3, v4, v5, v6, v7, v8, v9, v10, v11, v12, v13, v14] [] := by
      simp [u24_1, cc, m43]
    rw [exs_cons y1]
    generalize cellF ns i + 43 * (i : Int) = c
    obtain ⟨ts, cn, ok, hl⟩ := c_notes (L := L) (k := k + 8) (c := c) (m := 4) (S := []) (by omega) (by omega)
    have cr := fun c S => c_rules (L := L) (k := k + 10) (c := c) (S := S)
    have y2 : ex (run (PG L) (k + 12)) u24_2 [some (.lit (ns.map .int)), some (.int i), some (.int c), v3, v4, v5, v6, v7, v8, v9, v10, v11, v12, v13, v14] [] = .nx [some (.lit (ns.map .int)), some (.int i), some (.int c), v3, some (.tup (ts.map NT.d)), some (rulesF (c + 3)).d, some (rulesF (c + 7)).d, v7, v8, v9, v10, v11, v12, v13, v14] [] := by
      simp [u24_2, cn, cr, setAll]
    rw [exs_cons y2]
    have or := rules_ok (c + 3)
    have or' := rules_ok (c + 7)
    generalize rulesF (c + 3) = r at *
    generalize rulesF (c + 7) = r' at *
    have mk := c_makeS (L := L) (k := k + 11) (S := []) (a := r) (b := r')
    simp at mk
    have n1 : newL [] [sidO ⟨r, r', [], []⟩] = .ok (.loc 1) [sidO ⟨r, r', [], []⟩, .lst []] := rfl
    have n2 : newL [] [sidO ⟨r, r', [], []⟩, .lst []] = .ok (.loc 2) [sidO ⟨r, r', [], []⟩, .lst [], .lst []] := rfl
    have y3 : ex (run (PG L) (k + 12)) u24_3 [some (.lit (ns.map .int)), some (.int i), some (.int c), v3, some (.tup (ts.map NT.d)), some r.d, some r'.d, v7, v8, v9, v10, v11, v12, v13, v14] [] = .nx [some (.lit (ns.map .int)), some (.int i), some (.int c), v3, some (.tup (ts.map NT.d)), some r.d, some r'.d, some (.loc 0), some (.loc 1), some (.loc 2), v10, v11, v12, v13, v14] [sidO ⟨r, r', [], []⟩, .lst [], .lst []] := by
      simp [u24_3, mk, n1, n2, setAll]
    rw [exs_cons y3]
    have cl : Cl [sidO ⟨r, r', [], []⟩, .lst [], .lst []] := fun n => by
      have := sid_closed ⟨r, r', [], []⟩ n
      simp only [closedS, List.all_cons, List.all_nil, this]
      rfl
    obtain ⟨ρ3, S3, e3, h3⟩ := forLoop_inv (turn := loopTurn (run (PG L) (k + 12)) (.one 3) lb_law_1 false) (n := 20) (I2 ns i ts r r') (xs := upFrom 0 20) (i := 0) (ρ := [some (.lit (ns.map .int)), some (.int i), some (.int c), v3, some (.tup (ts.map NT.d)), some r.d, some r'.d, some (.loc 0), some (.loc 1), some (.loc 2), v10, v11, v12, v13, v14]) (S := [sidO ⟨r, r', [], []⟩, .lst [], .lst []])
      ⟨⟨r, r', [], []⟩, 2, _, _, _, _, _, _, _, rfl, rfl, ⟨by simp, by simp, fun _ h => (nomatch h), fun _ h => (nomatch h)⟩, ⟨rfl, rfl, rfl, by omega, by omega, cl⟩, rfl⟩ (by rw [upFrom_eq]; simp) (fun x hx j ρ S hj hI => by
      rw [upFrom_eq] at hx
      obtain ⟨t, _, rfl⟩ := List.mem_map.mp hx
      have := k24_in (L := L) (k := k) (t := t) ok.ok (by simp at hl; omega) or or' hj hI
      simpa using this)
    obtain ⟨X, m, w2, w3, w10, w11, w12, w13, w14, _, _, _, _, rfl⟩ := h3
    have y4 : ex (run (PG L) (k + 12)) u24_4 [some (.lit (ns.map .int)), some (.int i), some (.int c), v3, some (.tup (ts.map NT.d)), some r.d, some r'.d, some (.loc 0), some (.loc 1), some (.loc 2), v10, v11, v12, v13, v14] [sidO ⟨r, r', [], []⟩, .lst [], .lst []] = .nx [some (.lit (ns.map .int)), some (.int i), w2, w3, some (.tup (ts.map NT.d)), some r.d, some r'.d, some (.loc 0), some (.loc 1), some (.loc m), w10, w11, w12, w13, w14] S3 := by
      have hit : evIt (run (PG L) (k + 12)) (.range1 (.dat (.int 20))) [some (.lit (ns.map .int)), some (.int i), some (.int c), v3, some (.tup (ts.map NT.d)), some r.d, some r'.d, some (.loc 0), some (.loc 1), some (.loc 2), v10, v11, v12, v13, v14] [sidO ⟨r, r', [], []⟩, .lst [], .lst []] = .ok ⟨upFrom 0 20, none⟩ [sidO ⟨r, r', [], []⟩, .lst [], .lst []] := rfl
      rw [u24_4, ex_loop, hit]
      simp only [ok_thn]
      rw [e3]
      rfl
    rw [exs_cons y4]
    exact ⟨_, _, rfl, _, _, _, _, _, _, _, _, _, _, _, _, _, _, rfl⟩
  obtain ⟨ρ2, T, e, w1, w2, w3, w4, w5, w6, w7, w8, w9, w10, w11, w12, w13, w14, rfl⟩ := key
  refine ⟨_, turn_scoped (S := []) (T := T) (by simp) rfl e, ?_⟩
  have l1 : D.low 0 (.lit (ns.map .int)) = true := low_pure _ _ (by rw [D.pure]; exact pureAll_map fun _ _ => rfl)
  simp only [killE, List.map_cons, List.map_nil, List.length_nil, l1, if_true]
  exact ⟨_, _, _, _, _, _, _, _, _, _, _, _, _, _, rfl⟩
theorem k24_all (ns : List Int) : Is (endD (exs (run (PG L) (k + 12)) sm_law [some (.lit (ns.map .int)), none, none, none, none, none, none, none, none, none, none, none, none, none, none] [])) (.bl true) := by
  obtain ⟨ρ, e, w1, w2, w3, w4, w5, w6, w7, w8, w9, w10, w11, w12, w13, w14, rfl⟩ := for_loop (F := run (PG L) (k + 12)) (tg := .one 1) (body := lb_law_2) (sc := true) (S := []) (xs := upFrom 0 6) (ρ := [some (.lit (ns.map .int)), none, none, none, none, none, none, none, none, none, none, none, none, none, none]) (I1 ns) ⟨_, _, _, _, _, _, _, _, _, _, _, _, _, _, rfl⟩ (fun x hx ρ h => by
    rw [upFrom_eq] at hx
    obtain ⟨j, _, rfl⟩ := List.mem_map.mp hx
    have := k24_turn (L := L) (k := k) (i := j) h
    simpa using this)
  have hr : evIt (run (PG L) (k + 12)) (.range1 (.dat (.int 6))) [some (.lit (ns.map .int)), none, none, none, none, none, none, none, none, none, none, none, none, none, none] [] = .ok ⟨upFrom 0 6, none⟩ [] := rfl
  have x : ex (run (PG L) (k + 12)) (.loop (.one 1) (.range1 (.dat (.int 6))) lb_law_2 true) [some (.lit (ns.map .int)), none, none, none, none, none, none, none, none, none, none, none, none, none, none] [] = .nx [some (.lit (ns.map .int)), w1, w2, w3, w4, w5, w6, w7, w8, w9, w10, w11, w12, w13, w14] [] := by
    rw [ex_loop, hr]
    simp only [ok_thn]
    rw [e]
    rfl
  simp [sm_law, x]
theorem fact : ∀ ns : List Int, ns.length ≤ 63 → ∃ S', run (PG fd_law) 20 0 [.lit (ns.map .int)] [] = .ok (.bl true) S' := by
  intro ns _
  exact gives_of (k := 19) (fd := fd_law) rfl rfl (k24_all (k := 7) ns)
end
end Lw
set_option Elab.async false
set_option linter.all false
set_option maxRecDepth 100000
set_option maxHeartbeats 0
namespace Lw
open PySem PySem.Spec PyProof.Rows L2 Ev
abbrev Rr : PySem.W.OpenRow := PySem.W.OpenLaw.row PySem.Challenge.rw_noterules_k24_sides
abbrev hk : PySem.W.Hook := hookE 6 tab dats blts cls
def ob (s : PySem.W.SharedT) : AlE := obsEG 6 tab dats blts cls (HandSHeadRun.getT s)
theorem ob_eq (s : PySem.W.SharedT) : ob s = hk.obs s.abs := obsEG_eq (HandSHeadRun.getT_eq s)
theorem run_eq (w : World) : HandSHeadRun.RunEq Rr (PySem.W.view Rr.prog [62]) hk ob 20000 [("_wall" : PySem.Str), ("NoteError" : PySem.Str), ("Full" : PySem.Str), ("NotTheirs" : PySem.Str), ("NoDeed" : PySem.Str), ("LAST_TIME" : PySem.Str), ("MOST_NOTES" : PySem.Str), ("mark" : PySem.Str), ("is_below" : PySem.Str), ("site" : PySem.Str), ("steps" : PySem.Str), ("host_fits" : PySem.Str), ("path_fits" : PySem.Str), ("has_ended" : PySem.Str), ("safe_fits" : PySem.Str), ("side_fits" : PySem.Str), ("why_not" : PySem.Str), ("goes" : PySem.Str), ("put" : PySem.Str), ("without" : PySem.Str), ("fresh" : PySem.Str), ("may_put" : PySem.Str), ("place" : PySem.Str), ("sent" : PySem.Str), ("Jar" : PySem.Str), ("do" : PySem.Str), ("do_running" : PySem.Str), ("run" : PySem.Str), ("Sides" : PySem.Str), ("_law_cell" : PySem.Str), ("_law_mix" : PySem.Str), ("_law_host" : PySem.Str), ("_law_path" : PySem.Str), ("_law_note" : PySem.Str), ("_law_mark" : PySem.Str), ("_law_notes" : PySem.Str), ("_law_rules" : PySem.Str), ("_law_ask" : PySem.Str), ("_law_row_deed" : PySem.Str), ("_law_site" : PySem.Str), ("_law_steps" : PySem.Str), ("_law_host_fits" : PySem.Str), ("_law_path_fits" : PySem.Str), ("_law_ended" : PySem.Str), ("_law_safe_fits" : PySem.Str), ("_law_side_fits" : PySem.Str), ("_law_why" : PySem.Str), ("_law_sent" : PySem.Str), ("_law_take" : PySem.Str), ("_law_run" : PySem.Str), ("_law_sided" : PySem.Str), ("_law_side_deed" : PySem.Str), ("_law_is_as" : PySem.Str)] w := by
  intro os
  kernel_rfl
end Lw
open PySem PySem.W PySem.Calls PyProof.Rows
theorem PySem.Challenge.cw_noterules_k24_sides_holds : PySem.Challenge.rw_noterules_k24_sides.Holds := by
  w_on; o_law
  refine HandSHeadRun.head_any (r := OpenLaw.row PySem.Challenge.rw_noterules_k24_sides) (q := view (OpenLaw.row PySem.Challenge.rw_noterules_k24_sides).prog [62]) (H := Lw.hk) (ob := Lw.ob) (M := 20000) (loose := [("_wall" : PySem.Str), ("NoteError" : PySem.Str), ("Full" : PySem.Str), ("NotTheirs" : PySem.Str), ("NoDeed" : PySem.Str), ("LAST_TIME" : PySem.Str), ("MOST_NOTES" : PySem.Str), ("mark" : PySem.Str), ("is_below" : PySem.Str), ("site" : PySem.Str), ("steps" : PySem.Str), ("host_fits" : PySem.Str), ("path_fits" : PySem.Str), ("has_ended" : PySem.Str), ("safe_fits" : PySem.Str), ("side_fits" : PySem.Str), ("why_not" : PySem.Str), ("goes" : PySem.Str), ("put" : PySem.Str), ("without" : PySem.Str), ("fresh" : PySem.Str), ("may_put" : PySem.Str), ("place" : PySem.Str), ("sent" : PySem.Str), ("Jar" : PySem.Str), ("do" : PySem.Str), ("do_running" : PySem.Str), ("run" : PySem.Str), ("Sides" : PySem.Str), ("_law_cell" : PySem.Str), ("_law_mix" : PySem.Str), ("_law_host" : PySem.Str), ("_law_path" : PySem.Str), ("_law_note" : PySem.Str), ("_law_mark" : PySem.Str), ("_law_notes" : PySem.Str), ("_law_rules" : PySem.Str), ("_law_ask" : PySem.Str), ("_law_row_deed" : PySem.Str), ("_law_site" : PySem.Str), ("_law_steps" : PySem.Str), ("_law_host_fits" : PySem.Str), ("_law_path_fits" : PySem.Str), ("_law_ended" : PySem.Str), ("_law_safe_fits" : PySem.Str), ("_law_side_fits" : PySem.Str), ("_law_why" : PySem.Str), ("_law_sent" : PySem.Str), ("_law_take" : PySem.Str), ("_law_run" : PySem.Str), ("_law_sided" : PySem.Str), ("_law_side_deed" : PySem.Str), ("_law_is_as" : PySem.Str)]) (d := HandSHeadRun.topDef (OpenLaw.row PySem.Challenge.rw_noterules_k24_sides).prog 62) (kwd := []) Lw.ob_eq
    (by kernel_rfl) (fun s => by kernel_rfl) Lw.run_eq (by kernel_rfl) (by kernel_rfl) (by kernel_rfl) (by rfl) (by first | assumption | decide +kernel) (by decide +kernel) ⟨rfl, rfl, rfl, rfl, rfl, by decide +kernel⟩ ?hw ?hc
  case hw => w_witness2
  case hc =>
    refine LamX.walk_ofTsE (l := PySem.Challenge.rw_noterules_k24_sides) (n := 63) (k := 80) (x := "script") (CX := fun w => L2.CX (PySem.Challenge.rw_noterules_k24_sides : PySem.W.OpenLaw).prog w) rfl (by decide) (by kernel_rfl) ⟨rfl, by decide, by decide⟩ ?F (fun w H s e s' z => Ev.cx_no w H s e s' z)
    case F =>
      intro w mg fa h Y G hmg0
      obtain ⟨K, KX, c⟩ := Y
      have hmg : mg ("law" : PySem.Str) = some (.ref fa) := by
        have e : (HandSHeadRun.topDef (OpenLaw.row PySem.Challenge.rw_noterules_k24_sides).prog 62).name = ("law" : PySem.Str) := by kernel_rfl
        rw [← e]
        exact hmg0
      exact ⟨K, KX, Ev.law_of (k := 20) (d := Lw.de43) KX G hmg c Lw.tab_ok (by simp [Lw.tab]) ⟨rfl, rfl⟩ rfl rfl Lw.fact⟩
