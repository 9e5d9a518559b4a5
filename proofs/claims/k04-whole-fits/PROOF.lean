import PyProof.Rows.All
import HandS.ForMost
import HandS.ForExc
import HandS.TupAny
import HandS.TupLe
import HandS.IsInst
import HandS.Flow
import HandS.Deep
import HandS.Conv
import HandS.Zip
import HandS.Style
import HandS.TryMany
import HandS.CallSlots
import KE.DataEq
import KE.SortData
import KE.SortLaws
import HandS.More
import KE.GoesEnum
import HandS.Defaults
import HandS.HeadHook1
import HandS.HeadHook2
import HandS.HeadHook4
import HandS.HeadEnd
import HandS.Head0
import HandS.Head1
import HandS.Head2
import PySem.Challenge.RW_noterules_k04_whole_fits
import PyProof.Rows.All
set_option Elab.async false
set_option linter.all false
set_option maxRecDepth 100000
/-! Eng0: a small language, its values and stores, its evaluator. Plain Lean, no program in sight. -/
namespace Ev

/-- data: loc n is the n-th object of the store; lit: a list that nobody changes -/
inductive D where
  | non | bl (b : Bool) | int (i : Int) | str (s : List Nat) | tup (xs : List D) | lit (xs : List D) | loc (n : Nat)
deriving Inhabited

/-- objects: a list (its items hold no object), a list while it is walked, a dict, an instance -/
inductive MO where
  | lst (xs : List D) | frz (xs : List D) | dic (kvs : List (D × D)) | fdic (kvs : List (D × D)) | ins (c : Nat) (fs : List (Nat × D))
deriving Inhabited

abbrev Store := List MO
abbrev Env := List (Option D)

mutual
def D.pure : D → Bool
  | .non => true | .bl _ => true | .int _ => true | .str _ => true
  | .tup xs => D.pureAll xs
  | .lit xs => D.pureAll xs
  | .loc _ => false
def D.pureAll : List D → Bool
  | [] => true
  | x :: xs => x.pure && D.pureAll xs
end
mutual
def D.low (n : Nat) : D → Bool
  | .non => true | .bl _ => true | .int _ => true | .str _ => true
  | .tup xs => D.lowAll n xs
  | .lit xs => D.lowAll n xs
  | .loc m => decide (m < n)
def D.lowAll (n : Nat) : List D → Bool
  | [] => true
  | x :: xs => x.low n && D.lowAll n xs
end
mutual
/-- == -/
def eqD : D → D → Bool
  | .non, .non => true
  | .bl a, .bl b => a == b
  | .bl a, .int j => (if a then 1 else 0) == j
  | .int i, .bl b => i == (if b then 1 else 0)
  | .int i, .int j => i == j
  | .str x, .str y => x == y
  | .tup xs, .tup ys => eqDs xs ys
  | .lit xs, .lit ys => eqDs xs ys
  | _, _ => false
def eqDs : List D → List D → Bool
  | [], [] => true
  | x :: xs, y :: ys => eqD x y && eqDs xs ys
  | _, _ => false
end
mutual
def D.depth : D → Nat
  | .non => 0 | .bl _ => 0 | .int _ => 0 | .str _ => 0 | .loc _ => 0
  | .tup xs => D.depthAll xs + 1
  | .lit xs => D.depthAll xs + 1
def D.depthAll : List D → Nat
  | [] => 0
  | x :: xs => max x.depth (D.depthAll xs)
end

/-- sizes -/
def lineN : Nat := 16777216
def szOk (n : Nat) : Bool := decide (n ≤ lineN)

inductive Out (α : Type) where
  | ok (a : α) (S : Store) | exc (c : Nat) (S : Store) | bad
def Out.bind {α β : Type} : Out α → (α → Store → Out β) → Out β
  | .ok a S, f => f a S
  | .exc c S, _ => .exc c S
  | .bad, _ => .bad

inductive SOut where
  | nx (ρ : Env) (S : Store) | rt (d : D) (S : Store) | exc (c : Nat) (ρ : Env) (S : Store) | bad
/-- an expression ahead of a statement's rest; ρ: the slots where it raises -/
def Out.thn {α : Type} (ρ : Env) : Out α → (α → Store → SOut) → SOut
  | .ok a S, f => f a S
  | .exc c S, _ => .exc c ρ S
  | .bad, _ => .bad

def MO.closed (n : Nat) : MO → Bool
  | .lst _ => true | .frz _ => true
  | .dic kvs => kvs.all fun kv => kv.2.low n
  | .fdic kvs => kvs.all fun kv => kv.2.low n
  | .ins _ fs => fs.all fun kv => kv.2.low n
def closedS (n : Nat) (S : Store) : Bool := S.all (MO.closed n)

/-- forget the objects that came behind the n-th: d does not speak of them, or is a new list -/
def gc (n : Nat) (d : D) (S : Store) : Out D :=
  if S.length == n then .ok d S
  else if closedS n (S.take n) then
    (if d.low n then .ok d (S.take n)
     else match d with
      | .loc m => (match S[m]? with
        | some (.lst xs) => .ok (.loc n) (S.take n ++ [MO.lst xs])
        | _ => .ok d S)
      | _ => .ok d S)
  else .ok d S

/-- a thing to be read: a list of the store as it stands -/
def der (S : Store) : D → Option D
  | .loc n => match S[n]? with
    | some (.lst xs) => some (.lit xs)
    | some (.frz xs) => some (.lit xs)
    | _ => none
  | d => if d.pure then some d else none

/-! ### operations -/
inductive Bop where | add | sub | mul | mod | fdiv
inductive Cop where | eq | ne | lt | le | gt | ge | isin | notin | is | isnot
inductive Ty where | tTuple | tStr | tInt | tBool | tList
inductive Bi where | len | tuple | list | sorted | all | min2 | max2 | str | int | sum | max1 | lenset | sortedset | max1d (d : Int)
inductive Me where | split | join | endswith | startswith | count | upper | partition | append | extend | index | pop | remove | get | lcount

def ret (d : D) (S : Store) : Out D := .ok d S
/-- a new list -/
def newL (xs : List D) (S : Store) : Out D := if D.pureAll xs && szOk xs.length then .ok (.loc S.length) (S ++ [.lst xs]) else .bad
def strD (s : List Nat) (S : Store) : Out D := .ok (.str s) S

def sm64 (i : Int) : Bool := decide (-(2 ^ 64) < i) && decide (i < 2 ^ 64)

/-- items of a list (of the store, or one that nobody changes) -/
def listOf (S : Store) : D → Option (List D)
  | .loc n => match S[n]? with
    | some (.lst xs) => some xs
    | some (.frz xs) => some xs
    | _ => none
  | .lit xs => some xs
  | _ => none

def addD (a b : D) (S : Store) : Out D :=
  match a, b with
  | .int i, .int j => .ok (.int (i + j)) S
  | .str x, .str y => if szOk (x.length + y.length) then .ok (.str (x ++ y)) S else .bad
  | .tup xs, .tup ys => if szOk (xs.length + ys.length) then .ok (.tup (xs ++ ys)) S else .bad
  | .loc m, .loc n => (match S[m]?, S[n]? with
    | some (.lst xs), some (.lst ys) => newL (xs ++ ys) S
    | _, _ => .bad)
  | _, _ => .bad
def subD (a b : D) (S : Store) : Out D :=
  match a, b with
  | .int i, .int j => .ok (.int (i - j)) S
  | _, _ => .bad
def mulD (a b : D) (S : Store) : Out D :=
  match a, b with
  | .int i, .int j => if sm64 i || sm64 j then .ok (.int (i * j)) S else .bad
  | .loc m, .int k => (match S[m]? with
    | some (.lst xs) => if decide (0 ≤ k) && decide (k ≤ 100) then newL (List.replicate k.toNat xs).flatten S else .bad
    | _ => .bad)
  | _, _ => .bad
def modD (a b : D) (S : Store) : Out D :=
  match a, b with
  | .int i, .int j => if decide (0 < j) then .ok (.int (i % j)) S else .bad
  | _, _ => .bad
def fdivD (a b : D) (S : Store) : Out D :=
  match a, b with
  | .int i, .int j => if decide (0 < j) && decide (j < 1073741824) then .ok (.int (i / j)) S else .bad
  | _, _ => .bad
def binD : Bop → D → D → Store → Out D
  | .add => addD | .sub => subD | .mul => mulD | .mod => modD | .fdiv => fdivD

/-- the order of signs' lists -/
def ltN : List Nat → List Nat → Bool
  | [], [] => false
  | [], _ :: _ => true
  | _ :: _, [] => false
  | x :: xs, y :: ys => if x < y then true else if x = y then ltN xs ys else false

/-- s stands within l -/
def subIn (s : List Nat) : List Nat → Bool
  | [] => s.isEmpty
  | c :: r => (s.isPrefixOf (c :: r)) || subIn s r

def eqS (S : Store) (a b : D) : Option Bool :=
  match der S a, der S b with
  | some x, some y => if decide (min x.depth y.depth ≤ 60) then some (eqD x y) else none
  | _, _ => none
def blO : Option Bool → Store → Out D
  | some b, S => .ok (.bl b) S
  | none, _ => .bad
def inS (S : Store) (a b : D) : Option Bool :=
  match a, b with
  | .str s, .str l => if s.length == 1 then some (l.contains (s.headD 0)) else none
  | _, _ => match der S a, der S b with
    | some x, some (.lit ys) => if decide (x.depth ≤ 60) then some (ys.any fun y => eqD y x) else none
    | some x, some (.tup ys) => if decide (x.depth ≤ 60) then some (ys.any fun y => eqD y x) else none
    | _, _ => none
def isS (a b : D) : Option Bool :=
  match b with
  | .non => some (match a with | .non => true | _ => false)
  | .bl y => match a with
    | .bl x => some (x == y)
    | _ => none
  | _ => none
def ltO (a b : D) : Option Bool :=
  match a, b with
  | .int i, .int j => some (decide (i < j))
  | .str x, .str y => some (ltN x y)
  | _, _ => none
def leO (a b : D) : Option Bool :=
  match a, b with
  | .int i, .int j => some (decide (i ≤ j))
  | .str x, .str y => some (!ltN y x)
  | _, _ => none
def cmpO (S : Store) : Cop → D → D → Option Bool
  | .eq, a, b => eqS S a b
  | .ne, a, b => (eqS S a b).map (!·)
  | .lt, a, b => ltO a b
  | .le, a, b => leO a b
  | .gt, a, b => ltO b a
  | .ge, a, b => leO b a
  | .isin, a, b => inS S a b
  | .notin, a, b => (inS S a b).map (!·)
  | .is, a, b => isS a b
  | .isnot, a, b => (isS a b).map (!·)
def cmpD (op : Cop) (a b : D) (S : Store) : Out D := blO (cmpO S op a b) S

def truth (S : Store) : D → Option Bool
  | .non => some false
  | .bl b => some b
  | .int i => some (i != 0)
  | .str s => if szOk s.length then some (!s.isEmpty) else none
  | .tup xs => some (!xs.isEmpty)
  | .lit xs => some (!xs.isEmpty)
  | .loc n => match S[n]? with
    | some (.lst xs) => some (!xs.isEmpty)
    | some (.frz xs) => some (!xs.isEmpty)
    | _ => none
def blB : Option Bool → Store → Out Bool
  | some b, S => .ok b S
  | none, _ => .bad

/-- an item by an index of any sign -/
def atZ {α : Type} (xs : List α) (i : Int) : Option α :=
  if 0 ≤ i then (if i < xs.length then xs[i.toNat]? else none) else if -(xs.length : Int) ≤ i then xs[(i + xs.length).toNat]? else none
def retO : Option D → Store → Out D
  | some d, S => .ok d S
  | none, _ => .bad
def idxD (a i : D) (S : Store) : Out D :=
  match i with
  | .int k => (match a with
    | .tup xs => retO (atZ xs k) S
    | .str s => if szOk s.length then retO ((atZ s k).map fun c => .str [c]) S else .bad
    | .lit xs => retO (atZ xs k) S
    | .loc n => (match S[n]? with
      | some (.lst xs) => retO (atZ xs k) S
      | some (.frz xs) => retO (atZ xs k) S
      | _ => .bad)
    | _ => .bad)
  | .str k => (match a with
    | .loc n => (match S[n]? with
      | some (.dic kvs) => retO ((kvs.find? fun kv => eqD kv.1 (.str k)).map (·.2)) S
      | some (.fdic kvs) => retO ((kvs.find? fun kv => eqD kv.1 (.str k)).map (·.2)) S
      | _ => .bad)
    | _ => .bad)
  | _ => .bad

def cutIx (n d : Nat) : Option Int → Nat
  | none => d
  | some v => if v < 0 then (v + (n : Int)).toNat else min v.toNat n
def cutL {α : Type} (xs : List α) (lo hi : Option Int) : List α :=
  (xs.drop (cutIx xs.length 0 lo)).take (cutIx xs.length xs.length hi - cutIx xs.length 0 lo)
def partO : D → Option (Option Int)
  | .non => some none
  | .int i => some (some i)
  | _ => none
def slcD (a : D) (l h : Option Int) (S : Store) : Out D := match a with
  | .tup xs => .ok (.tup (cutL xs l h)) S
  | .str s => if szOk s.length then .ok (.str (cutL s l h)) S else .bad
  | d => match listOf S d with
    | some xs => newL (cutL xs l h) S
    | none => .bad

/-- xs[::-1] -/
def revD (d : D) (S : Store) : Out D := match listOf S d with
  | some xs => newL xs.reverse S
  | none => .bad

def isTy (S : Store) : D → Ty → Option Bool
  | .non, _ => some false
  | .bl _, .tBool => some true
  | .bl _, .tInt => some true
  | .bl _, _ => some false
  | .int _, .tInt => some true
  | .int _, _ => some false
  | .str _, .tStr => some true
  | .str _, _ => some false
  | .tup _, .tTuple => some true
  | .tup _, _ => some false
  | .lit _, .tList => some true
  | .lit _, _ => some false
  | .loc n, t => match S[n]? with
    | some (.lst _) => some (match t with | .tList => true | _ => false)
    | some (.frz _) => some (match t with | .tList => true | _ => false)
    | _ => none
def isTys (S : Store) (d : D) : List Ty → Option Bool
  | [] => some false
  | t :: ts => match isTy S d t with
    | some true => some true
    | some false => isTys S d ts
    | none => none

/-! order of data, a stable sort -/
mutual
def ltD : D → D → Bool
  | .bl a, .bl b => !a && b
  | .int i, .int j => decide (i < j)
  | .str x, .str y => ltN x y
  | .tup xs, .tup ys => ltDs xs ys
  | .lit xs, .lit ys => ltDs xs ys
  | _, _ => false
def ltDs : List D → List D → Bool
  | [], [] => false
  | [], _ :: _ => true
  | _ :: _, [] => false
  | x :: xs, y :: ys => if eqD x y then ltDs xs ys else ltD x y
end
def insD (le : D → D → Bool) (x : D) : List D → List D
  | [] => [x]
  | y :: ys => if le x y then x :: y :: ys else y :: insD le x ys
def isort (le : D → D → Bool) : List D → List D
  | [] => []
  | x :: xs => insD le x (isort le xs)
def leD (a b : D) : Bool := !ltD b a
mutual
/-- data whose places are of one kind -/
def alikeD : D → D → Bool
  | .non, .non => true
  | .bl _, .bl _ => true
  | .int _, .int _ => true
  | .str _, .str _ => true
  | .tup xs, .tup ys => alikeDs xs ys
  | _, _ => false
def alikeDs : List D → List D → Bool
  | [], [] => true
  | [], _ :: _ => true
  | _ :: _, [] => true
  | x :: xs, y :: ys => alikeD x y && alikeDs xs ys
end
def nonempT : D → Bool
  | .tup [] => false
  | .non => false
  | _ => true
def sortO (xs : List D) : Option (List D) :=
  if (xs.all fun x => xs.all fun y => alikeD x y) && xs.all nonempT && (xs.all fun x => decide (x.depth ≤ 60)) then some (isort leD xs) else none

def isStr : D → Bool
  | .str _ => true
  | _ => false
def blsOf : List D → Option (List Bool)
  | [] => some []
  | .bl b :: r => (blsOf r).map (b :: ·)
  | _ :: _ => none
def intsOf : List D → Option (List Int)
  | [] => some []
  | .int b :: r => (intsOf r).map (b :: ·)
  | _ :: _ => none
def strsOf : List D → Option (List (List Nat))
  | [] => some []
  | .str b :: r => (strsOf r).map (b :: ·)
  | _ :: _ => none
def seqOf (S : Store) : D → Option (List D)
  | .tup xs => some xs
  | d => listOf S d
def numT (n : Nat) : List Nat := (Nat.toDigits 10 n).map Char.toNat
def dedup : List D → List D
  | [] => []
  | x :: xs => x :: (dedup xs).filter fun y => !eqD x y

def one (f : D → Store → Out D) (ds : List D) (S : Store) : Out D := match ds with
  | [d] => f d S
  | _ => .bad
def two (f : D → D → Store → Out D) (ds : List D) (S : Store) : Out D := match ds with
  | [d, e] => f d e S
  | _ => .bad
def lenD (d : D) (S : Store) : Out D := match d with
  | .str s => if szOk s.length then .ok (.int s.length) S else .bad
  | d => match seqOf S d with
    | some xs => .ok (.int xs.length) S
    | none => .bad
def tupleD (d : D) (S : Store) : Out D := match d with
  | .tup xs => .ok (.tup xs) S
  | d => match listOf S d with
    | some xs => .ok (.tup xs) S
    | none => .bad
def listD (d : D) (S : Store) : Out D := match seqOf S d with
  | some xs => newL xs S
  | none => .bad
def sortedL (xs : List D) (S : Store) : Out D := match sortO xs with
  | some ys => newL ys S
  | none => .bad
def sortedD (d : D) (S : Store) : Out D := match d with
  | .loc n => (match S[n]? with
    | some (.lst xs) => sortedL xs S
    | some (.frz xs) => sortedL xs S
    | some (.dic kvs) => (if kvs.all (fun kv => isStr kv.1) && decide (kvs.length < 64) then newL (isort leD (kvs.map (·.1))) S else .bad)
    | _ => .bad)
  | _ => .bad
def allD (d : D) (S : Store) : Out D := match listOf S d with
  | some xs => (match blsOf xs with | some bs => .ok (.bl (bs.all id)) S | none => .bad)
  | none => .bad
def min2D (a b : D) (S : Store) : Out D := match a, b with
  | .int i, .int j => .ok (.int (if j < i then j else i)) S
  | _, _ => .bad
def max2D (a b : D) (S : Store) : Out D := match a, b with
  | .int i, .int j => .ok (.int (if j > i then j else i)) S
  | _, _ => .bad
def biD : Bi → List D → Store → Out D
  | .len => one lenD
  | .tuple => one tupleD
  | .list => one listD
  | .sorted => one sortedD
  | .all => one allD
  | .min2 => two min2D
  | .max2 => two max2D
  | _ => fun _ _ => .bad

/-! texts -/
/-- l cut at each sign c -/
def splitC (c : Nat) : List Nat → List (List Nat)
  | [] => [[]]
  | x :: r => if x = c then [] :: splitC c r else match splitC c r with
    | [] => [[x]]
    | p :: ps => (x :: p) :: ps
def joinN (sep : List Nat) : List (List Nat) → List Nat
  | [] => []
  | [p] => p
  | p :: q :: r => p ++ (sep ++ joinN sep (q :: r))
def sufN (s l : List Nat) : Bool := s.isSuffixOf l

def setM (S : Store) (n : Nat) (o : MO) : Store := S.set n o
def putK (k v : D) (kvs : List (D × D)) : List (D × D) :=
  if (kvs.any fun kv => eqD kv.1 k) = true then kvs.map (fun kv => if eqD kv.1 k then (kv.1, v) else kv) else kvs ++ [(k, v)]
def splitD (a b : D) (S : Store) : Out D := match a, b with
  | .str s, .str [c] => if szOk (s.length + 2) && decide (c < 256) then newL ((splitC c s).map .str) S else .bad
  | _, _ => .bad
def joinD (a d : D) (S : Store) : Out D := match a with
  | .str sep => (match seqOf S d with
    | some xs => (match strsOf xs with
      | some ss => if decide ((ss.map List.length).sum + ss.length * sep.length ≤ lineN) then .ok (.str (joinN sep ss)) S else .bad
      | none => .bad)
    | none => .bad)
  | _ => .bad
def endsD (a b : D) (S : Store) : Out D := match a, b with
  | .str s, .str t => .ok (.bl (t.isSuffixOf s)) S
  | _, _ => .bad
def startsD (a b : D) (S : Store) : Out D := match a, b with
  | .str s, .str t => .ok (.bl (t.isPrefixOf s)) S
  | _, _ => .bad
def appendD (a d : D) (S : Store) : Out D := match a with
  | .loc n => (match S[n]? with
    | some (.lst xs) => if d.pure && decide (xs.length < lineN) then .ok .non (S.set n (.lst (xs ++ [d]))) else .bad
    | _ => .bad)
  | _ => .bad
def extendD (a b : D) (S : Store) : Out D := match a, b with
  | .loc n, .loc k => (match S[n]?, S[k]? with
    | some (.lst xs), some (.lst ys) => if szOk (xs.length + ys.length) then .ok .non (S.set n (.lst (xs ++ ys))) else .bad
    | _, _ => .bad)
  | _, _ => .bad
def getD3 (a k d : D) (S : Store) : Out D := match a, k with
  | .loc n, .str t => (match S[n]? with
    | some (.dic kvs) => .ok (((kvs.find? fun kv => eqD kv.1 (.str t)).map (·.2)).getD d) S
    | _ => .bad)
  | _, _ => .bad
def isDic (S : Store) : D → Bool
  | .loc n => match S[n]? with
    | some (.dic _) => true
    | _ => false
  | _ => false
/-- the receiver is of the method's type -/
def tyOk (m : Me) (S : Store) (a : D) : Bool := match m with
  | .split => isStr a | .join => isStr a | .endswith => isStr a | .startswith => isStr a | .count => isStr a | .upper => isStr a | .partition => isStr a
  | .append => (listOf S a).isSome | .extend => (listOf S a).isSome | .index => (listOf S a).isSome | .pop => (listOf S a).isSome | .remove => (listOf S a).isSome | .lcount => (listOf S a).isSome
  | .get => isDic S a
def methD : Me → D → List D → Store → Out D
  | .split, a => one (splitD a)
  | .join, a => one (joinD a)
  | .endswith, a => one (endsD a)
  | .startswith, a => one (startsD a)
  | .append, a => one (appendD a)
  | .extend, a => one (extendD a)
  | .get, a => two (getD3 a)
  | _, _ => fun _ _ => .bad

/-- o[i] = v -/
def setIxD (a i v : D) (S : Store) : Out D :=
  match a with
  | .loc n => (match S[n]?, i with
    | some (.dic kvs), .str k => if v.pure && decide (kvs.length < lineN) then .ok .non (S.set n (.dic (putK (.str k) v kvs))) else .bad
    | _, _ => .bad)
  | _ => .bad

/-! ### the language -/
inductive Tg where | one (i : Nat) | many (is : List Nat)
mutual
inductive Ex where
  | var (i : Nat)
  | dat (d : D)
  | tup (es : Exs) | lst (es : Exs)
  | dnew
  | bin (op : Bop) (a b : Ex)
  | cmp (op : Cop) (a b : Ex)
  | chain (o1 o2 : Cop) (a b c : Ex)
  | and (a b : Ex) | or (a b : Ex) | not (a : Ex)
  | ife (t a b : Ex)
  | idx (a i : Ex)
  | slc (a lo hi : Ex)
  | call (f : Nat) (es : Exs)
  | bi (b : Bi) (es : Exs)
  | isi (a : Ex) (ts : List Ty)
  | meth (m : Me) (a : Ex) (es : Exs)
  | comp (elt : Ex) (tg : Tg) (it : It) (test : Ex)
  | rev (a : Ex)
inductive Exs where
  | nil | cons (e : Ex) (es : Exs)
inductive It where
  | of (a : Ex) | range1 (a : Ex) | range2 (a b : Ex) | enum (a : Ex) | zip (a b : Ex) | range3 (a b c : Ex)
end
mutual
inductive Sm where
  | asg (i : Nat) (e : Ex)
  | asgT (is : List Nat) (e : Ex)
  | par (is : List Nat) (es : Exs)
  | setIx (a i v : Ex)
  | expr (e : Ex)
  | ret (e : Ex)
  | ife (t : Ex) (a b : Sms)
  | loop (tg : Tg) (it : It) (body : Sms) (sc : Bool)
  | pass
inductive Sms where
  | nil | cons (s : Sm) (r : Sms)
end

def Exs.len : Exs → Nat
  | .nil => 0
  | .cons _ es => es.len + 1
/-- targets -/
def setAll (ρ : Env) : List Nat → List D → Option Env
  | [], [] => some ρ
  | i :: is, d :: ds => if i < ρ.length then setAll (ρ.set i (some d)) is ds else none
  | _, _ => none
def putTg (ρ : Env) : Tg → D → Option Env
  | .one i, d => if i < ρ.length then some (ρ.set i (some d)) else none
  | .many is, .tup ds => setAll ρ is ds
  | .many _, _ => none

/-- what is walked: the items, the object that is locked meanwhile -/
structure Items where
  xs : List D
  lock : Option Nat
def unlockO : MO → MO
  | .frz xs => .lst xs
  | .fdic kvs => .dic kvs
  | o => o
def unlock : Option Nat → Store → Store
  | none, S => S
  | some m, S => match S[m]? with
    | some o => S.set m (unlockO o)
    | none => S
/-- n: as many objects stood ahead -/
def walkOf (n : Nat) (d : D) (S : Store) : Out Items :=
  match d with
  | .tup xs => .ok ⟨xs, none⟩ S
  | .lit xs => .ok ⟨xs, none⟩ S
  | .str s => .ok ⟨s.map fun c => .str [c], none⟩ S
  | .loc m => (match S[m]? with
    | some (.lst xs) => if decide (n ≤ m) && closedS n (S.take n) then .ok ⟨xs, none⟩ (S.take n) else .ok ⟨xs, some m⟩ (S.set m (.frz xs))
    | some (.frz xs) => .ok ⟨xs, none⟩ S
    | _ => .bad)
  | _ => .bad
def sm62 (i : Int) : Bool := decide (-(2 ^ 62) ≤ i) && decide (i < 2 ^ 62)
def upFrom (i : Int) : Nat → List D
  | 0 => []
  | n + 1 => .int i :: upFrom (i + 1) n
def range1D (d : D) (S : Store) : Out Items := match d with
  | .int j => if sm62 j then .ok ⟨upFrom 0 j.toNat, none⟩ S else .bad
  | _ => .bad
def range2D (d e : D) (S : Store) : Out Items := match d, e with
  | .int i, .int j => if sm62 i && sm62 j then .ok ⟨upFrom i (j - i).toNat, none⟩ S else .bad
  | _, _ => .bad
/-- range(a, b, c) -/
def rgN (a b c : Int) : Int := if c > 0 then (if a < b then (b - a - 1) / c + 1 else 0) else (if a > b then (a - b - 1) / (-c) + 1 else 0)
def stepFrom (i c : Int) : Nat → List D
  | 0 => []
  | n + 1 => .int i :: stepFrom (i + c) c n
def sm30 (i : Int) : Bool := decide (-1073741824 < i) && decide (i < 1073741824)
def range3D (d e f : D) (S : Store) : Out Items := match d, e, f with
  | .int i, .int j, .int c => if sm30 i && sm30 j && (sm30 c && decide (c ≠ 0)) then .ok ⟨stepFrom i c (rgN i j c).toNat, none⟩ S else .bad
  | _, _, _ => .bad
def numbered (i : Nat) : List D → List D
  | [] => []
  | x :: xs => .tup [.int i, x] :: numbered (i + 1) xs
/-- over a tuple -/
def enumOf (n : Nat) (d : D) (S : Store) : Out Items := match d with
  | .tup xs => .ok ⟨numbered 0 xs, none⟩ S
  | _ => .bad
def zipD : List D → List D → List D
  | x :: xs, y :: ys => .tup [x, y] :: zipD xs ys
  | _, _ => []
/-- two tuples, or two lists that stay -/
def zipOf (a b : D) (S : Store) : Out Items :=
  match a, b with
  | .tup xs, .tup ys => .ok ⟨zipD xs ys, none⟩ S
  | _, _ => .bad

def gcO (n : Nat) : Out D → Out D
  | .ok d S => gc n d S
  | o => o

/-- a comprehension's turns -/
def compLoop (turn : D → Store → Out (Option D)) : List D → Store → Out (List D)
  | [], S => .ok [] S
  | x :: xs, S => (turn x S).bind fun o S1 => (compLoop turn xs S1).bind fun ds S2 => .ok (match o with | some d => d :: ds | none => ds) S2
def forLoop (turn : D → Env → Store → SOut) : List D → Env → Store → SOut
  | [], ρ, S => .nx ρ S
  | x :: xs, ρ, S => match turn x ρ S with
    | .nx ρ1 S1 => forLoop turn xs ρ1 S1
    | o => o
/-- a new list out of a callee, or data: laid into the caller's store -/
def D.shift (n : Nat) : D → D
  | .loc m => .loc (n + m)
  | d => d
def impD (S : Store) (d : D) (S' : Store) : Out D :=
  if d.pure then .ok d S
  else match d with
    | .loc j => (match S'[j]? with
      | some (.lst xs) => .ok (.loc S.length) (S ++ [.lst xs])
      | _ => .bad)
    | _ => .bad
def callF (F : Nat → List D → Store → Out D) (f : Nat) (ds : List D) (S : Store) : Out D :=
  if D.pureAll ds then (match F f ds [] with
    | .ok d S' => impD S d S'
    | .exc c _ => .exc c S
    | .bad => .bad)
  else gcO S.length (F f ds S)

/-- nothing may be raised -/
def noexc {α : Type} : Out α → Out α
  | .exc _ _ => .bad
  | o => o
def lockEnd {α : Type} (l : Option Nat) : Out α → Out α
  | .ok a S => .ok a (unlock l S)
  | .exc c S => .exc c (unlock l S)
  | .bad => .bad
def lockEndS (l : Option Nat) : SOut → SOut
  | .nx ρ S => .nx ρ (unlock l S)
  | .rt d S => .rt d (unlock l S)
  | .exc c ρ S => .exc c ρ (unlock l S)
  | .bad => .bad

mutual
def ev (F : Nat → List D → Store → Out D) : Ex → Env → Store → Out D
  | .var i, ρ, S => match ρ[i]? with
    | some (some d) => .ok d S
    | _ => .bad
  | .dat d, _, S => .ok d S
  | .tup es, ρ, S => (evs F es ρ S).bind fun ds S => if szOk ds.length then .ok (.tup ds) S else .bad
  | .lst es, ρ, S => (evs F es ρ S).bind newL
  | .dnew, _, S => .ok (.loc S.length) (S ++ [.dic []])
  | .bin op a b, ρ, S => (ev F a ρ S).bind fun x S => (ev F b ρ S).bind fun y S => binD op x y S
  | .cmp op a b, ρ, S => (ev F a ρ S).bind fun x S => (ev F b ρ S).bind fun y S => cmpD op x y S
  | .chain o1 o2 a b c, ρ, S => (ev F a ρ S).bind fun x S => (ev F b ρ S).bind fun y S => match cmpO S o1 x y with
    | some true => (ev F c ρ S).bind fun z S => cmpD o2 y z S
    | some false => .ok (.bl false) S
    | none => .bad
  | .and a b, ρ, S => (ev F a ρ S).bind fun x S => match truth S x with
    | some true => ev F b ρ S
    | some false => .ok x S
    | none => .bad
  | .or a b, ρ, S => (ev F a ρ S).bind fun x S => match truth S x with
    | some true => .ok x S
    | some false => ev F b ρ S
    | none => .bad
  | .not a, ρ, S => (ev F a ρ S).bind fun x S => match truth S x with
    | some t => .ok (.bl (!t)) S
    | none => .bad
  | .ife t a b, ρ, S => (ev F t ρ S).bind fun x S => match truth S x with
    | some true => ev F a ρ S
    | some false => ev F b ρ S
    | none => .bad
  | .idx a i, ρ, S => (ev F a ρ S).bind fun x S => (ev F i ρ S).bind fun y S => idxD x y S
  | .slc a lo hi, ρ, S => (ev F a ρ S).bind fun x S => (ev F lo ρ S).bind fun l S => match partO l with
    | some l => (ev F hi ρ S).bind fun h S => (match partO h with
      | some h => slcD x l h S
      | none => .bad)
    | none => .bad
  | .call f es, ρ, S => (evs F es ρ S).bind fun ds S => callF F f ds S
  | .bi b es, ρ, S => (evs F es ρ S).bind fun ds S => biD b ds S
  | .isi a ts, ρ, S => (ev F a ρ S).bind fun x S => blO (isTys S x ts) S
  | .meth m a es, ρ, S => (ev F a ρ S).bind fun x S => if tyOk m S x then (evs F es ρ S).bind fun ds S => methD m x ds S else .bad
  | .comp elt tg it test, ρ, S => (evIt F it ρ S).bind fun w S => (lockEnd w.lock (noexc (compLoop (fun x S => match putTg ρ tg x with
      | some ρ' => (ev F test ρ' S).bind fun t S1 => (match truth S1 t with
        | some true => (gcO S.length (ev F elt ρ' S1)).bind fun d S2 => if d.pure then .ok (some d) S2 else .bad
        | some false => (gc S.length .non S1).bind fun _ S2 => .ok none S2
        | none => .bad)
      | none => .bad) w.xs S))).bind newL
  | .rev a, ρ, S => (ev F a ρ S).bind revD
def evs (F : Nat → List D → Store → Out D) : Exs → Env → Store → Out (List D)
  | .nil, _, S => .ok [] S
  | .cons e es, ρ, S => (ev F e ρ S).bind fun d S => (evs F es ρ S).bind fun ds S => .ok (d :: ds) S
def evIt (F : Nat → List D → Store → Out D) : It → Env → Store → Out Items
  | .of a, ρ, S => (ev F a ρ S).bind fun d S1 => walkOf S.length d S1
  | .range1 a, ρ, S => (ev F a ρ S).bind range1D
  | .range2 a b, ρ, S => (ev F a ρ S).bind fun x S => (ev F b ρ S).bind fun y S => range2D x y S
  | .enum a, ρ, S => (ev F a ρ S).bind fun d S1 => enumOf S.length d S1
  | .zip a b, ρ, S => (ev F a ρ S).bind fun x S => (ev F b ρ S).bind fun y S => zipOf x y S
  | .range3 a b c, ρ, S => (ev F a ρ S).bind fun x S => (ev F b ρ S).bind fun y S => (ev F c ρ S).bind fun z S => range3D x y z S
end

/-- slots that hold objects from the n-th on are forgotten -/
def killE (n : Nat) (ρ : Env) : Env := ρ.map fun o => match o with
  | some d => if d.low n then some d else none
  | none => none
def scopeEnd (n : Nat) : SOut → SOut
  | .nx ρ S => if closedS n (S.take n) then .nx (killE n ρ) (S.take n) else .nx ρ S
  | o => o

mutual
def ex (F : Nat → List D → Store → Out D) : Sm → Env → Store → SOut
  | .asg i e, ρ, S => (gcO S.length (ev F e ρ S)).thn ρ fun d S => if i < ρ.length then .nx (ρ.set i (some d)) S else .bad
  | .asgT is e, ρ, S => (gcO S.length (ev F e ρ S)).thn ρ fun d S => match d with
    | .tup ds => (match setAll ρ is ds with | some ρ' => .nx ρ' S | none => .bad)
    | _ => .bad
  | .par is es, ρ, S => (evs F es ρ S).thn ρ fun ds S => match setAll ρ is ds with | some ρ' => .nx ρ' S | none => .bad
  | .setIx a i v, ρ, S => (ev F v ρ S).thn ρ fun v S1 => (ev F a ρ S1).thn ρ fun a S2 => (ev F i ρ S2).thn ρ fun i S3 => (gcO S.length (setIxD a i v S3)).thn ρ fun _ S4 => .nx ρ S4
  | .expr e, ρ, S => (gcO S.length ((ev F e ρ S).bind fun _ S => .ok .non S)).thn ρ fun _ S => .nx ρ S
  | .ret e, ρ, S => (ev F e ρ S).thn ρ fun d S => .rt d S
  | .ife t a b, ρ, S => (ev F t ρ S).thn ρ fun x S1 => match truth S1 x with
    | some true => (gc S.length .non S1).thn ρ fun _ S2 => exs F a ρ S2
    | some false => (gc S.length .non S1).thn ρ fun _ S2 => exs F b ρ S2
    | none => .bad
  | .loop tg it body sc, ρ, S => (evIt F it ρ S).thn ρ fun w S => lockEndS w.lock (forLoop (fun x ρ S => match putTg ρ tg x with
      | some ρ' => if sc then scopeEnd S.length (exs F body ρ' S) else exs F body ρ' S
      | none => .bad) w.xs ρ S)
  | .pass, ρ, S => .nx ρ S
def exs (F : Nat → List D → Store → Out D) : Sms → Env → Store → SOut
  | .nil, ρ, S => .nx ρ S
  | .cons s r, ρ, S => match ex F s ρ S with
    | .nx ρ S => exs F r ρ S
    | o => o
end

structure FD where
  np : Nat
  ns : Nat
  body : Sms
def start0 (n : Nat) (ds : List D) : Env := ds.map some ++ List.replicate (n - ds.length) none
def endD : SOut → Out D
  | .nx _ S => .ok .non S
  | .rt d S => .ok d S
  | .exc c _ S => .exc c S
  | .bad => .bad
def run (P : Nat → Option FD) : Nat → Nat → List D → Store → Out D
  | 0, _, _, _ => .bad
  | k + 1, f, ds, S => match P f with
    | some fd => if ds.length = fd.np then endD (exs (run P k) fd.body (start0 fd.ns ds) S) else .bad
    | none => .bad
end Ev
set_option Elab.async false
set_option linter.all false
set_option maxRecDepth 100000
/-! Eng1: values and stores of the small language over HandS's heaps. -/
namespace Ev
open PySem L2

/-- a list that nobody changes: locked, or of the written part -/
def SqF (K : PySem.W.Frag) (H : Hp) (a : Addr) (xs : List V) : Prop :=
  (∃ o, H a = some (.frz o (.lst xs))) ∨
    ∃ (o : Obj) (its : Array Value) (n : Nat), K.lookup a = some o ∧ o.cls = .type "list" ∧ o.dict = none ∧ o.data = .seq its n ∧ its.size ≤ sizeLine ∧ Vals xs its.toList
theorem SqF.sq {K : PySem.W.Frag} {H : Hp} {a : Addr} {xs : List V} (h : SqF K H a xs) : SqL K H a xs := by
  rcases h with h | h
  · exact .inl (.inr h)
  · exact .inr h

mutual
def RV (K : PySem.W.Frag) (β : List Addr) (H : Hp) : D → V → Prop
  | .non, v => v = .non
  | .bl b, v => v = .bl b
  | .int i, v => v = .int i
  | .str s, v => v = .str ⟨s.toArray⟩
  | .tup ds, v => ∃ a vs, v = .ref a ∧ SqT K H a vs ∧ RVs K β H ds vs
  | .lit ds, v => ∃ a vs, v = .ref a ∧ SqF K H a vs ∧ RVs K β H ds vs
  | .loc n, v => ∃ a, v = .ref a ∧ β[n]? = some a
def RVs (K : PySem.W.Frag) (β : List Addr) (H : Hp) : List D → List V → Prop
  | [], vs => vs = []
  | d :: ds, vs => ∃ v r, vs = v :: r ∧ RV K β H d v ∧ RVs K β H ds r
end

section
variable {K : PySem.W.Frag} {β β' : List Addr} {H H' : Hp}
mutual
theorem RV.of_keep (ht : ∀ b xs, H b = some (.tup xs) → H' b = some (.tup xs)) (hf : ∀ b o u, H b = some (.frz o u) → H' b = some (.frz o u)) (hb : ∀ (n : Nat) a, β[n]? = some a → β'[n]? = some a) :
    ∀ (d : D) (v : V), RV K β H d v → RV K β' H' d v
  | .non, v, h => by rw [RV] at h ⊢; exact h
  | .bl b, v, h => by rw [RV] at h ⊢; exact h
  | .int i, v, h => by rw [RV] at h ⊢; exact h
  | .str s, v, h => by rw [RV] at h ⊢; exact h
  | .tup ds, v, h => by
    rw [RV] at h ⊢
    obtain ⟨a, vs, e, q, r⟩ := h
    refine ⟨a, vs, e, ?_, RVs.of_keep ht hf hb ds vs r⟩
    rcases q with (q | ⟨o, q⟩) | q
    · exact .inl (.inl (ht _ _ q))
    · exact .inl (.inr ⟨o, hf _ _ _ q⟩)
    · exact .inr q
  | .lit ds, v, h => by
    rw [RV] at h ⊢
    obtain ⟨a, vs, e, q, r⟩ := h
    refine ⟨a, vs, e, ?_, RVs.of_keep ht hf hb ds vs r⟩
    rcases q with ⟨o, q⟩ | q
    · exact .inl ⟨o, hf _ _ _ q⟩
    · exact .inr q
  | .loc n, v, h => by
    rw [RV] at h ⊢
    obtain ⟨a, e, q⟩ := h
    exact ⟨a, e, hb _ _ q⟩
theorem RVs.of_keep (ht : ∀ b xs, H b = some (.tup xs) → H' b = some (.tup xs)) (hf : ∀ b o u, H b = some (.frz o u) → H' b = some (.frz o u)) (hb : ∀ (n : Nat) a, β[n]? = some a → β'[n]? = some a) :
    ∀ (ds : List D) (vs : List V), RVs K β H ds vs → RVs K β' H' ds vs
  | [], vs, h => by rw [RVs] at h ⊢; exact h
  | d :: ds, vs, h => by
    rw [RVs] at h ⊢
    obtain ⟨v, r, e, h1, h2⟩ := h
    exact ⟨v, r, e, RV.of_keep ht hf hb d v h1, RVs.of_keep ht hf hb ds r h2⟩
end
mutual
theorem RV.pureB : ∀ (d : D) (v : V), d.pure = true → RV K β H d v → RV K β' H d v
  | .non, v, _, h => by rw [RV] at h ⊢; exact h
  | .bl b, v, _, h => by rw [RV] at h ⊢; exact h
  | .int i, v, _, h => by rw [RV] at h ⊢; exact h
  | .str s, v, _, h => by rw [RV] at h ⊢; exact h
  | .tup ds, v, p, h => by
    rw [RV] at h ⊢
    rw [D.pure] at p
    obtain ⟨a, vs, e, q, r⟩ := h
    exact ⟨a, vs, e, q, RVs.pureB ds vs p r⟩
  | .lit ds, v, p, h => by
    rw [RV] at h ⊢
    rw [D.pure] at p
    obtain ⟨a, vs, e, q, r⟩ := h
    exact ⟨a, vs, e, q, RVs.pureB ds vs p r⟩
  | .loc n, v, p, h => by rw [D.pure] at p; cases p
theorem RVs.pureB : ∀ (ds : List D) (vs : List V), D.pureAll ds = true → RVs K β H ds vs → RVs K β' H ds vs
  | [], vs, _, h => by rw [RVs] at h ⊢; exact h
  | d :: ds, vs, p, h => by
    rw [RVs] at h ⊢
    rw [D.pureAll, Bool.and_eq_true] at p
    obtain ⟨v, r, e, h1, h2⟩ := h
    exact ⟨v, r, e, RV.pureB d v p.1 h1, RVs.pureB ds r p.2 h2⟩
end
mutual
/-- only the objects below n are spoken of -/
theorem RV.lowB {n : Nat} (hb : ∀ m a, m < n → β[m]? = some a → β'[m]? = some a) : ∀ (d : D) (v : V), d.low n = true → RV K β H d v → RV K β' H d v
  | .non, v, _, h => by rw [RV] at h ⊢; exact h
  | .bl b, v, _, h => by rw [RV] at h ⊢; exact h
  | .int i, v, _, h => by rw [RV] at h ⊢; exact h
  | .str s, v, _, h => by rw [RV] at h ⊢; exact h
  | .tup ds, v, p, h => by
    rw [RV] at h ⊢
    rw [D.low] at p
    obtain ⟨a, vs, e, q, r⟩ := h
    exact ⟨a, vs, e, q, RVs.lowB hb ds vs p r⟩
  | .lit ds, v, p, h => by
    rw [RV] at h ⊢
    rw [D.low] at p
    obtain ⟨a, vs, e, q, r⟩ := h
    exact ⟨a, vs, e, q, RVs.lowB hb ds vs p r⟩
  | .loc m, v, p, h => by
    rw [RV] at h ⊢
    rw [D.low] at p
    obtain ⟨a, e, q⟩ := h
    exact ⟨a, e, hb m a (of_decide_eq_true p) q⟩
theorem RVs.lowB {n : Nat} (hb : ∀ m a, m < n → β[m]? = some a → β'[m]? = some a) : ∀ (ds : List D) (vs : List V), D.lowAll n ds = true → RVs K β H ds vs → RVs K β' H ds vs
  | [], vs, _, h => by rw [RVs] at h ⊢; exact h
  | d :: ds, vs, p, h => by
    rw [RVs] at h ⊢
    rw [D.lowAll, Bool.and_eq_true] at p
    obtain ⟨v, r, e, h1, h2⟩ := h
    exact ⟨v, r, e, RV.lowB hb d v p.1 h1, RVs.lowB hb ds r p.2 h2⟩
end
theorem RVs.length : ∀ {ds : List D} {vs : List V}, RVs K β H ds vs → vs.length = ds.length
  | [], vs, h => by rw [RVs] at h; subst h; rfl
  | d :: ds, vs, h => by
    rw [RVs] at h
    obtain ⟨v, r, rfl, _, h2⟩ := h
    simp [RVs.length h2]
theorem RVs.get : ∀ {ds : List D} {vs : List V}, RVs K β H ds vs → ∀ {i : Nat} {d : D}, ds[i]? = some d → ∃ v, vs[i]? = some v ∧ RV K β H d v
  | [], vs, h, i, d, e => by simp at e
  | x :: ds, vs, h, i, d, e => by
    rw [RVs] at h
    obtain ⟨v, r, rfl, h1, h2⟩ := h
    cases i with
    | zero => simp at e; subst e; exact ⟨v, rfl, h1⟩
    | succ i => simpa using RVs.get h2 (by simpa using e)
theorem RVs.append : ∀ {ds es : List D} {vs us : List V}, RVs K β H ds vs → RVs K β H es us → RVs K β H (ds ++ es) (vs ++ us)
  | [], es, vs, us, h, h' => by rw [RVs] at h; subst h; exact h'
  | d :: ds, es, vs, us, h, h' => by
    rw [RVs] at h
    obtain ⟨v, r, rfl, h1, h2⟩ := h
    rw [List.cons_append, List.cons_append, RVs]
    exact ⟨v, _, rfl, h1, RVs.append h2 h'⟩
theorem RVs.one {d : D} {v : V} (h : RV K β H d v) : RVs K β H [d] [v] := by
  rw [RVs]; exact ⟨v, [], rfl, h, by rw [RVs]⟩
theorem RVs.nil : RVs K β H [] [] := by rw [RVs]
theorem RVs.cons {d : D} {ds : List D} {v : V} {vs : List V} (h : RV K β H d v) (h2 : RVs K β H ds vs) : RVs K β H (d :: ds) (v :: vs) := by
  rw [RVs]; exact ⟨v, vs, rfl, h, h2⟩
theorem RVs.drop : ∀ (n : Nat) {ds : List D} {vs : List V}, RVs K β H ds vs → RVs K β H (ds.drop n) (vs.drop n)
  | 0, _, _, h => h
  | n + 1, [], vs, h => by rw [RVs] at h; subst h; exact RVs.nil
  | n + 1, d :: ds, vs, h => by
    rw [RVs] at h
    obtain ⟨v, r, rfl, h1, h2⟩ := h
    exact RVs.drop n h2
theorem RVs.take : ∀ (n : Nat) {ds : List D} {vs : List V}, RVs K β H ds vs → RVs K β H (ds.take n) (vs.take n)
  | 0, _, _, h => RVs.nil
  | n + 1, [], vs, h => by rw [RVs] at h; subst h; exact RVs.nil
  | n + 1, d :: ds, vs, h => by
    rw [RVs] at h
    obtain ⟨v, r, rfl, h1, h2⟩ := h
    exact RVs.cons h1 (RVs.take n h2)
end

/-! ### stores -/
def RKs (K : PySem.W.Frag) (β : List Addr) (H : Hp) : List (D × D) → List (Key × V) → Prop
  | [], gs => gs = []
  | (k, d) :: r, gs => ∃ s v t, k = .str s ∧ gs = (.inr ⟨s.toArray⟩, v) :: t ∧ RV K β H d v ∧ RKs K β H r t
def RO (K : PySem.W.Frag) (β : List Addr) (H : Hp) (o : MO) (a : Addr) : Prop :=
  match o with
  | .lst xs => D.pureAll xs = true ∧ ∃ vs, H a = some (.lst vs) ∧ RVs K β H xs vs
  | .frz xs => D.pureAll xs = true ∧ ∃ vs, H a = some (.lst vs) ∧ RVs K β H xs vs
  | .dic kvs => ∃ gs, H a = some (.dK gs) ∧ RKs K β H kvs gs
  | .fdic kvs => ∃ gs, H a = some (.dK gs) ∧ RKs K β H kvs gs
  | .ins _ _ => False
structure RS (K : PySem.W.Frag) (β : List Addr) (S : Store) (H : Hp) : Prop where
  len : β.length = S.length
  nd : β.Nodup
  obj : ∀ (i : Nat) o a, S[i]? = some o → β[i]? = some a → RO K β H o a
structure Ext (β : List Addr) (S : Store) (H : Hp) (β' : List Addr) (S' : Store) (H' : Hp) : Prop where
  pre : ∃ new, β' = β ++ new ∧ ∀ b ∈ new, H b = none
  keep : ∀ b o, H b = some o → b ∉ β → H' b = some o
  live : ∀ b, H b ≠ none → H' b ≠ none
  frz : ∀ (n : Nat) xs, S[n]? = some (.frz xs) → S'[n]? = some (.frz xs)
  fdic : ∀ (n : Nat) xs, S[n]? = some (.fdic xs) → S'[n]? = some (.fdic xs)

/-- what an object of the store is in the heap: no tuple, nothing locked -/
def mutO : HO → Bool
  | .lst _ => true
  | .dK _ => true
  | .ins _ _ _ => true
  | _ => false
section
variable {K : PySem.W.Frag} {β β' β'' : List Addr} {S S' S'' : Store} {H H' H'' : Hp}
theorem RO.mut {o : MO} {a : Addr} (h : RO K β H o a) : ∃ u, H a = some u ∧ mutO u = true := by
  cases o with
  | lst xs => obtain ⟨_, vs, e, _⟩ := h; exact ⟨_, e, rfl⟩
  | frz xs => obtain ⟨_, vs, e, _⟩ := h; exact ⟨_, e, rfl⟩
  | dic xs => obtain ⟨vs, e, _⟩ := h; exact ⟨_, e, rfl⟩
  | fdic xs => obtain ⟨vs, e, _⟩ := h; exact ⟨_, e, rfl⟩
  | ins _ _ => exact h.elim
theorem RS.at (r : RS K β S H) {n : Nat} {o : MO} (h : S[n]? = some o) : ∃ a, β[n]? = some a ∧ RO K β H o a := by
  have hl : n < β.length := by rw [r.len]; exact (List.getElem?_eq_some_iff.mp h).1
  exact ⟨β[n], List.getElem?_eq_getElem hl, r.obj n o _ h (List.getElem?_eq_getElem hl)⟩
theorem RS.mutB (r : RS K β S H) {b : Addr} (h : b ∈ β) : ∃ u, H b = some u ∧ mutO u = true := by
  obtain ⟨n, hn, e⟩ := List.mem_iff_getElem.mp h
  have hs : n < S.length := by rw [← r.len]; exact hn
  exact (r.obj n S[n] b (List.getElem?_eq_getElem hs) (by rw [← e]; exact List.getElem?_eq_getElem hn)).mut
theorem RS.notTup (r : RS K β S H) {b : Addr} {xs : List V} (h : H b = some (.tup xs)) : b ∉ β := fun hb => by
  obtain ⟨u, e, m⟩ := r.mutB hb
  rw [h] at e; cases e; cases m
theorem RS.notFrz (r : RS K β S H) {b : Addr} {o : Obj} {u : HO} (h : H b = some (.frz o u)) : b ∉ β := fun hb => by
  obtain ⟨u, e, m⟩ := r.mutB hb
  rw [h] at e; cases e; cases m
theorem RV.mono (r : RS K β S H) (e : Ext β S H β' S' H') {d : D} {v : V} (h : RV K β H d v) : RV K β' H' d v := by
  refine RV.of_keep (fun b xs q => e.keep b _ q (r.notTup q)) (fun b o u q => e.keep b _ q (r.notFrz q)) (fun n a q => ?_) d v h
  obtain ⟨new, eb, _⟩ := e.pre
  rw [eb, List.getElem?_append_left (List.getElem?_eq_some_iff.mp q).1]
  exact q
theorem RVs.mono (r : RS K β S H) (e : Ext β S H β' S' H') {d : List D} {v : List V} (h : RVs K β H d v) : RVs K β' H' d v := by
  refine RVs.of_keep (fun b xs q => e.keep b _ q (r.notTup q)) (fun b o u q => e.keep b _ q (r.notFrz q)) (fun n a q => ?_) d v h
  obtain ⟨new, eb, _⟩ := e.pre
  rw [eb, List.getElem?_append_left (List.getElem?_eq_some_iff.mp q).1]
  exact q
theorem RKs.of_keep (f : ∀ d v, RV K β H d v → RV K β' H' d v) : ∀ (kvs : List (D × D)) (gs : List (Key × V)), RKs K β H kvs gs → RKs K β' H' kvs gs
  | [], gs, h => by rw [RKs] at h ⊢; exact h
  | (k, d) :: r, gs, h => by
    rw [RKs] at h ⊢
    obtain ⟨s, v, t, e1, e2, h1, h2⟩ := h
    exact ⟨s, v, t, e1, e2, f d v h1, RKs.of_keep f r t h2⟩
/-- an object that stands as it was -/
theorem RO.of_keep (f : ∀ d v, RV K β H d v → RV K β' H' d v) (g : ∀ d v, RVs K β H d v → RVs K β' H' d v) {o : MO} {a : Addr} (e : ∀ u, H a = some u → H' a = some u) (h : RO K β H o a) : RO K β' H' o a := by
  cases o with
  | lst xs => obtain ⟨p, vs, q, r⟩ := h; exact ⟨p, vs, e _ q, g _ _ r⟩
  | frz xs => obtain ⟨p, vs, q, r⟩ := h; exact ⟨p, vs, e _ q, g _ _ r⟩
  | dic xs => obtain ⟨vs, q, r⟩ := h; exact ⟨vs, e _ q, RKs.of_keep f _ _ r⟩
  | fdic xs => obtain ⟨vs, q, r⟩ := h; exact ⟨vs, e _ q, RKs.of_keep f _ _ r⟩
  | ins _ _ => exact h
theorem Ext.refl : Ext β S H β S H := ⟨⟨[], by simp, fun _ h => nomatch h⟩, fun _ _ h _ => h, fun _ h => h, fun _ _ h => h, fun _ _ h => h⟩
theorem Ext.trans (e : Ext β S H β' S' H') (f : Ext β' S' H' β'' S'' H'') : Ext β S H β'' S'' H'' := by
  obtain ⟨n1, e1, h1⟩ := e.pre
  obtain ⟨n2, e2, h2⟩ := f.pre
  refine ⟨⟨n1 ++ n2, by rw [e2, e1, List.append_assoc], fun b hb => ?_⟩, fun b o q nb => ?_, fun b q => f.live b (e.live b q), fun n xs q => f.frz n xs (e.frz n xs q), fun n xs q => f.fdic n xs (e.fdic n xs q)⟩
  · rcases List.mem_append.mp hb with hb | hb
    · exact h1 b hb
    · cases q : H b with
      | none => rfl
      | some o => exact absurd (h2 b hb) (e.live b (by rw [q]; exact fun z => nomatch z))
  · refine f.keep b o (e.keep b o q nb) ?_
    rw [e1]
    intro hb
    rcases List.mem_append.mp hb with hb | hb
    · exact nb hb
    · rw [h1 b hb] at q; cases q
theorem live_upd {p : Addr} {o : HO} (hp : H p = none) (b : Addr) (q : H b ≠ none) : upd H p o b ≠ none := by
  cases z : H b with
  | none => exact absurd z q
  | some u => rw [upd_ne (ne_of_none z hp), z]; exact (fun z => nomatch z)
/-- a new thing that is no object of the store -/
theorem RS.aside (r : RS K β S H) {p : Addr} {o : HO} (hp : H p = none) : RS K β S (upd H p o) ∧ Ext β S H β S (upd H p o) := by
  have ex : Ext β S H β S (upd H p o) := ⟨⟨[], by simp, fun _ h => nomatch h⟩, fun b u q _ => by rw [upd_ne (ne_of_none q hp)]; exact q, live_upd hp, fun _ _ h => h, fun _ _ h => h⟩
  refine ⟨⟨r.len, r.nd, fun i u a h1 h2 => ?_⟩, ex⟩
  refine (r.obj i u a h1 h2).of_keep (fun _ _ h => h.mono r ex) (fun _ _ h => h.mono r ex) fun z q => ?_
  rw [upd_ne (ne_of_none q hp)]; exact q
/-- a new object of the store -/
theorem RS.push (r : RS K β S H) {p : Addr} {o : MO} {u : HO} (hp : H p = none) (h : RO K (β ++ [p]) (upd H p u) o p) : RS K (β ++ [p]) (S ++ [o]) (upd H p u) ∧ Ext β S H (β ++ [p]) (S ++ [o]) (upd H p u) := by
  have lt : ∀ {n : Nat} {o' : MO}, S[n]? = some o' → (S ++ [o])[n]? = some o' := fun {n o'} q => by
    rw [List.getElem?_append_left (List.getElem?_eq_some_iff.mp q).1]; exact q
  have ex : Ext β S H (β ++ [p]) (S ++ [o]) (upd H p u) := ⟨⟨[p], rfl, fun b h => by rw [List.mem_singleton.mp h]; exact hp⟩, fun b u q _ => by rw [upd_ne (ne_of_none q hp)]; exact q, live_upd hp, fun _ _ q => lt q, fun _ _ q => lt q⟩
  have np : p ∉ β := fun hb => by
    obtain ⟨u, e, _⟩ := r.mutB hb
    rw [hp] at e; cases e
  refine ⟨⟨by simp [r.len], ?_, fun i o' a h1 h2 => ?_⟩, ex⟩
  · rw [List.nodup_append]
    exact ⟨r.nd, by simp, fun a ha b hb => by rw [List.mem_singleton.mp hb]; exact fun z => np (z ▸ ha)⟩
  · by_cases hi : i < S.length
    · rw [List.getElem?_append_left hi] at h1
      rw [List.getElem?_append_left (by rw [r.len]; exact hi)] at h2
      refine (r.obj i o' a h1 h2).of_keep (fun _ _ h => h.mono r ex) (fun _ _ h => h.mono r ex) fun z q => ?_
      rw [upd_ne (ne_of_none q hp)]; exact q
    · have hi' : i = S.length := by
        have := (List.getElem?_eq_some_iff.mp h1).1
        simp at this
        omega
      subst hi'
      have e1 : o' = o := by simpa using h1.symm
      have e2 : a = p := by
        rw [← r.len] at h2
        simpa using h2.symm
      rw [e1, e2]; exact h
/-- an object of the store is changed -/
theorem RS.put (r : RS K β S H) {n : Nat} {a : Addr} {o : MO} {u : HO} (ha : β[n]? = some a) (hf : ∀ xs, S[n]? ≠ some (.frz xs)) (hd : ∀ xs, S[n]? ≠ some (.fdic xs))
    (h : RO K β (upd H a u) o a) : RS K β (S.set n o) (upd H a u) ∧ Ext β S H β (S.set n o) (upd H a u) := by
  have hab : a ∈ β := List.mem_of_getElem? ha
  have ex : Ext β S H β (S.set n o) (upd H a u) := ⟨⟨[], by simp, fun _ h => nomatch h⟩, fun b w q nb => (by
    have nb' : b ≠ a := fun z => nb (by rw [z]; exact hab)
    rw [upd_ne nb']; exact q), fun b q => (by
    by_cases hb : b = a
    · rw [hb, upd_same]; exact (fun z => nomatch z)
    · rw [upd_ne hb]; exact q), fun m xs q => (by
    by_cases hm : n = m
    · subst hm; exact absurd q (hf xs)
    · rw [List.getElem?_set_ne hm]; exact q), fun m xs q => (by
    by_cases hm : n = m
    · subst hm; exact absurd q (hd xs)
    · rw [List.getElem?_set_ne hm]; exact q)⟩
  refine ⟨⟨by simpa using r.len, r.nd, fun i o' b h1 h2 => ?_⟩, ex⟩
  by_cases hi : n = i
  · subst hi
    rw [ha] at h2; cases h2
    have hl : n < S.length := by rw [← r.len]; exact (List.getElem?_eq_some_iff.mp ha).1
    rw [List.getElem?_set_self hl] at h1
    cases h1
    exact h
  · rw [List.getElem?_set_ne hi] at h1
    have nb : b ≠ a := fun z => by
      subst z
      obtain ⟨l1, g1⟩ := List.getElem?_eq_some_iff.mp ha
      obtain ⟨l2, g2⟩ := List.getElem?_eq_some_iff.mp h2
      exact hi ((List.getElem_inj r.nd).mp (g1.trans g2.symm))
    refine (r.obj i o' b h1 h2).of_keep (fun _ _ h => h.mono r ex) (fun _ _ h => h.mono r ex) fun z q => ?_
    rw [upd_ne nb]; exact q
/-- the label of an object alone changes (locked, unlocked) -/
theorem RS.label (r : RS K β S H) {n : Nat} {o : MO} (h : ∀ a, β[n]? = some a → RO K β H o a) : RS K β (S.set n o) H := by
  refine ⟨by simpa using r.len, r.nd, fun i o' b h1 h2 => ?_⟩
  by_cases hi : n = i
  · subst hi
    have hl : n < S.length := by rw [← r.len]; exact (List.getElem?_eq_some_iff.mp h2).1
    rw [List.getElem?_set_self hl] at h1
    cases h1
    exact h b h2
  · rw [List.getElem?_set_ne hi] at h1
    exact r.obj i o' b h1 h2

/-! ### what stands behind an outcome -/
def Post {α : Type} (K : PySem.W.Frag) (β : List Addr) (S : Store) (H : Hp) (o : Out α) (Q : α → Store → List Addr → Hp → Prop) (E : Nat → Store → List Addr → Hp → Prop) : Prop :=
  match o with
  | .ok a S' => ∀ β' H', Ext β S H β' S' H' → RS K β' S' H' → Q a S' β' H'
  | .exc c S' => ∀ β' H', Ext β S H β' S' H' → RS K β' S' H' → E c S' β' H'
  | .bad => False
theorem Post.bind {α γ : Type} {o : Out α} {k : α → Store → Out γ} {Q : γ → Store → List Addr → Hp → Prop} {E : Nat → Store → List Addr → Hp → Prop} (h : Post K β S H (o.bind k) Q E) :
    Post K β S H o (fun a S1 β1 H1 => Post K β1 S1 H1 (k a S1) Q E) E := by
  cases o with
  | ok a S1 =>
    intro β1 H1 e1 r1
    show Post K β1 S1 H1 (k a S1) Q E
    have h' : Post K β S H (k a S1) Q E := h
    revert h'
    cases k a S1 with
    | ok b S2 => intro h' β2 H2 e2 r2; exact h' β2 H2 (e1.trans e2) r2
    | exc c S2 => intro h' β2 H2 e2 r2; exact h' β2 H2 (e1.trans e2) r2
    | bad => intro h'; exact h'
  | exc c S1 => exact h
  | bad => exact h
theorem Post.mono {α : Type} {o : Out α} {Q Q' : α → Store → List Addr → Hp → Prop} {E E' : Nat → Store → List Addr → Hp → Prop} (h : Post K β S H o Q E)
    (hq : ∀ a S1 β1 H1, Ext β S H β1 S1 H1 → RS K β1 S1 H1 → Q a S1 β1 H1 → Q' a S1 β1 H1) (he : ∀ a S1 β1 H1, Ext β S H β1 S1 H1 → RS K β1 S1 H1 → E a S1 β1 H1 → E' a S1 β1 H1) : Post K β S H o Q' E' := by
  cases o with
  | ok a S1 => intro β1 H1 e1 r1; exact hq a S1 β1 H1 e1 r1 (h β1 H1 e1 r1)
  | exc a S1 => intro β1 H1 e1 r1; exact he a S1 β1 H1 e1 r1 (h β1 H1 e1 r1)
  | bad => exact h
/-- the outcome stands from an earlier store on -/
theorem Post.from {α : Type} {o : Out α} {Q : α → Store → List Addr → Hp → Prop} {E : Nat → Store → List Addr → Hp → Prop} (e : Ext β S H β' S' H') (h : Post K β S H o Q E) : Post K β' S' H' o Q E := by
  cases o with
  | ok a S1 => intro β1 H1 e1 r1; exact h β1 H1 (e.trans e1) r1
  | exc a S1 => intro β1 H1 e1 r1; exact h β1 H1 (e.trans e1) r1
  | bad => exact h
theorem Post.ok' {α : Type} {a : α} {Q : α → Store → List Addr → Hp → Prop} {E : Nat → Store → List Addr → Hp → Prop} (r : RS K β S H) (h : Post K β S H (.ok a S) Q E) : Q a S β H := h β H .refl r

/-! ### slots -/
structure Sim (K : PySem.W.Frag) (β : List Addr) (H : Hp) (σ : St) (ρ : Env) : Prop where
  len : σ.length = ρ.length
  rel : ∀ (i : Nat) d, ρ[i]? = some (some d) → ∃ v, σ[i]? = some (some v) ∧ RV K β H d v
theorem Sim.mono {σ : St} {ρ : Env} (s : Sim K β H σ ρ) (r : RS K β S H) (e : Ext β S H β' S' H') : Sim K β' H' σ ρ :=
  ⟨s.len, fun i d h => let ⟨v, h1, h2⟩ := s.rel i d h; ⟨v, h1, h2.mono r e⟩⟩
theorem Sim.set {σ : St} {ρ : Env} (s : Sim K β H σ ρ) {i : Nat} {d : D} {v : V} (h : RV K β H d v) : Sim K β H (σ.set i (some v)) (ρ.set i (some d)) := by
  refine ⟨by simp [s.len], fun j d' q => ?_⟩
  by_cases hj : i = j
  · subst hj
    have hl : i < ρ.length := by
      have := (List.getElem?_eq_some_iff.mp q).1
      simpa using this
    rw [List.getElem?_set_self hl] at q
    cases q
    exact ⟨v, List.getElem?_set_self (by rw [s.len]; exact hl), h⟩
  · rw [List.getElem?_set_ne hj] at q ⊢
    exact s.rel j d' q

/-! ### the readings -/
abbrev XW := Nat → St → Hp → Prop
abbrev FS := Nat → List D → Store → Out D
/-- an outcome's value, wanted by Q; what is raised, by E at the slots σ -/
def PV (K : PySem.W.Frag) (E : XW) (σ : St) (β : List Addr) (S : Store) (H : Hp) (o : Out D) (Q : VK) : Prop :=
  Post K β S H o (fun d S' β' H' => ∀ v, RV K β' H' d v → Q v H') (fun c _ _ H' => E c σ H')
def tEv (K : PySem.W.Frag) (F : FS) (E : XW) (e : Ex) : TE := fun σ H Q => ∃ ρ S β, Sim K β H σ ρ ∧ RS K β S H ∧ PV K E σ β S H (ev F e ρ S) Q
def tEvs (K : PySem.W.Frag) (F : FS) (E : XW) (es : Exs) : TA := fun σ H Q => ∃ ρ S β, Sim K β H σ ρ ∧ RS K β S H ∧
  Post K β S H (evs F es ρ S) (fun ds S' β' H' => ∀ vs, RVs K β' H' ds vs → Q vs H') (fun c _ _ H' => E c σ H')
def tEvT (K : PySem.W.Frag) (F : FS) (E : XW) (e : Ex) : TT := fun σ H Q => ∃ ρ S β, Sim K β H σ ρ ∧ RS K β S H ∧
  Post K β S H ((ev F e ρ S).bind fun x S => blB (truth S x) S) (fun b _ _ H' => Q b H') (fun c _ _ H' => E c σ H')
end
end Ev
set_option Elab.async false
set_option linter.all false
set_option maxRecDepth 100000
/-! Eng2: the operations of the small language are Python's. -/
namespace Ev
open PySem L2

abbrev sA (l : List Nat) : Str := ⟨l.toArray⟩
theorem sA_len (l : List Nat) : (sA l).length = l.length := by rw [TL.len_tl]
theorem sA_app (a b : List Nat) : sA a ++ sA b = sA (a ++ b) := TL.ext_tl (by rw [TL.tl_append])
theorem szOk_le {n : Nat} (h : szOk n = true) : n ≤ sizeLine := of_decide_eq_true h

section
variable {K : PySem.W.Frag} {E : XW} {σ : L2.St} {β : List Addr} {S : Store} {H : Hp} {Q : VK}
theorem PV.now {d : D} {v : V} (r : RS K β S H) (h : PV K E σ β S H (.ok d S) Q) (hv : RV K β H d v) : Q v H := h β H .refl r v hv
theorem PV.newTup {ds : List D} {vs : List V} {p : Addr} (r : RS K β S H) (h : PV K E σ β S H (.ok (.tup ds) S) Q) (hv : RVs K β H ds vs) (hp : H p = none) : Q (.ref p) (upd H p (.tup vs)) := by
  obtain ⟨r2, e⟩ := r.aside (o := .tup vs) hp
  refine h β _ e r2 _ ?_
  rw [RV]
  exact ⟨p, vs, rfl, .of upd_same, hv.mono r e⟩
theorem PV.newList {ds : List D} {vs : List V} {p : Addr} (r : RS K β S H) (h : PV K E σ β S H (newL ds S) Q) (hv : RVs K β H ds vs) (hp : H p = none) : Q (.ref p) (upd H p (.lst vs)) := by
  unfold newL at h
  split at h
  · rename_i hc
    rw [Bool.and_eq_true] at hc
    obtain ⟨_, e⟩ := r.aside (o := .lst vs) hp
    obtain ⟨r2, e2⟩ := r.push (o := .lst ds) (u := .lst vs) hp ⟨hc.1, vs, upd_same, (hv.mono r e).pureB ds vs hc.1⟩
    refine h _ _ e2 r2 _ ?_
    rw [RV]
    refine ⟨p, rfl, ?_⟩
    rw [← r.len]
    simp
  · exact h.elim
theorem newL_len {ds : List D} (h : PV K E σ β S H (newL ds S) Q) : D.pureAll ds = true ∧ ds.length ≤ sizeLine := by
  unfold newL at h
  split at h
  · rename_i hc
    rw [Bool.and_eq_true] at hc
    exact ⟨hc.1, szOk_le hc.2⟩
  · exact h.elim
theorem RV.ref_of {d : D} {v : V} {ds : List D} (h : RV K β H (.tup ds) v) : ∃ a vs, v = .ref a ∧ SqT K H a vs ∧ RVs K β H ds vs := by rw [RV] at h; exact h
/-- a list of the store -/
theorem RS.lst (r : RS K β S H) {n : Nat} {xs : List D} (h : S[n]? = some (.lst xs)) : ∃ a vs, β[n]? = some a ∧ D.pureAll xs = true ∧ H a = some (.lst vs) ∧ RVs K β H xs vs := by
  obtain ⟨a, ha, p, vs, e, q⟩ := r.at h
  exact ⟨a, vs, ha, p, e, q⟩
theorem RS.frz (r : RS K β S H) {n : Nat} {xs : List D} (h : S[n]? = some (.frz xs)) : ∃ a vs, β[n]? = some a ∧ D.pureAll xs = true ∧ H a = some (.lst vs) ∧ RVs K β H xs vs := by
  obtain ⟨a, ha, p, vs, e, q⟩ := r.at h
  exact ⟨a, vs, ha, p, e, q⟩
theorem listOf_loc {S : Store} {n : Nat} {xs : List D} (h : listOf S (.loc n) = some xs) : S[n]? = some (.lst xs) ∨ S[n]? = some (.frz xs) := by
  simp only [listOf] at h
  split at h
  · rename_i ys e
    rw [e, Option.some.inj h]; exact .inl rfl
  · rename_i ys e
    rw [e, Option.some.inj h]; exact .inr rfl
  · cases h
/-- a list of the store, walked or not -/
theorem RS.lstf (r : RS K β S H) {n : Nat} {xs : List D} (h : S[n]? = some (.lst xs) ∨ S[n]? = some (.frz xs)) : ∃ a vs, β[n]? = some a ∧ D.pureAll xs = true ∧ H a = some (.lst vs) ∧ RVs K β H xs vs := by
  rcases h with h | h
  · exact r.lst h
  · exact r.frz h
/-- what is read as a list -/
theorem RS.list (r : RS K β S H) {d : D} {v : V} {xs : List D} (hv : RV K β H d v) (h : listOf S d = some xs) : ∃ a vs, v = .ref a ∧ SqL K H a vs ∧ RVs K β H xs vs := by
  cases d with
  | loc n =>
    rw [RV] at hv
    obtain ⟨a, rfl, ha⟩ := hv
    obtain ⟨a', vs, ha', _, e', q⟩ := r.lstf (listOf_loc h)
    rw [ha] at ha'; cases ha'
    exact ⟨a, vs, rfl, .of e', q⟩
  | lit ys =>
    obtain rfl : ys = xs := Option.some.inj h
    rw [RV] at hv
    obtain ⟨a, vs, e, q, z⟩ := hv
    exact ⟨a, vs, e, q.sq, z⟩
  | non => exact nomatch h
  | bl _ => exact nomatch h
  | int _ => exact nomatch h
  | str _ => exact nomatch h
  | tup _ => exact nomatch h
theorem RS.listPure (r : RS K β S H) {n : Nat} {xs : List D} (h : listOf S (.loc n) = some xs) : D.pureAll xs = true := by
  obtain ⟨_, _, _, p, _⟩ := r.lstf (listOf_loc h)
  exact p
end

/-- an operation of two values, of one, of a list of them -/
def rD2 (K : PySem.W.Frag) (E : XW) (f : D → D → Store → Out D) : R2 := fun x y H Q => ∃ σ β S d1 d2, RS K β S H ∧ RV K β H d1 x ∧ RV K β H d2 y ∧ PV K E σ β S H (f d1 d2 S) Q
def rDs (K : PySem.W.Frag) (E : XW) (f : List D → Store → Out D) : List V → Hp → VK → Prop := fun xs H Q => ∃ σ β S ds, RS K β S H ∧ RVs K β H ds xs ∧ PV K E σ β S H (f ds S) Q

section
variable {X : Cx} {E : XW}
theorem op_addE : OpR X (binaryOp .Add) (rD2 X.K E addD) := by
  intro pins s σ H x y v u Q I rx ry h
  obtain ⟨σ', β, S, d1, d2, r, h1, h2, q⟩ := h
  unfold addD at q
  split at q
  · rw [RV] at h1 h2
    subst h1 h2
    exact op_add pins s σ H _ _ v u Q I rx ry ⟨_, _, rfl, rfl, q.now r (by rw [RV])⟩
  · rw [RV] at h1 h2
    subst h1 h2
    split at q
    · rename_i a b hz
      refine op_add_str pins s σ H _ _ v u Q I rx ry ⟨_, _, rfl, rfl, ?_, ?_⟩
      · rw [sA_len, sA_len]; exact szOk_le hz
      · rw [sA_app]
        exact q.now r (by rw [RV])
    · exact q.elim
  · split at q
    · rename_i xs ys hz
      rw [RV] at h1 h2
      obtain ⟨a, vs, rfl, q1, z1⟩ := h1
      obtain ⟨b, ws, rfl, q2, z2⟩ := h2
      have l1 := z1.length
      have l2 := z2.length
      refine op_catA pins s σ H _ _ v u Q I rx ry ⟨a, b, vs, ws, rfl, rfl, q1, q2, by rw [l1, l2]; exact szOk_le hz, fun e => ?_, fun e1 e2 => ?_, fun e1 e2 p hp => ?_⟩
      · have : xs = [] := List.length_eq_zero_iff.mp (by rw [← l1, e]; rfl)
        subst this
        exact q.now r (by rw [RV]; exact ⟨b, ws, rfl, q2, z2⟩)
      · have : ys = [] := List.length_eq_zero_iff.mp (by rw [← l2, e2]; rfl)
        subst this
        rw [List.append_nil] at q
        exact q.now r (by rw [RV]; exact ⟨a, vs, rfl, q1, z1⟩)
      · exact q.newTup r (z1.append z2) hp
    · exact q.elim
  · split at q
    · rename_i m n xs ys e1 e2
      rw [RV] at h1 h2
      obtain ⟨a, rfl, ha⟩ := h1
      obtain ⟨b, rfl, hb⟩ := h2
      obtain ⟨a', vs, ha', _, e1', z1⟩ := r.lst e1
      obtain ⟨b', ws, hb', _, e2', z2⟩ := r.lst e2
      rw [ha] at ha'; cases ha'
      rw [hb] at hb'; cases hb'
      have l1 := z1.length
      have l2 := z2.length
      refine op_cat pins s σ H _ _ v u Q I rx ry ⟨a, b, vs, ws, rfl, rfl, e1', e2', ?_, fun p hp => q.newList r (z1.append z2) hp⟩
      have := (newL_len q).2
      rw [l1, l2, ← List.length_append]
      exact this
    · exact q.elim
  · exact q.elim
theorem op_subE : OpR X (binaryOp .Sub) (rD2 X.K E subD) := by
  intro pins s σ H x y v u Q I rx ry h
  obtain ⟨σ', β, S, d1, d2, r, h1, h2, q⟩ := h
  unfold subD at q
  split at q
  · rw [RV] at h1 h2
    subst h1 h2
    exact op_sub pins s σ H _ _ v u Q I rx ry ⟨_, _, rfl, rfl, q.now r (by rw [RV])⟩
  · exact q.elim
theorem sm64_of {i : Int} (h : sm64 i = true) : -(2 ^ 64) < i ∧ i < 2 ^ 64 := by
  unfold sm64 at h
  rw [Bool.and_eq_true] at h
  exact ⟨of_decide_eq_true h.1, of_decide_eq_true h.2⟩
theorem RVs.rep {K : PySem.W.Frag} {β : List Addr} {H : Hp} {ds : List D} {vs : List V} (h : RVs K β H ds vs) : ∀ n : Nat, RVs K β H (List.replicate n ds).flatten (List.replicate n vs).flatten
  | 0 => by simpa using RVs.nil
  | n + 1 => by
    rw [List.replicate_succ, List.replicate_succ, List.flatten_cons, List.flatten_cons]
    exact h.append (RVs.rep h n)
theorem rep_len {α β : Type} {xs : List α} {ys : List β} (h : xs.length = ys.length) : ∀ n : Nat, (List.replicate n xs).flatten.length = (List.replicate n ys).flatten.length
  | 0 => rfl
  | n + 1 => by
    rw [List.replicate_succ, List.replicate_succ, List.flatten_cons, List.flatten_cons, List.length_append, List.length_append, h, rep_len h n]
end
end Ev
set_option Elab.async false
set_option linter.all false
set_option maxRecDepth 100000
/-! Eng3: products, comparisons, truth. -/
namespace Ev
open PySem L2

section
variable {X : Cx} {E : XW}
theorem op_mulE : OpR X (binaryOp .Mult) (rD2 X.K E mulD) := by
  intro pins s σ H x y v u Q I rx ry h
  obtain ⟨σ', β, S, d1, d2, r, h1, h2, q⟩ := h
  unfold mulD at q
  split at q
  · split at q
    · rename_i i j hc
      rw [RV] at h1 h2
      subst h1 h2
      refine op_mul pins s σ H _ _ v u Q I rx ry ⟨_, _, rfl, rfl, ?_, q.now r (by rw [RV])⟩
      rw [Bool.or_eq_true] at hc
      rcases hc with hc | hc
      · exact .inl (sm64_of hc)
      · exact .inr (sm64_of hc)
    · exact q.elim
  · split at q
    · rename_i m k _ xs e
      split at q
      · rename_i hc
        simp only [RV] at h1 h2
        obtain ⟨a, rfl, ha⟩ := h1
        subst h2
        obtain ⟨a', vs, ha', _, e', z⟩ := r.lst e
        rw [ha] at ha'; cases ha'
        rw [Bool.and_eq_true] at hc
        have c1 := of_decide_eq_true hc.1
        have c2 := of_decide_eq_true hc.2
        refine op_rep pins s σ H _ _ v u Q I rx ry ⟨a, k, vs, rfl, rfl, e', by omega, by omega, ?_, fun p hp => q.newList r (z.rep _) hp⟩
        have h1 := (newL_len q).2
        rw [rep_len z.length.symm] at h1
        simpa [Nat.mul_comm] using h1
      · exact q.elim
    · exact q.elim
  · exact q.elim
theorem op_modE : OpR X (binaryOp .Mod) (rD2 X.K E modD) := by
  intro pins s σ H x y v u Q I rx ry h
  obtain ⟨σ', β, S, d1, d2, r, h1, h2, q⟩ := h
  unfold modD at q
  split at q
  · split at q
    · rename_i hc
      rw [RV] at h1 h2
      subst h1 h2
      exact op_mod pins s σ H _ _ v u Q I rx ry ⟨_, _, rfl, rfl, of_decide_eq_true hc, q.now r (by rw [RV])⟩
    · exact q.elim
  · exact q.elim
theorem op_fdivE : OpR X (binaryOp .FloorDiv) (rD2 X.K E fdivD) := by
  intro pins s σ H x y v u Q I rx ry h
  obtain ⟨σ', β, S, d1, d2, r, h1, h2, q⟩ := h
  unfold fdivD at q
  split at q
  · split at q
    · rename_i hc
      rw [Bool.and_eq_true] at hc
      rw [RV] at h1 h2
      subst h1 h2
      exact op_fdiv pins s σ H _ _ v u Q I rx ry ⟨_, _, rfl, rfl, ⟨of_decide_eq_true hc.1, of_decide_eq_true hc.2⟩, q.now r (by rw [RV])⟩
    · exact q.elim
  · exact q.elim
end

/-! ### data as the library reads it -/
mutual
def toPy : D → PyData
  | .non => .none
  | .bl b => .bool b
  | .int i => .int i
  | .str s => .str (sA s)
  | .tup xs => .tuple (toPys xs)
  | .lit xs => .list (toPys xs)
  | .loc _ => .none
def toPys : List D → List PyData
  | [] => []
  | x :: xs => toPy x :: toPys xs
end
theorem toPys_map : ∀ xs : List D, toPys xs = xs.map toPy
  | [] => rfl
  | x :: xs => by rw [toPys, List.map_cons, toPys_map xs]
mutual
theorem plain_toPy : ∀ d : D, (toPy d).plain = true
  | .non => rfl | .bl _ => rfl | .int _ => rfl | .str _ => rfl | .loc _ => rfl
  | .tup xs => by rw [toPy, PyData.plain]; exact plain_toPys xs
  | .lit xs => by rw [toPy, PyData.plain]; exact plain_toPys xs
theorem plain_toPys : ∀ ds : List D, PyData.plainAll (toPys ds) = true
  | [] => rfl
  | x :: xs => by rw [toPys, PyData.plainAll, plain_toPy x, plain_toPys xs]; rfl
end
mutual
theorem depth_toPy : ∀ d : D, (toPy d).depth = d.depth
  | .non => rfl | .bl _ => rfl | .int _ => rfl | .str _ => rfl | .loc _ => rfl
  | .tup xs => by rw [toPy, PyData.depth, D.depth, depth_toPys xs]
  | .lit xs => by rw [toPy, PyData.depth, D.depth, depth_toPys xs]
theorem depth_toPys : ∀ ds : List D, PyData.depthAll (toPys ds) = D.depthAll ds
  | [] => rfl
  | x :: xs => by rw [toPys, PyData.depthAll, D.depthAll, depth_toPy x, depth_toPys xs]
end
theorem sA_beq (a b : List Nat) : (sA a == sA b) = (a == b) := by
  by_cases e : a = b
  · subst e; simp
  · have : sA a ≠ sA b := fun z => e (by
      have := congrArg TL.tl z
      simpa [TL.tl] using this)
    rw [beq_eq_false_iff_ne.mpr this, beq_eq_false_iff_ne.mpr e]
mutual
theorem eqD_py : ∀ a b : D, a.pure = true → b.pure = true → eqD a b = PyData.eqv (toPy a) (toPy b)
  | .non, b, _, hb => by cases b <;> first | rfl | (rw [D.pure] at hb; cases hb)
  | .bl x, b, _, hb => by cases b <;> first | rfl | (rw [D.pure] at hb; cases hb)
  | .int x, b, _, hb => by cases b <;> first | rfl | (rw [D.pure] at hb; cases hb)
  | .str x, b, _, hb => by
    cases b with
    | str y => rw [eqD, toPy, toPy, PyData.eqv, sA_beq]
    | loc _ => rw [D.pure] at hb; cases hb
    | _ => rfl
  | .tup xs, b, ha, hb => by
    cases b with
    | tup ys =>
      rw [D.pure] at ha hb
      rw [eqD, toPy, toPy, PyData.eqv]; exact eqDs_py xs ys ha hb
    | loc _ => rw [D.pure] at hb; cases hb
    | _ => rfl
  | .lit xs, b, ha, hb => by
    cases b with
    | lit ys =>
      rw [D.pure] at ha hb
      rw [eqD, toPy, toPy, PyData.eqv]; exact eqDs_py xs ys ha hb
    | loc _ => rw [D.pure] at hb; cases hb
    | _ => rfl
  | .loc _, b, ha, _ => by rw [D.pure] at ha; cases ha
theorem eqDs_py : ∀ a b : List D, D.pureAll a = true → D.pureAll b = true → eqDs a b = PyData.eqvAll (toPys a) (toPys b)
  | [], [], _, _ => rfl
  | [], _ :: _, _, _ => rfl
  | _ :: _, [], _, _ => rfl
  | x :: xs, y :: ys, ha, hb => by
    rw [D.pureAll, Bool.and_eq_true] at ha hb
    rw [eqDs, toPys, toPys, PyData.eqvAll, eqD_py x y ha.1 hb.1, eqDs_py xs ys ha.2 hb.2]
end
section
variable {K : PySem.W.Frag} {β : List Addr} {S : Store} {H : Hp}
mutual
theorem RV.dp : ∀ (d : D) (v : V), d.pure = true → RV K β H d v → Dp K H v (toPy d)
  | .non, v, _, h => by rw [RV] at h; subst h; exact .non
  | .bl b, v, _, h => by rw [RV] at h; subst h; exact .bl b
  | .int i, v, _, h => by rw [RV] at h; subst h; exact .int i
  | .str s, v, _, h => by rw [RV] at h; subst h; exact .str _
  | .tup ds, v, p, h => by
    rw [RV] at h
    rw [D.pure] at p
    obtain ⟨a, vs, rfl, q, r⟩ := h
    rw [toPy]
    exact .tup q (RVs.dp ds vs p r)
  | .lit ds, v, p, h => by
    rw [RV] at h
    rw [D.pure] at p
    obtain ⟨a, vs, rfl, q, r⟩ := h
    rw [toPy]
    exact .lst q.sq (RVs.dp ds vs p r)
  | .loc _, v, p, _ => by rw [D.pure] at p; cases p
theorem RVs.dp : ∀ (ds : List D) (vs : List V), D.pureAll ds = true → RVs K β H ds vs → DpAll K H vs (toPys ds)
  | [], vs, _, h => by rw [RVs] at h; subst h; exact .nil
  | d :: ds, vs, p, h => by
    rw [RVs] at h
    rw [D.pureAll, Bool.and_eq_true] at p
    obtain ⟨v, r, rfl, h1, h2⟩ := h
    rw [toPys]
    exact .cons (RV.dp d v p.1 h1) (RVs.dp ds r p.2 h2)
end
theorem der_pure (r : RS K β S H) {d x : D} (h : der S d = some x) : x.pure = true := by
  cases d with
  | loc n =>
    simp only [der] at h
    split at h
    · rename_i xs e
      cases h
      obtain ⟨_, _, _, p, _⟩ := r.lst e
      rw [D.pure]; exact p
    · rename_i xs e
      cases h
      obtain ⟨_, _, _, p, _⟩ := r.frz e
      rw [D.pure]; exact p
    · cases h
  | _ =>
    simp only [der] at h
    split at h
    · rename_i p
      cases h
      exact p
    · cases h
theorem der_dp (r : RS K β S H) {d x : D} {v : V} (hv : RV K β H d v) (h : der S d = some x) : Dp K H v (toPy x) := by
  cases d with
  | loc n =>
    rw [RV] at hv
    obtain ⟨a, rfl, ha⟩ := hv
    have key : ∀ xs, S[n]? = some (.lst xs) ∨ S[n]? = some (.frz xs) → Dp K H (.ref a) (toPy (.lit xs)) := fun xs e => by
      obtain ⟨a', vs, ha', p, e', z⟩ := r.lstf e
      rw [ha] at ha'; cases ha'
      rw [toPy]
      exact .lst (.of e') (RVs.dp xs vs p z)
    simp only [der] at h
    split at h
    · rename_i xs e
      cases h
      exact key xs (.inl e)
    · rename_i xs e
      cases h
      exact key xs (.inr e)
    · cases h
  | _ =>
    simp only [der] at h
    split at h
    · rename_i p
      cases h
      exact RV.dp _ v p hv
    · cases h
end

/-! ### comparisons -/
def rC (K : PySem.W.Frag) (f : Store → D → D → Option Bool) : R2 := fun x y H Q => ∃ β S d1 d2 b, RS K β S H ∧ RV K β H d1 x ∧ RV K β H d2 y ∧ f S d1 d2 = some b ∧ Q (.bl b) H
section
variable {X : Cx}
theorem eqS_run {pins : List (Addr × Obj)} {s : Shared} {σ : L2.St} {H : Hp} {x y : V} {v u : Value} {β : List Addr} {S : Store} {d1 d2 : D} {b : Bool} (I : Inv X pins σ H s) (rx : RelV x v) (ry : RelV y u)
    (r : RS X.K β S H) (h1 : RV X.K β H d1 x) (h2 : RV X.K β H d2 y) (h : eqS S d1 d2 = some b) :
    ∃ da db as bs, Reads s.heap v da as ∧ Reads s.heap u db bs ∧ da.plain = true ∧ db.plain = true ∧ min da.depth db.depth ≤ 60 ∧ PyData.eqv da db = b := by
  unfold eqS at h
  split at h
  · rename_i a c e1 e2
    split at h
    · rename_i hc
      obtain ⟨as, q1⟩ := Dp.reads I _ x v (der_dp r h1 e1) rx
      obtain ⟨bs, q2⟩ := Dp.reads I _ y u (der_dp r h2 e2) ry
      refine ⟨_, _, as, bs, q1, q2, plain_toPy a, plain_toPy c, ?_, ?_⟩
      · rw [depth_toPy, depth_toPy]; exact of_decide_eq_true hc
      · rw [← eqD_py a c (der_pure r e1) (der_pure r e2)]
        exact Option.some.inj h
    · cases h
  · cases h
theorem op_eqE {k : Nat} (hr : Room k X.A) : OpR X (compareOp .Eq) (rC X.K eqS) := by
  intro pins s σ H x y v u Q I rx ry h
  obtain ⟨β, S, d1, d2, b, r, h1, h2, e, q⟩ := h
  obtain ⟨da, db, as, bs, q1, q2, p1, p2, hd, rfl⟩ := eqS_run I rx ry r h1 h2 e
  exact SeqAt.eq_plain q1 q2 p1 p2 (by have := hr.units; omega) ⟨.bl _, H, I, rfl, q⟩
theorem op_neE {k : Nat} (hr : Room k X.A) : OpR X (compareOp .NotEq) (rC X.K fun S a b => (eqS S a b).map (!·)) := by
  intro pins s σ H x y v u Q I rx ry h
  obtain ⟨β, S, d1, d2, b, r, h1, h2, e, q⟩ := h
  obtain ⟨c, e', rfl⟩ := Option.map_eq_some_iff.mp e
  obtain ⟨da, db, as, bs, q1, q2, p1, p2, hd, rfl⟩ := eqS_run I rx ry r h1 h2 e'
  exact SeqAt.ne_plain q1 q2 p1 p2 (by have := hr.units; omega) ⟨.bl _, H, I, rfl, q⟩
theorem ltN_eq : ∀ a b : List Nat, ltN a b = decide (a < b)
  | [], [] => by rw [ltN]; rfl
  | [], _ :: _ => by rw [ltN]; exact (decide_eq_true (List.nil_lt_cons _ _)).symm
  | _ :: _, [] => by rw [ltN]; exact (decide_eq_false (List.not_lt_nil _)).symm
  | x :: xs, y :: ys => by
    rw [ltN, ltN_eq xs ys]
    by_cases h1 : x < y
    · rw [if_pos h1]
      exact (decide_eq_true (List.cons_lt_cons_iff.mpr (.inl h1))).symm
    · rw [if_neg h1]
      by_cases h2 : x = y
      · rw [if_pos h2]
        subst h2
        simp [List.cons_lt_cons_iff]
      · rw [if_neg h2]
        refine (decide_eq_false fun z => ?_).symm
        rcases List.cons_lt_cons_iff.mp z with z | ⟨z, _⟩
        · exact h1 z
        · exact h2 z
theorem op_ltE : OpR X (compareOp .Lt) (rC X.K fun _ => ltO) := by
  intro pins s σ H x y v u Q I rx ry h
  obtain ⟨β, S, d1, d2, b, r, h1, h2, e, q⟩ := h
  simp only [ltO] at e
  split at e
  · rw [RV] at h1 h2
    subst h1 h2
    cases e
    exact op_lt pins s σ H _ _ v u Q I rx ry ⟨_, _, rfl, rfl, q⟩
  · rw [RV] at h1 h2
    subst h1 h2
    cases e
    refine op_lt_str pins s σ H _ _ v u Q I rx ry ⟨_, _, rfl, rfl, ?_⟩
    rw [ltN_eq] at q
    exact q
  · cases e
theorem op_gtE : OpR X (compareOp .Gt) (rC X.K fun _ a b => ltO b a) := by
  intro pins s σ H x y v u Q I rx ry h
  obtain ⟨β, S, d1, d2, b, r, h1, h2, e, q⟩ := h
  simp only [ltO] at e
  split at e
  · rw [RV] at h1 h2
    subst h1 h2
    cases e
    exact op_gt pins s σ H _ _ v u Q I rx ry ⟨_, _, rfl, rfl, q⟩
  · rw [RV] at h1 h2
    subst h1 h2
    cases e
    refine op_gt_str pins s σ H _ _ v u Q I rx ry ⟨_, _, rfl, rfl, ?_⟩
    rw [ltN_eq] at q
    exact q
  · cases e
theorem op_leE : OpR X (compareOp .LtE) (rC X.K fun _ => leO) := by
  intro pins s σ H x y v u Q I rx ry h
  obtain ⟨β, S, d1, d2, b, r, h1, h2, e, q⟩ := h
  simp only [leO] at e
  split at e
  · rw [RV] at h1 h2
    subst h1 h2
    cases e
    exact op_le pins s σ H _ _ v u Q I rx ry ⟨_, _, rfl, rfl, q⟩
  · rw [RV] at h1 h2
    subst h1 h2
    cases e
    refine op_le_str pins s σ H _ _ v u Q I rx ry ⟨_, _, rfl, rfl, ?_⟩
    rw [ltN_eq] at q
    exact q
  · cases e
theorem op_geE : OpR X (compareOp .GtE) (rC X.K fun _ a b => leO b a) := by
  intro pins s σ H x y v u Q I rx ry h
  obtain ⟨β, S, d1, d2, b, r, h1, h2, e, q⟩ := h
  simp only [leO] at e
  split at e
  · rw [RV] at h1 h2
    subst h1 h2
    cases e
    exact op_ge pins s σ H _ _ v u Q I rx ry ⟨_, _, rfl, rfl, q⟩
  · rw [RV] at h1 h2
    subst h1 h2
    cases e
    refine op_ge_str pins s σ H _ _ v u Q I rx ry ⟨_, _, rfl, rfl, ?_⟩
    rw [ltN_eq] at q
    exact q
  · cases e
theorem any_py {x : D} (hx : x.pure = true) : ∀ ys : List D, D.pureAll ys = true → ((toPys ys).any fun y => PyData.eqv y (toPy x)) = ys.any fun y => eqD y x
  | [], _ => rfl
  | y :: ys, h => by
    rw [D.pureAll, Bool.and_eq_true] at h
    rw [toPys, List.any_cons, List.any_cons, any_py hx ys h.2, eqD_py y x h.1 hx]
theorem inS_run {k : Nat} (hr : Room k X.A) {pins : List (Addr × Obj)} {s : Shared} {σ : L2.St} {H : Hp} {x y : V} {v u : Value} {β : List Addr} {S : Store} {d1 d2 : D} {b : Bool} (I : Inv X pins σ H s) (rx : RelV x v) (ry : RelV y u)
    (r : RS X.K β S H) (h1 : RV X.K β H d1 x) (h2 : RV X.K β H d2 y) (h : inS S d1 d2 = some b) :
    (∃ (c : Nat) (z : Str), x = .str ⟨#[c]⟩ ∧ y = .str z ∧ decide (c ∈ z.cps.toList) = b) ∨
    ∃ d ys as bs, Reads s.heap v d as ∧ (Reads s.heap u (.list ys) bs ∨ Reads s.heap u (.tuple ys) bs) ∧ d.plain = true ∧ PyData.plainAll ys = true ∧ d.depth ≤ 60 ∧ (ys.any fun y => PyData.eqv y d) = b := by
  have gen : ∀ {a : D} {ys : List D}, der S d1 = some a → (der S d2 = some (.lit ys) ∨ der S d2 = some (.tup ys)) → a.depth ≤ 60 → (ys.any fun y => eqD y a) = b →
      ∃ d ys as bs, Reads s.heap v d as ∧ (Reads s.heap u (.list ys) bs ∨ Reads s.heap u (.tuple ys) bs) ∧ d.plain = true ∧ PyData.plainAll ys = true ∧ d.depth ≤ 60 ∧ (ys.any fun y => PyData.eqv y d) = b := by
    intro a ys e1 e2 hd hb
    obtain ⟨as, q1⟩ := Dp.reads I _ x v (der_dp r h1 e1) rx
    have pa := der_pure r e1
    refine ⟨toPy a, toPys ys, as, ?_⟩
    rcases e2 with e2 | e2
    · obtain ⟨bs, q2⟩ := Dp.reads I _ y u (der_dp r h2 e2) ry
      have py := der_pure r e2
      rw [D.pure] at py
      rw [toPy] at q2
      exact ⟨bs, q1, .inl q2, plain_toPy a, plain_toPys ys, by rw [depth_toPy]; exact hd, by rw [any_py pa ys py]; exact hb⟩
    · obtain ⟨bs, q2⟩ := Dp.reads I _ y u (der_dp r h2 e2) ry
      have py := der_pure r e2
      rw [D.pure] at py
      rw [toPy] at q2
      exact ⟨bs, q1, .inr q2, plain_toPy a, plain_toPys ys, by rw [depth_toPy]; exact hd, by rw [any_py pa ys py]; exact hb⟩
  unfold inS at h
  split at h
  · rename_i a l
    split at h
    · rename_i hc
      left
      rw [RV] at h1 h2
      subst h1 h2
      obtain ⟨c, rfl⟩ : ∃ c, a = [c] := List.length_eq_one_iff.mp (eq_of_beq hc)
      refine ⟨c, sA l, rfl, rfl, ?_⟩
      have := Option.some.inj h
      rw [← this]
      simp
    · cases h
  · right
    split at h
    · rename_i a ys e1 e2
      split at h
      · rename_i hc
        exact gen e1 (.inl e2) (of_decide_eq_true hc) (Option.some.inj h)
      · cases h
    · rename_i a ys e1 e2
      split at h
      · rename_i hc
        exact gen e1 (.inr e2) (of_decide_eq_true hc) (Option.some.inj h)
      · cases h
    · cases h
theorem op_inE {k : Nat} (hr : Room k X.A) : OpR X (compareOp .In) (rC X.K inS) := by
  intro pins s σ H x y v u Q I rx ry h
  obtain ⟨β, S, d1, d2, b, r, h1, h2, e, q⟩ := h
  have hu := hr.units
  rcases inS_run hr I rx ry r h1 h2 e with ⟨c, z, rfl, rfl, rfl⟩ | ⟨d, ys, as, bs, q1, q2 | q2, p1, p2, hd, rfl⟩
  · exact op_in_sign pins s σ H _ _ v u Q I rx ry ⟨c, z, rfl, rfl, q⟩
  · exact SeqAt.in_list_data q2 q1 p2 p1 (by omega) ⟨.bl _, H, I, rfl, q⟩
  · exact SeqAt.in_tuple_data q2 q1 p2 p1 (by omega) ⟨.bl _, H, I, rfl, q⟩
theorem op_notInE {k : Nat} (hr : Room k X.A) : OpR X (compareOp .NotIn) (rC X.K fun S a b => (inS S a b).map (!·)) := by
  intro pins s σ H x y v u Q I rx ry h
  obtain ⟨β, S, d1, d2, b, r, h1, h2, e, q⟩ := h
  obtain ⟨c, e', rfl⟩ := Option.map_eq_some_iff.mp e
  have hu := hr.units
  rcases inS_run hr I rx ry r h1 h2 e' with ⟨c, z, rfl, rfl, rfl⟩ | ⟨d, ys, as, bs, q1, q2 | q2, p1, p2, hd, rfl⟩
  · exact op_notIn_sign pins s σ H _ _ v u Q I rx ry ⟨c, z, rfl, rfl, q⟩
  · exact SeqAt.notIn_list_data q2 q1 p2 p1 (by omega) ⟨.bl _, H, I, rfl, q⟩
  · exact SeqAt.notIn_tuple_data q2 q1 p2 p1 (by omega) ⟨.bl _, H, I, rfl, q⟩
theorem isS_run {K : PySem.W.Frag} {β : List Addr} {H : Hp} {d1 d2 : D} {x y : V} {b : Bool} (h1 : RV K β H d1 x) (h2 : RV K β H d2 y) (h : isS d1 d2 = some b) :
    (y = .non ∧ decide (x = .non) = b) ∨ ∃ p q, x = .bl p ∧ y = .bl q ∧ decide (p = q) = b := by
  unfold isS at h
  split at h
  · left
    rw [RV] at h2
    refine ⟨h2, ?_⟩
    have := Option.some.inj h
    rw [← this]
    cases d1 with
    | non => rw [RV] at h1; subst h1; rfl
    | bl _ => rw [RV] at h1; subst h1; rfl
    | int _ => rw [RV] at h1; subst h1; rfl
    | str _ => rw [RV] at h1; subst h1; rfl
    | tup _ => rw [RV] at h1; obtain ⟨_, _, rfl, _⟩ := h1; rfl
    | lit _ => rw [RV] at h1; obtain ⟨_, _, rfl, _⟩ := h1; rfl
    | loc _ => rw [RV] at h1; obtain ⟨_, rfl, _⟩ := h1; rfl
  · split at h
    · right
      rw [RV] at h1 h2
      refine ⟨_, _, h1, h2, ?_⟩
      rw [← Option.some.inj h, Bool.beq_eq_decide_eq]
    · cases h
  · cases h
theorem op_isE : OpR X (compareOp .Is) (rC X.K fun _ => isS) := by
  intro pins s σ H x y v u Q I rx ry h
  obtain ⟨β, S, d1, d2, b, r, h1, h2, e, q⟩ := h
  rcases isS_run h1 h2 e with ⟨rfl, rfl⟩ | ⟨p, q', rfl, rfl, rfl⟩
  · exact op_isN pins s σ H _ _ v u Q I rx ry ⟨rfl, q⟩
  · exact op_isBl pins s σ H _ _ v u Q I rx ry ⟨_, _, rfl, rfl, q⟩
theorem op_isnotE : OpR X (compareOp .IsNot) (rC X.K fun _ a b => (isS a b).map (!·)) := by
  intro pins s σ H x y v u Q I rx ry h
  obtain ⟨β, S, d1, d2, b, r, h1, h2, e, q⟩ := h
  obtain ⟨c, e', rfl⟩ := Option.map_eq_some_iff.mp e
  rcases isS_run h1 h2 e' with ⟨rfl, rfl⟩ | ⟨p, q', rfl, rfl, rfl⟩
  · exact op_notN pins s σ H _ _ v u Q I rx ry ⟨rfl, q⟩
  · exact op_notBl pins s σ H _ _ v u Q I rx ry ⟨_, _, rfl, rfl, q⟩
def copOf : Cop → CmpOp
  | .eq => .Eq | .ne => .NotEq | .lt => .Lt | .le => .LtE | .gt => .Gt | .ge => .GtE | .isin => .In | .notin => .NotIn | .is => .Is | .isnot => .IsNot
theorem op_cmpE {k : Nat} (hr : Room k X.A) (op : Cop) : OpR X (compareOp (copOf op)) (rC X.K fun S => cmpO S op) := by
  cases op with
  | eq => exact op_eqE hr
  | ne => exact op_neE hr
  | lt => exact op_ltE
  | le => exact op_leE
  | gt => exact op_gtE
  | ge => exact op_geE
  | isin => exact op_inE hr
  | notin => exact op_notInE hr
  | is => exact op_isE
  | isnot => exact op_isnotE
def bopOf : Bop → Operator
  | .add => .Add | .sub => .Sub | .mul => .Mult | .mod => .Mod | .fdiv => .FloorDiv
theorem op_binE {E : XW} (op : Bop) : OpR X (binaryOp (bopOf op)) (rD2 X.K E (binD op)) := by
  cases op with
  | add => exact op_addE
  | sub => exact op_subE
  | mul => exact op_mulE
  | mod => exact op_modE
  | fdiv => exact op_fdivE

/-! ### truth -/
theorem truth_run {K : PySem.W.Frag} {β : List Addr} {S : Store} {H : Hp} {d : D} {x : V} {b : Bool} (r : RS K β S H) (h : RV K β H d x) (e : truth S d = some b) : TruV K x H b := by
  cases d with
  | non => rw [RV] at h; subst h; cases e; exact rfl
  | bl _ => rw [RV] at h; subst h; cases e; exact rfl
  | int _ => rw [RV] at h; subst h; cases e; exact rfl
  | str s =>
    rw [RV] at h; subst h
    simp only [truth] at e
    split at e
    · rename_i hz
      cases e
      refine ⟨by rw [sA_len]; exact szOk_le hz, ?_⟩
      rw [sA_len]
      cases s <;> rfl
    · cases e
  | tup xs =>
    rw [RV] at h
    obtain ⟨a, vs, rfl, q, z⟩ := h
    cases e
    refine .inr (.inl ⟨vs, q, ?_⟩)
    have l := z.length
    cases vs <;> cases xs <;> first | rfl | (simp at l)
  | lit xs =>
    rw [RV] at h
    obtain ⟨a, vs, rfl, q, z⟩ := h
    cases e
    refine .inl ⟨vs, q.sq, ?_⟩
    have l := z.length
    cases vs <;> cases xs <;> first | rfl | (simp at l)
  | loc n =>
    rw [RV] at h
    obtain ⟨a, rfl, ha⟩ := h
    have key : ∀ xs, S[n]? = some (.lst xs) ∨ S[n]? = some (.frz xs) → b = !xs.isEmpty → TruV K (.ref a) H b := fun xs e hb => by
      obtain ⟨a', vs, ha', p, e', z⟩ := r.lstf e
      rw [ha] at ha'; cases ha'
      refine .inl ⟨vs, .of e', ?_⟩
      have l := z.length
      rw [hb]
      cases vs <;> cases xs <;> first | rfl | (simp at l)
    simp only [truth] at e
    split at e
    · rename_i xs e'
      cases e
      exact key xs (.inl e') rfl
    · rename_i xs e'
      cases e
      exact key xs (.inr e') rfl
    · cases e
end
end Ev
set_option Elab.async false
set_option linter.all false
set_option maxRecDepth 100000
/-! Eng4: subscripts, slices, sorting. -/
namespace Ev
open PySem L2
open PyProof.Rows (itemOrd)

theorem atZ_eq {α : Type} (xs : List α) (i : Int) : atZ xs i = atI xs i := by
  unfold atZ atI ixN
  split
  · split
    · rfl
    · rfl
  · split
    · rfl
    · rfl
theorem RVs.atI {K : PySem.W.Frag} {β : List Addr} {H : Hp} {ds : List D} {vs : List V} (h : RVs K β H ds vs) {i : Int} {d : D} (e : atZ ds i = some d) : ∃ v, L2.atI vs i = some v ∧ RV K β H d v := by
  rw [atZ_eq] at e
  unfold L2.atI at e ⊢
  rw [h.length]
  cases q : ixN ds.length i with
  | none => rw [q] at e; cases e
  | some j =>
    rw [q] at e
    exact h.get e
/-- a text-keyed dict -/
theorem RKs.find {K : PySem.W.Frag} {β : List Addr} {H : Hp} {s : List Nat} : ∀ {kvs : List (D × D)} {gs : List (Key × V)}, RKs K β H kvs gs → ∀ {d : D}, (kvs.find? fun kv => eqD kv.1 (.str s)).map (·.2) = some d →
    ∃ v, valV gs (.inr (sA s)) = some v ∧ RV K β H d v
  | [], gs, h, d, e => by simp at e
  | (k, x) :: r, gs, h, d, e => by
    rw [RKs] at h
    obtain ⟨t, v, g, rfl, rfl, h1, h2⟩ := h
    by_cases q : t = s
    · subst q
      have : eqD (.str t) (.str t) = true := by rw [eqD]; simp
      rw [List.find?_cons_of_pos (by exact this)] at e
      cases e
      exact ⟨v, valV_pos rfl, h1⟩
    · have : eqD (.str t) (.str s) = false := by rw [eqD]; exact beq_eq_false_iff_ne.mpr q
      rw [List.find?_cons_of_neg (by rw [this]; exact Bool.false_ne_true)] at e
      have ne : ¬ (Sum.inr (sA t) : Key) = Sum.inr (sA s) := fun z => q (by
        have := congrArg TL.tl (Sum.inr.inj z)
        simpa [TL.tl] using this)
      rw [valV_neg ne]
      exact RKs.find h2 e
theorem RKs.findN {K : PySem.W.Frag} {β : List Addr} {H : Hp} {s : List Nat} : ∀ {kvs : List (D × D)} {gs : List (Key × V)}, RKs K β H kvs gs → (kvs.find? fun kv => eqD kv.1 (.str s)).map (·.2) = none → valV gs (.inr (sA s)) = none
  | [], gs, h, e => by rw [RKs] at h; subst h; exact valV_nil
  | (k, x) :: r, gs, h, e => by
    rw [RKs] at h
    obtain ⟨t, v, g, rfl, rfl, h1, h2⟩ := h
    by_cases q : t = s
    · subst q
      have : eqD (.str t) (.str t) = true := by rw [eqD]; simp
      rw [List.find?_cons_of_pos (by exact this)] at e
      cases e
    · have : eqD (.str t) (.str s) = false := by rw [eqD]; exact beq_eq_false_iff_ne.mpr q
      rw [List.find?_cons_of_neg (by rw [this]; exact Bool.false_ne_true)] at e
      have ne : ¬ (Sum.inr (sA t) : Key) = Sum.inr (sA s) := fun z => q (by
        have := congrArg TL.tl (Sum.inr.inj z)
        simpa [TL.tl] using this)
      rw [valV_neg ne]
      exact RKs.findN h2 e

section
variable {X : Cx} {E : XW}
theorem ix_dict {k : Nat} (hr : Room k X.A) : IxR X (fun x y H Q => ∃ a v, x = .ref a ∧ DGet H a y (some v) ∧ Q v H) := by
  intro value slice pins s σ H x y v u Q I rx ry h hs
  obtain ⟨a, z, rfl, g, q⟩ := h
  obtain rfl : v = Value.ref a := rx
  have hT := dict_typeIs I g
  have h₂ : wpAny (model X.prog X.w) X.A (getItem (.ref a) u) (EP X pins σ Q) X.xe s := d_getItem (hu_of hr) I g ry fun w' s3 I3 rw' => ⟨z, H, I3, rw', q⟩
  unfold PyProof.Rows.subscriptTail
  refine wpAny_bind ?_
  rw [getitemInPython_of_ne hT.not_modules]
  refine wpAny_bind (wpAny_specialOf hT PySem.F.slot_dict_getitem.lookup ?_)
  have fin : wpAny (model X.prog X.w) X.A (subscripted slice false (.ref a) u) (fun r s₃ => wpAny (model X.prog X.w) X.A (letTemporaryGo value (.ref a) r >>= fun _ => pure r) (EP X pins σ Q) X.xe s₃) X.xe s := by
    rw [hs]
    exact wpAny_operating (wpAny_mono h₂ (fun r s₃ h₃ => wpAny_bind (wpAny_letTemporaryGo (wpAny_pure h₃))) fun _ _ x => x)
  first
    | exact wpAny_pure (wpAny_bind fin)
    | exact wpAny_bind (wpAny_pure (wpAny_bind fin))
    | exact wpAny_bind fin
theorem ix_E {k : Nat} (hr : Room k X.A) : IxR X (rD2 X.K E idxD) := by
  intro value slice pins s σ H x y v u Q I rx ry h hs
  obtain ⟨σ', β, S, d1, d2, r, h1, h2, q⟩ := h
  have seq : ∀ {ds : List D} {vs : List V} {a : Addr} {i : Int}, x = .ref a → y = .int i → (SqL X.K H a vs ∨ SqT X.K H a vs) → RVs X.K β H ds vs → PV X.K E σ' β S H (retO (atZ ds i) S) Q →
      wpAny (model X.prog X.w) X.A (PyProof.Rows.subscriptTail value slice v u) (EP X pins σ Q) X.xe s := by
    intro ds vs a i e1 e2 sq z q
    cases e : atZ ds i with
    | none => rw [e] at q; exact q.elim
    | some d =>
      rw [e] at q
      obtain ⟨w, g, rw'⟩ := z.atI e
      rcases sq with sq | sq
      · exact ix_list value slice pins s σ H x y v u Q I rx ry ⟨a, vs, i, w, e1, e2, sq, g, q.now r rw'⟩ hs
      · exact ix_tup value slice pins s σ H x y v u Q I rx ry ⟨a, vs, i, w, e1, e2, sq, g, q.now r rw'⟩ hs
  unfold idxD at q
  split at q
  · rename_i i
    rw [RV] at h2
    split at q
    · rw [RV] at h1
      obtain ⟨a, vs, e, sq, z⟩ := h1
      exact seq e h2 (.inr sq) z q
    · rename_i t
      rw [RV] at h1
      split at q
      · rename_i hz
        cases e : atZ t i with
        | none => rw [e] at q; exact q.elim
        | some c =>
          rw [e] at q
          refine ix_str value slice pins s σ H x y v u Q I rx ry ⟨sA t, i, c, h1, h2, by rw [sA_len]; exact szOk_le hz, ?_, q.now r (by rw [RV])⟩ hs
          rw [atZ_eq] at e
          exact e
      · exact q.elim
    · rw [RV] at h1
      obtain ⟨a, vs, e, sq, z⟩ := h1
      exact seq e h2 (.inl sq.sq) z q
    · rename_i n
      rw [RV] at h1
      obtain ⟨a, e, ha⟩ := h1
      split at q
      · rename_i xs g
        obtain ⟨a', vs, ha', _, e', z⟩ := r.lst g
        rw [ha] at ha'; cases ha'
        exact seq e h2 (.inl (.of e')) z q
      · rename_i xs g
        obtain ⟨a', vs, ha', _, e', z⟩ := r.frz g
        rw [ha] at ha'; cases ha'
        exact seq e h2 (.inl (.of e')) z q
      · exact q.elim
    · exact q.elim
  · rename_i i
    rw [RV] at h2
    split at q
    · rename_i n
      rw [RV] at h1
      obtain ⟨a, e, ha⟩ := h1
      have dct : ∀ kvs, RO X.K β H (.dic kvs) a → PV X.K E σ' β S H (retO ((kvs.find? fun kv => eqD kv.1 (.str i)).map (·.2)) S) Q →
          wpAny (model X.prog X.w) X.A (PyProof.Rows.subscriptTail value slice v u) (EP X pins σ Q) X.xe s := by
        intro kvs ro q
        obtain ⟨gs, e', z⟩ := ro
        cases g : (kvs.find? fun kv => eqD kv.1 (.str i)).map (·.2) with
        | none => rw [g] at q; exact q.elim
        | some d =>
          rw [g] at q
          obtain ⟨w, g', rw'⟩ := z.find g
          refine ix_dict hr value slice pins s σ H x y v u Q I rx ry ⟨a, w, e, ?_, q.now r rw'⟩ hs
          rw [← g', h2]
          exact DGet.k (k := .inr (sA i)) e'
      split at q
      · rename_i kvs g
        obtain ⟨a', ha', ro⟩ := r.at g
        rw [ha] at ha'; cases ha'
        exact dct kvs ro q
      · rename_i kvs g
        obtain ⟨a', ha', ro⟩ := r.at g
        rw [ha] at ha'; cases ha'
        exact dct kvs ro q
      · exact q.elim
    · exact q.elim
  · exact q.elim

/-! ### slices -/
theorem cutIx_eq (n d : Nat) (o : Option Int) : cutIx n d o = HT.sIx n d o := by
  unfold cutIx HT.sIx
  rfl
theorem cutL_V (vs : List V) (lo hi : Option Int) : cutL vs lo hi = cutV vs lo hi := rfl
theorem RVs.cut {K : PySem.W.Frag} {β : List Addr} {H : Hp} {ds : List D} {vs : List V} (h : RVs K β H ds vs) (lo hi : Option Int) : RVs K β H (cutL ds lo hi) (cutV vs lo hi) := by
  unfold cutL cutV
  rw [h.length]
  exact RVs.take _ (RVs.drop _ h)
def rSlE (K : PySem.W.Frag) (E : XW) : V → Option Int → Option Int → Hp → VK → Prop := fun x l h H Q => ∃ σ β S d, RS K β S H ∧ RV K β H d x ∧ PV K E σ β S H (slcD d l h S) Q
theorem sl_E : SlR X (rSlE X.K E) := by
  intro pins s σ H x v vl vu lo hi sl Q I rx hs pl pu h
  obtain ⟨σ', β, S, d, r, hv, q⟩ := h
  unfold slcD at q
  split at q
  · rename_i ds
    rw [RV] at hv
    obtain ⟨a, vs, e, sq, z⟩ := hv
    refine sl_tupA pins s σ H x v vl vu lo hi sl Q I rx hs pl pu ⟨a, vs, e, sq, fun hw => ?_, fun hw p hp => q.newTup r (z.cut lo hi) hp⟩
    refine q.now r ?_
    rw [RV]
    have : cutL ds lo hi = ds := by
      unfold cutL
      rw [cutIx_eq, cutIx_eq, ← z.length, hw.1, hw.2, z.length]
      simp
    rw [this]
    exact ⟨a, vs, rfl, sq, z⟩
  · rename_i t
    rw [RV] at hv
    split at q
    · rename_i hz
      refine sl_str pins s σ H x v vl vu lo hi sl Q I rx hs pl pu ⟨sA t, hv, by rw [sA_len]; exact szOk_le hz, q.now r ?_⟩
      rw [RV]
      unfold cutS cutL
      rw [sA_len]
      rfl
    · exact q.elim
  · split at q
    · rename_i xs e
      obtain ⟨a, vs, rfl, sq, z⟩ := r.list hv e
      exact sl_list pins s σ H _ v vl vu lo hi sl Q I rx hs pl pu ⟨a, vs, rfl, sq, fun p hp => q.newList r (z.cut lo hi) hp⟩
    · exact q.elim
end

/-! ### sorting -/
section
variable {α : Type} {le : α → α → Bool}
theorem insP (le : D → D → Bool) (t : PySem.W.TotalLe le) (x : D) : ∀ ys : List D, ys.Pairwise (fun a b => le a b = true) → (insD le x ys).Pairwise (fun a b => le a b = true) ∧ ∀ z, z ∈ insD le x ys → z = x ∨ z ∈ ys
  | [], _ => ⟨by rw [insD]; exact List.pairwise_singleton _ _, fun z hz => by rw [insD] at hz; exact .inl (List.mem_singleton.mp hz)⟩
  | y :: ys, h => by
    rw [insD]
    obtain ⟨h1, h2⟩ := List.pairwise_cons.mp h
    split
    · rename_i q
      refine ⟨List.pairwise_cons.mpr ⟨fun z hz => ?_, h⟩, fun z hz => List.mem_cons.mp hz⟩
      rcases List.mem_cons.mp hz with rfl | hz
      · exact q
      · exact t.trans _ _ _ q (h1 z hz)
    · rename_i q
      obtain ⟨p1, p2⟩ := insP le t x ys h2
      have yx : le y x = true := (t.total x y).resolve_left (fun z => q z)
      refine ⟨List.pairwise_cons.mpr ⟨fun z hz => ?_, p1⟩, fun z hz => ?_⟩
      · rcases p2 z hz with rfl | hz
        · exact yx
        · exact h1 z hz
      · rcases List.mem_cons.mp hz with rfl | hz
        · exact .inr (List.mem_cons_self)
        · rcases p2 z hz with hz | hz
          · exact .inl hz
          · exact .inr (List.mem_cons_of_mem _ hz)
theorem insF (le : D → D → Bool) (t : PySem.W.TotalLe le) (x c : D) : ∀ ys : List D, ys.Pairwise (fun a b => le a b = true) → (insD le x ys).filter (PySem.W.sameRank le c) = (x :: ys).filter (PySem.W.sameRank le c)
  | [], _ => rfl
  | y :: ys, h => by
    rw [insD]
    obtain ⟨h1, h2⟩ := List.pairwise_cons.mp h
    split
    · rfl
    · rename_i q
      have ih := insF le t x c ys h2
      rw [List.filter_cons, ih]
      by_cases hx : PySem.W.sameRank le c x = true
      · have hy : PySem.W.sameRank le c y = false := by
          cases hy : PySem.W.sameRank le c y with
          | false => rfl
          | true =>
            unfold PySem.W.sameRank at hx hy
            rw [Bool.and_eq_true] at hx hy
            exact absurd (t.trans _ _ _ hx.2 hy.1) q
        rw [hy, List.filter_cons, List.filter_cons, List.filter_cons, hx, hy]
        rfl
      · have hx' : PySem.W.sameRank le c x = false := by simpa using hx
        simp only [List.filter_cons, hx']
        rfl
theorem isort_eq (le : D → D → Bool) (t : PySem.W.TotalLe le) (l : List D) : isort le l = l.mergeSort le := by
  have key : ∀ l : List D, (isort le l).Pairwise (fun a b => le a b = true) ∧ ∀ c, (isort le l).filter (PySem.W.sameRank le c) = l.filter (PySem.W.sameRank le c) := by
    intro l
    induction l with
    | nil => exact ⟨.nil, fun _ => rfl⟩
    | cons x xs ih =>
      rw [isort]
      refine ⟨(insP le t x _ ih.1).1, fun c => ?_⟩
      rw [insF le t x c _ ih.1, List.filter_cons, List.filter_cons, ih.2 c]
  exact PySem.W.sort_unique t (key l).1 (key l).2
end
mutual
theorem alike_py : ∀ a b : D, alikeD a b = true → PySem.W.alike (toPy a) (toPy b) = true
  | .non, b, h => by cases b <;> first | rfl | (exact nomatch h)
  | .bl _, b, h => by cases b <;> first | rfl | (exact nomatch h)
  | .int _, b, h => by cases b <;> first | rfl | (exact nomatch h)
  | .str _, b, h => by cases b <;> first | rfl | (exact nomatch h)
  | .tup xs, b, h => by
    cases b with
    | tup ys => rw [alikeD] at h; rw [toPy, toPy, PySem.W.alike]; exact alikes_py xs ys h
    | _ => exact nomatch h
  | .lit xs, b, h => by cases b <;> exact nomatch h
  | .loc xs, b, h => by cases b <;> exact nomatch h
theorem alikes_py : ∀ a b : List D, alikeDs a b = true → PySem.W.alikeAll (toPys a) (toPys b) = true
  | [], _, _ => by rw [toPys, PySem.W.alikeAll]
  | _ :: _, [], _ => by rw [toPys, toPys, PySem.W.alikeAll]
  | x :: xs, y :: ys, h => by
    rw [alikeDs, Bool.and_eq_true] at h
    rw [toPys, toPys, PySem.W.alikeAll, alike_py x y h.1, alikes_py xs ys h.2]
    rfl
end
mutual
theorem lt_py : ∀ a b : D, a.pure = true → b.pure = true → alikeD a b = true → ltD a b = PySem.W.dataLt (toPy a) (toPy b)
  | .non, b, _, _, h => by cases b <;> first | rfl | (exact nomatch h)
  | .bl x, b, _, _, h => by
    cases b with
    | bl y => rw [toPy, toPy, PySem.W.dataLt_bool]; cases x <;> cases y <;> rfl
    | _ => exact nomatch h
  | .int _, b, _, _, h => by
    cases b with
    | int y => rw [toPy, toPy, PySem.W.dataLt_int, ltD]
    | _ => exact nomatch h
  | .str _, b, _, _, h => by
    cases b with
    | str y => rw [toPy, toPy, PySem.W.dataLt_str, ltD, ltN_eq]
    | _ => exact nomatch h
  | .tup xs, b, pa, pb, h => by
    cases b with
    | tup ys =>
      rw [alikeD] at h
      rw [D.pure] at pa pb
      rw [toPy, toPy, PySem.W.dataLt_tuple, ltD]; exact lts_py xs ys pa pb h
    | _ => exact nomatch h
  | .lit xs, b, _, _, h => by cases b <;> exact nomatch h
  | .loc xs, b, _, _, h => by cases b <;> exact nomatch h
theorem lts_py : ∀ a b : List D, D.pureAll a = true → D.pureAll b = true → alikeDs a b = true → ltDs a b = PyProof.Rows.lexLt itemOrd (PySem.W.keyToksAll (toPys a)) (PySem.W.keyToksAll (toPys b))
  | [], [], _, _, _ => rfl
  | [], y :: ys, _, _, _ => by
    rw [ltDs, toPys, toPys, PySem.W.keyToksAll, PySem.W.toks_all_cons]
    rw [PySem.W.lex_atom (by intro z; cases z), PySem.W.lex_one]
    rfl
  | x :: xs, [], _, _, _ => by
    rw [ltDs, toPys, toPys, PySem.W.keyToksAll, PySem.W.keyToksAll]
    rw [PySem.W.lex_atom (by intro z; cases z), PySem.W.lex_one]
    rfl
  | x :: xs, y :: ys, pa, pb, h => by
    rw [alikeDs, Bool.and_eq_true] at h
    rw [D.pureAll, Bool.and_eq_true] at pa pb
    rw [ltDs, toPys, toPys, PySem.W.dataLt_cons (alike_py x y h.1), eqD_py x y pa.1 pb.1, lts_py xs ys pa.2 pb.2 h.2, lt_py x y pa.1 pb.1 h.1]
end
end Ev
set_option Elab.async false
set_option linter.all false
set_option maxRecDepth 100000
/-! Eng5: built-in functions. -/
namespace Ev
open PySem L2

theorem all_mem {xs : List D} {p : D → Bool} (h : xs.all p = true) {x : D} (hx : x ∈ xs) : p x = true := List.all_eq_true.mp h x hx
theorem pureAll_mem : ∀ {xs : List D}, D.pureAll xs = true → ∀ {x : D}, x ∈ xs → x.pure = true
  | y :: ys, h, x, hx => by
    rw [D.pureAll, Bool.and_eq_true] at h
    rcases List.mem_cons.mp hx with rfl | hx
    · exact h.1
    · exact pureAll_mem h.2 hx
theorem pureAll_of : ∀ {xs : List D}, (∀ x ∈ xs, x.pure = true) → D.pureAll xs = true
  | [], _ => rfl
  | y :: ys, h => by
    rw [D.pureAll, h y List.mem_cons_self, pureAll_of fun x hx => h x (List.mem_cons_of_mem _ hx)]
    rfl
def pyLe : D → D → Bool := PySem.W.dataLe false toPy
theorem pyLe_total : PySem.W.TotalLe pyLe := by
  unfold pyLe PySem.W.dataLe
  exact PySem.W.sortLe_total _ _ _
theorem isort_congr {le le' : D → D → Bool} : ∀ {xs : List D}, (∀ a ∈ xs, ∀ b ∈ xs, le a b = le' a b) → isort le xs = isort le' xs ∧ ∀ z, z ∈ isort le xs → z ∈ xs
  | [], _ => ⟨rfl, fun _ h => h⟩
  | x :: xs, h => by
    obtain ⟨e, m⟩ := isort_congr (xs := xs) fun a ha b hb => h a (List.mem_cons_of_mem _ ha) b (List.mem_cons_of_mem _ hb)
    rw [isort, isort, ← e]
    have key : ∀ ys : List D, (∀ z ∈ ys, z ∈ xs) → insD le x ys = insD le' x ys ∧ ∀ z, z ∈ insD le x ys → z = x ∨ z ∈ ys := by
      intro ys
      induction ys with
      | nil => intro _; exact ⟨rfl, fun z hz => by rw [insD] at hz; exact .inl (List.mem_singleton.mp hz)⟩
      | cons y ys ih =>
        intro hy
        obtain ⟨i1, i2⟩ := ih fun z hz => hy z (List.mem_cons_of_mem _ hz)
        rw [insD, insD, ← h x List.mem_cons_self y (List.mem_cons_of_mem _ (hy y List.mem_cons_self)), ← i1]
        refine ⟨rfl, fun z hz => ?_⟩
        split at hz
        · exact List.mem_cons.mp hz
        · rcases List.mem_cons.mp hz with rfl | hz
          · exact .inr List.mem_cons_self
          · rcases i2 z hz with hz | hz
            · exact .inl hz
            · exact .inr (List.mem_cons_of_mem _ hz)
    obtain ⟨k1, k2⟩ := key _ m
    refine ⟨k1, fun z hz => ?_⟩
    rcases k2 z hz with hz | hz
    · rw [hz]; exact List.mem_cons_self
    · exact List.mem_cons_of_mem _ (m z hz)
theorem sortO_py {xs ys : List D} (p : D.pureAll xs = true) (h : sortO xs = some ys) :
    ys = xs.mergeSort pyLe ∧ PySem.W.AllAlike (xs.map toPy) ∧ PySem.W.Sortable (xs.map toPy) ∧ ∀ x ∈ xs, (toPy x).depth ≤ 60 := by
  unfold sortO at h
  split at h
  · rename_i hc
    rw [Bool.and_eq_true, Bool.and_eq_true] at hc
    obtain ⟨⟨c1, c2⟩, c3⟩ := hc
    have al : ∀ a ∈ xs, ∀ b ∈ xs, alikeD a b = true := fun a ha b hb => all_mem (all_mem c1 ha) hb
    refine ⟨?_, fun d hd d' hd' => ?_, ?_, fun x hx => ?_⟩
    · rw [← Option.some.inj h]
      rw [(isort_congr (le := leD) (le' := pyLe) fun a ha b hb => ?_).1, isort_eq _ pyLe_total]
      show (!ltD b a) = !PySem.W.dataLt (toPy b) (toPy a)
      rw [lt_py b a (pureAll_mem p hb) (pureAll_mem p ha) (al b hb a ha)]
    · obtain ⟨a, ha, rfl⟩ := List.mem_map.mp hd
      obtain ⟨b, hb, rfl⟩ := List.mem_map.mp hd'
      exact alike_py a b (al a ha b hb)
    · cases xs with
      | nil => exact .inl fun d hd => nomatch hd
      | cons x0 r0 =>
        have h0 : ∀ a ∈ x0 :: r0, alikeD x0 a = true := fun a ha => al x0 List.mem_cons_self a ha
        have hne : ∀ a ∈ x0 :: r0, nonempT a = true := fun a ha => all_mem c2 ha
        cases x0 with
        | tup t0 =>
          refine .inl fun d hd => ?_
          obtain ⟨a, ha, rfl⟩ := List.mem_map.mp hd
          have q := h0 a ha
          have q2 := hne a ha
          cases a with
          | tup t =>
            cases t with
            | nil => exact nomatch q2
            | cons z zs => exact ⟨_, _, by rw [toPy, toPys]⟩
          | _ => exact nomatch q
        | non => exact nomatch hne _ List.mem_cons_self
        | bl _ =>
          refine .inr fun d hd => ?_
          obtain ⟨a, ha, rfl⟩ := List.mem_map.mp hd
          have q := h0 a ha
          cases a with
          | bl _ => exact ⟨by rw [toPy]; exact (fun z => nomatch z), fun xs => by rw [toPy]; exact (fun z => nomatch z)⟩
          | _ => exact nomatch q
        | int _ =>
          refine .inr fun d hd => ?_
          obtain ⟨a, ha, rfl⟩ := List.mem_map.mp hd
          have q := h0 a ha
          cases a with
          | int _ => exact ⟨by rw [toPy]; exact (fun z => nomatch z), fun xs => by rw [toPy]; exact (fun z => nomatch z)⟩
          | _ => exact nomatch q
        | str _ =>
          refine .inr fun d hd => ?_
          obtain ⟨a, ha, rfl⟩ := List.mem_map.mp hd
          have q := h0 a ha
          cases a with
          | str _ => exact ⟨by rw [toPy]; exact (fun z => nomatch z), fun xs => by rw [toPy]; exact (fun z => nomatch z)⟩
          | _ => exact nomatch q
        | lit _ => exact nomatch h0 _ List.mem_cons_self
        | loc _ => exact nomatch h0 _ List.mem_cons_self
    · rw [depth_toPy]; exact of_decide_eq_true (all_mem c3 hx)
  · cases h

section
variable {K : PySem.W.Frag} {β : List Addr} {H : Hp}
/-- values and data together -/
theorem each_of : ∀ {ds : List D} {xs : List V} {us : List Value}, RVs K β H ds xs → Vals xs us → PySem.W.EachIs (fun u d => ∃ x, RelV x u ∧ RV K β H d x) us ds
  | [], xs, us, h, r => by
    rw [RVs] at h; subst h
    cases r
    exact .nil
  | d :: ds, xs, us, h, r => by
    rw [RVs] at h
    obtain ⟨x, t, rfl, h1, h2⟩ := h
    cases r with
    | cons r1 r2 => exact .cons ⟨x, r1, h1⟩ (each_of h2 r2)
theorem of_each : ∀ {us : List Value} {ds : List D}, PySem.W.EachIs (fun u d => ∃ x, RelV x u ∧ RV K β H d x) us ds → ∃ xs, Vals xs us ∧ RVs K β H ds xs
  | _, _, .nil => ⟨[], .nil, RVs.nil⟩
  | _, _, .cons ⟨x, h1, h2⟩ t => by
    obtain ⟨xs, r1, r2⟩ := of_each t
    exact ⟨x :: xs, .cons h1 r1, RVs.cons h2 r2⟩
end
section
variable {X : Cx} {E : XW}
/-- sorted(xs) of a list -/
theorem sorted_run {k : Nat} (hr : Room k X.A) {pins : List (Addr × Obj)} {s : Shared} {σ σ' : L2.St} {H : Hp} {β : List Addr} {S : Store} {ds ys : List D} {a : Addr} {vs : List V} {Q : VK} (I : Inv X pins σ H s)
    (r : RS X.K β S H) (p : D.pureAll ds = true) (sq : SqL X.K H a vs) (z : RVs X.K β H ds vs) (e : sortO ds = some ys) (q : PV X.K E σ' β S H (newL ys S) Q) :
    wpAny (model X.prog X.w) X.A (call (.builtin "sorted") [.ref a]) (EP X pins σ Q) X.xe s := by
  obtain ⟨ey, al, so, dp⟩ := sortO_py p e
  obtain ⟨its, rv, pl, hz⟩ := I.list sq
  have er : PySem.W.EachIs (fun v b => ∃ as, Reads s.heap v (toPy b) as) its ds := by
    have : ∀ {ds : List D} {vs : List V} {its : List Value}, D.pureAll ds = true → RVs X.K β H ds vs → Vals vs its → PySem.W.EachIs (fun v b => ∃ as, Reads s.heap v (toPy b) as) its ds := by
      intro ds
      induction ds with
      | nil =>
        intro vs its _ h r
        rw [RVs] at h; subst h
        cases r
        exact .nil
      | cons d ds ih =>
        intro vs its p h r
        rw [RVs] at h
        rw [D.pureAll, Bool.and_eq_true] at p
        obtain ⟨x, t, rfl, h1, h2⟩ := h
        cases r with
        | cons r1 r2 => exact .cons (Dp.reads I _ x _ (RV.dp d x p.1 h1) r1) (ih p.2 h2 r2)
    exact this p z rv
  have hl : s.heap.IsList a its.toArray := by
    obtain ⟨o, n, e1, e2, _, e3⟩ := pl
    exact ⟨o, e1, e2, n, e3⟩
  have hu := hr.units
  refine PySem.W.sorted_data (bs := ds) (enc := toPy) hl (each_of z rv) er al so (by rw [← z.length]; exact hz) (fun b hb => by have := dp b hb; omega) fun out ho eo => ?_
  obtain ⟨xs, rx, zx⟩ := of_each eo
  have ey' : ys = ds.mergeSort (PySem.W.dataLe false toPy) := ey
  rw [← ey'] at zx
  obtain ⟨c, hc⟩ := PyProof.Rows.sortedAll_at s.heap its out.toArray
  have np : H (s.heap.objs.size + 1) = none := I.hok.fresh (Nat.le_succ _)
  have I2 : Inv X pins σ (upd H (s.heap.objs.size + 1) (.lst xs)) { s with heap := PyProof.Rows.sortedAll s.heap its out.toArray, toks := s.toks } := by
    refine I.laid (fun b u hb => PyProof.Rows.sortedAll_old hb) (Nat.le_succ _) ⟨?_, out, c, rx, hc⟩
    rw [zx.length]
    exact (newL_len q).2
  exact ⟨.ref (s.heap.objs.size + 1), _, I2, rfl, q.newList r zx np⟩
end
end Ev
set_option Elab.async false
set_option linter.all false
set_option maxRecDepth 100000
/-! Eng6: built-in functions and methods, by values. -/
namespace Ev
open PySem L2

theorem blsOf_map : ∀ {xs : List D} {bs : List Bool}, blsOf xs = some bs → xs = bs.map .bl
  | [], bs, h => by cases h; rfl
  | .bl b :: r, bs, h => by
    rw [blsOf] at h
    obtain ⟨c, e, rfl⟩ := Option.map_eq_some_iff.mp h
    rw [blsOf_map e]; rfl
  | .non :: _, bs, h => nomatch h
  | .int _ :: _, bs, h => nomatch h
  | .str _ :: _, bs, h => nomatch h
  | .tup _ :: _, bs, h => nomatch h
  | .lit _ :: _, bs, h => nomatch h
  | .loc _ :: _, bs, h => nomatch h
theorem strsOf_map : ∀ {xs : List D} {bs : List (List Nat)}, strsOf xs = some bs → xs = bs.map .str
  | [], bs, h => by cases h; rfl
  | .str b :: r, bs, h => by
    rw [strsOf] at h
    obtain ⟨c, e, rfl⟩ := Option.map_eq_some_iff.mp h
    rw [strsOf_map e]; rfl
  | .non :: _, bs, h => nomatch h
  | .int _ :: _, bs, h => nomatch h
  | .bl _ :: _, bs, h => nomatch h
  | .tup _ :: _, bs, h => nomatch h
  | .lit _ :: _, bs, h => nomatch h
  | .loc _ :: _, bs, h => nomatch h
section
variable {K : PySem.W.Frag} {β : List Addr} {S : Store} {H : Hp}
theorem RVs.bls : ∀ {bs : List Bool} {vs : List V}, RVs K β H (bs.map .bl) vs → vs = bs.map V.bl
  | [], vs, h => by rw [List.map_nil, RVs] at h; exact h
  | b :: bs, vs, h => by
    rw [List.map_cons, RVs] at h
    obtain ⟨v, r, rfl, h1, h2⟩ := h
    rw [RV] at h1
    rw [h1, RVs.bls h2]; rfl
theorem RVs.strs : ∀ {bs : List (List Nat)} {vs : List V}, RVs K β H (bs.map .str) vs → vs = (bs.map sA).map V.str
  | [], vs, h => by rw [List.map_nil, RVs] at h; exact h
  | b :: bs, vs, h => by
    rw [List.map_cons, RVs] at h
    obtain ⟨v, r, rfl, h1, h2⟩ := h
    rw [RV] at h1
    rw [h1, RVs.strs h2]; rfl
theorem RVs.ofStrs : ∀ (bs : List (List Nat)), RVs K β H (bs.map .str) ((bs.map sA).map V.str)
  | [] => RVs.nil
  | b :: bs => RVs.cons (by rw [RV]) (RVs.ofStrs bs)
theorem RVs.one_of {d : D} {xs : List V} (h : RVs K β H [d] xs) : ∃ v, xs = [v] ∧ RV K β H d v := by
  rw [RVs] at h
  obtain ⟨v, r, rfl, h1, h2⟩ := h
  rw [RVs] at h2
  subst h2
  exact ⟨v, rfl, h1⟩
theorem RVs.two_of {d e : D} {xs : List V} (h : RVs K β H [d, e] xs) : ∃ v w, xs = [v, w] ∧ RV K β H d v ∧ RV K β H e w := by
  rw [RVs] at h
  obtain ⟨v, r, rfl, h1, h2⟩ := h
  obtain ⟨w, rfl, h3⟩ := RVs.one_of h2
  exact ⟨v, w, rfl, h1, h3⟩
theorem RS.seq (r : RS K β S H) {d : D} {v : V} {xs : List D} (hv : RV K β H d v) (h : seqOf S d = some xs) : ∃ a vs, v = .ref a ∧ (SqL K H a vs ∨ SqT K H a vs) ∧ RVs K β H xs vs := by
  cases d with
  | tup ys =>
    obtain rfl : ys = xs := Option.some.inj h
    rw [RV] at hv
    obtain ⟨a, vs, e, q, z⟩ := hv
    exact ⟨a, vs, e, .inr q, z⟩
  | _ =>
    obtain ⟨a, vs, e, q, z⟩ := r.list hv h
    exact ⟨a, vs, e, .inl q, z⟩
end

def rD1 (K : PySem.W.Frag) (E : XW) (f : D → Store → Out D) : List V → Hp → VK → Prop := fun xs H Q => ∃ σ β S d v, RS K β S H ∧ xs = [v] ∧ RV K β H d v ∧ PV K E σ β S H (f d S) Q
def rD22 (K : PySem.W.Frag) (E : XW) (f : D → D → Store → Out D) : List V → Hp → VK → Prop := fun xs H Q => ∃ σ β S d e v w, RS K β S H ∧ xs = [v, w] ∧ RV K β H d v ∧ RV K β H e w ∧ PV K E σ β S H (f d e S) Q
theorem rDs_one {K : PySem.W.Frag} {E : XW} {f : D → Store → Out D} {xs : List V} {H : Hp} {Q : VK} (h : rDs K E (one f) xs H Q) : rD1 K E f xs H Q := by
  obtain ⟨σ, β, S, ds, r, hv, q⟩ := h
  unfold one at q
  split at q
  · obtain ⟨v, ex, h1⟩ := hv.one_of
    exact ⟨σ, β, S, _, v, r, ex, h1, q⟩
  · exact q.elim
theorem rDs_two {K : PySem.W.Frag} {E : XW} {f : D → D → Store → Out D} {xs : List V} {H : Hp} {Q : VK} (h : rDs K E (two f) xs H Q) : rD22 K E f xs H Q := by
  obtain ⟨σ, β, S, ds, r, hv, q⟩ := h
  unfold two at q
  split at q
  · obtain ⟨v, w, ex, h1, h2⟩ := hv.two_of
    exact ⟨σ, β, S, _, _, v, w, r, ex, h1, h2, q⟩
  · exact q.elim
section
variable {X : Cx} {E : XW}
theorem cr_len : CallR X (.builtin "len") (rDs X.K E (biD .len)) := by
  intro pins s σ H xs us Q I rv h
  obtain ⟨σ', β, S, d, v, r, ex, h1, q⟩ := rDs_one h
  unfold lenD at q
  split at q
  · rename_i t
    rw [RV] at h1
    split at q
    · rename_i hz
      refine call_len_str pins s σ H xs us Q I rv ⟨sA t, by rw [ex, h1], by rw [sA_len]; exact szOk_le hz, q.now r ?_⟩
      rw [RV, sA_len]
    · exact q.elim
  · split at q
    · rename_i ys e
      obtain ⟨a, vs, rfl, sq, z⟩ := r.seq h1 e
      exact call_len_seq pins s σ H xs us Q I rv ⟨a, vs, ex, sq, q.now r (by rw [RV, z.length])⟩
    · exact q.elim
theorem cr_tuple : CallR X (.type "tuple") (rDs X.K E (biD .tuple)) := by
  intro pins s σ H xs us Q I rv h
  obtain ⟨σ', β, S, d, v, r, ex, h1, q⟩ := rDs_one h
  unfold tupleD at q
  split at q
  · rename_i ys
    have h2 := h1
    rw [RV] at h2
    obtain ⟨a, vs, rfl, sq, z⟩ := h2
    exact call_tuple_of pins s σ H xs us Q I rv ⟨a, vs, ex, .inr ⟨sq, q.now r h1⟩⟩
  · split at q
    · rename_i ys e
      obtain ⟨a, vs, rfl, sq, z⟩ := r.list h1 e
      exact call_tuple_of pins s σ H xs us Q I rv ⟨a, vs, ex, .inl ⟨sq, fun p hp => q.newTup r z hp⟩⟩
    · exact q.elim
theorem cr_list : CallR X (.type "list") (rDs X.K E (biD .list)) := by
  intro pins s σ H xs us Q I rv h
  obtain ⟨σ', β, S, d, v, r, ex, h1, q⟩ := rDs_one h
  unfold listD at q
  split at q
  · rename_i ys e
    obtain ⟨a, vs, rfl, sq, z⟩ := r.seq h1 e
    exact call_list_of pins s σ H xs us Q I rv ⟨a, vs, ex, sq, fun p hp => q.newList r z hp⟩
  · exact q.elim
theorem cr_allE (hc : X.calm = true) : CallR X (.builtin "all") (rDs X.K E (biD .all)) := by
  intro pins s σ H xs us Q I rv h
  obtain ⟨σ', β, S, d, v, r, ex, h1, q⟩ := rDs_one h
  unfold allD at q
  split at q
  · rename_i ys e
    split at q
    · rename_i bs eb
      obtain ⟨a, vs, rfl, sq, z⟩ := r.list h1 e
      rw [blsOf_map eb] at z
      rw [z.bls] at sq
      exact cr_all hc pins s σ H xs us Q I rv ⟨a, bs, ex, sq, q.now r (by rw [RV])⟩
    · exact q.elim
  · exact q.elim
theorem cr_min2 (hc : X.calm = true) : CallR X (.builtin "min") (rDs X.K E (biD .min2)) := by
  intro pins s σ H xs us Q I rv h
  obtain ⟨σ', β, S, d, e, v, w, r, ex, h1, h2, q⟩ := rDs_two h
  unfold min2D at q
  split at q
  · rw [RV] at h1 h2
    exact call_min2 hc pins s σ H xs us Q I rv ⟨_, _, by rw [ex, h1, h2], q.now r (by rw [RV])⟩
  · exact q.elim
theorem cr_max2 (hc : X.calm = true) : CallR X (.builtin "max") (rDs X.K E (biD .max2)) := by
  intro pins s σ H xs us Q I rv h
  obtain ⟨σ', β, S, d, e, v, w, r, ex, h1, h2, q⟩ := rDs_two h
  unfold max2D at q
  split at q
  · rw [RV] at h1 h2
    exact call_max2 hc pins s σ H xs us Q I rv ⟨_, _, by rw [ex, h1, h2], q.now r (by rw [RV])⟩
  · exact q.elim
/-! ### sorted -/
theorem ltCps_eq : ∀ a b : List Nat, PySem.Spec.ltCps a b = ltN a b
  | [], [] => rfl
  | [], _ :: _ => rfl
  | _ :: _, [] => rfl
  | x :: xs, y :: ys => by
    rw [PySem.Spec.ltCps, ltN, ltCps_eq xs ys]
    by_cases h : x < y
    · simp [h]
    · by_cases h2 : x = y
      · simp [h2]
      · simp [h, h2]
theorem ltN_trans' {a b c : List Nat} (h1 : ltN b a = false) (h2 : ltN c b = false) : ltN c a = false := by
  rw [ltN_eq] at *
  have h1' : a ≤ b := of_decide_eq_false h1
  have h2' : b ≤ c := of_decide_eq_false h2
  exact decide_eq_false (show a ≤ c from List.le_trans h1' h2')
theorem ltN_anti {a b : List Nat} (h1 : ltN b a = false) (h2 : ltN a b = false) : a = b := by
  rw [ltN_eq] at *
  have h1' : a ≤ b := of_decide_eq_false h1
  have h2' : b ≤ a := of_decide_eq_false h2
  exact List.le_antisymm h1' h2'
theorem risingS_pair : ∀ {p : Str} {l : List Str}, PyProof.Rows.risingS p l = true → (p :: l).Pairwise (fun a b => ltN (TL.tl b) (TL.tl a) = false)
  | p, [], _ => List.pairwise_singleton _ _
  | p, x :: r, h => by
    rw [PyProof.Rows.risingS, Bool.and_eq_true, Bool.not_eq_true', ltCps_eq] at h
    have ih := risingS_pair h.2
    refine List.pairwise_cons.mpr ⟨fun z hz => ?_, ih⟩
    rcases List.mem_cons.mp hz with rfl | hz
    · exact h.1
    · exact ltN_trans' h.1 ((List.pairwise_cons.mp ih).1 z hz)
theorem sortedS_pair {l : List Str} (h : PyProof.Rows.sortedS l = true) : l.Pairwise (fun a b => ltN (TL.tl b) (TL.tl a) = false) := by
  cases l with
  | nil => exact .nil
  | cons x r => exact risingS_pair h
theorem ins_perm (le : D → D → Bool) (x : D) : ∀ ys : List D, (insD le x ys).Perm (x :: ys)
  | [] => .refl _
  | y :: ys => by
    rw [insD]
    split
    · exact .refl _
    · exact ((ins_perm le x ys).cons y).trans (.swap x y ys)
theorem isort_perm (le : D → D → Bool) : ∀ xs : List D, (isort le xs).Perm xs
  | [] => .refl _
  | x :: xs => (ins_perm le x _).trans ((isort_perm le xs).cons x)
theorem isort_str (ks : List (List Nat)) : (isort leD (ks.map .str)).Pairwise (fun a b => leD a b = true) := by
  have c := isort_congr (le := leD) (le' := pyLe) (xs := ks.map .str) fun a ha b hb => by
    obtain ⟨x, _, rfl⟩ := List.mem_map.mp ha
    obtain ⟨y, _, rfl⟩ := List.mem_map.mp hb
    show (!ltD (.str y) (.str x)) = !PySem.W.dataLt (toPy (.str y)) (toPy (.str x))
    rw [lt_py (.str y) (.str x) rfl rfl rfl]
  have p := PySem.W.sort_pairwise pyLe_total (ks.map .str)
  rw [← isort_eq _ pyLe_total, ← c.1] at p
  refine p.imp_of_mem fun {a b} ha hb h => ?_
  obtain ⟨x, _, rfl⟩ := List.mem_map.mp (c.2 a ha)
  obtain ⟨y, _, rfl⟩ := List.mem_map.mp (c.2 b hb)
  show (!ltD (.str y) (.str x)) = true
  rw [lt_py (.str y) (.str x) rfl rfl rfl]
  exact h
theorem sortedS_isort {ks : List (List Nat)} {ys : List Str} (hp : ys.Perm (ks.map sA)) (hs : PyProof.Rows.sortedS ys = true) : ys.map (fun y => D.str (TL.tl y)) = isort leD (ks.map .str) := by
  refine List.Perm.eq_of_pairwise (le := fun a b => leD a b = true) (fun a b ha hb h1 h2 => ?_) ?_ (isort_str ks) ?_
  · obtain ⟨x, _, rfl⟩ := List.mem_map.mp ha
    obtain ⟨y, _, rfl⟩ := List.mem_map.mp ((isort_perm leD _).mem_iff.mp hb)
    have e1 : ltN y (TL.tl x) = false := by simpa [leD, ltD] using h1
    have e2 : ltN (TL.tl x) y = false := by simpa [leD, ltD] using h2
    rw [ltN_anti e1 e2]
  · rw [List.pairwise_map]
    exact (sortedS_pair hs).imp fun h => by simp only [leD, ltD, h]; rfl
  · refine List.Perm.trans (hp.map _) ?_
    rw [List.map_map]
    refine List.Perm.trans ?_ (isort_perm leD _).symm
    have : ((fun y => D.str (TL.tl y)) ∘ sA) = D.str := by
      funext x
      simp [TL.tl]
    rw [this]
theorem RKs.keys {K : PySem.W.Frag} {β : List Addr} {H : Hp} : ∀ {kvs : List (D × D)} {gs : List (Key × V)}, RKs K β H kvs gs → ∃ ks : List (List Nat), kvs.map (·.1) = ks.map .str ∧ gs.map (·.1) = (ks.map sA).map Sum.inr
  | [], gs, h => by rw [RKs] at h; subst h; exact ⟨[], rfl, rfl⟩
  | (k, d) :: r, gs, h => by
    rw [RKs] at h
    obtain ⟨s, v, t, rfl, rfl, _, h2⟩ := h
    obtain ⟨ks, e1, e2⟩ := RKs.keys h2
    exact ⟨s :: ks, by simp [e1], by simp [e2]⟩
theorem RVs.tlStrs {K : PySem.W.Frag} {β : List Addr} {H : Hp} : ∀ (ys : List Str), RVs K β H (ys.map fun y => D.str (TL.tl y)) (ys.map V.str)
  | [] => RVs.nil
  | y :: ys => RVs.cons (by rw [RV]) (RVs.tlStrs ys)
theorem cr_sortedE {k : Nat} (hr : Room k X.A) (hc : X.calm = true) : CallR X (.builtin "sorted") (rDs X.K E (biD .sorted)) := by
  intro pins s σ H xs us Q I rv h
  obtain ⟨σ', β, S, d, v, r, ex, h1, q⟩ := rDs_one h
  unfold sortedD at q
  split at q
  · rename_i n
    rw [RV] at h1
    obtain ⟨a, rfl, ha⟩ := h1
    have hus : us = [.ref a] := by rw [ex] at rv; exact rv.ref1
    have lst : ∀ ys, S[n]? = some (.lst ys) ∨ S[n]? = some (.frz ys) → PV X.K E σ' β S H (sortedL ys S) Q → wpAny (model X.prog X.w) X.A (call (.builtin "sorted") us) (EP X pins σ Q) X.xe s := by
      intro ys g q
      obtain ⟨a', vs, ha', p, e', z⟩ := r.lstf g
      rw [ha] at ha'; cases ha'
      unfold sortedL at q
      split at q
      · rename_i zs e
        rw [hus]
        exact sorted_run hr I r p (.of e') z e q
      · exact q.elim
    split at q
    · rename_i ys g
      exact lst ys (.inl g) q
    · rename_i ys g
      exact lst ys (.inr g) q
    · rename_i kvs g
      split at q
      · rename_i hc2
        rw [Bool.and_eq_true] at hc2
        obtain ⟨a', ha', gs, e', z⟩ := r.at g
        rw [ha] at ha'; cases ha'
        obtain ⟨ks, k1, k2⟩ := z.keys
        have hl : ks.length = kvs.length := by
          have := congrArg List.length k1
          simpa using this.symm
        refine call_sortedD hc pins s σ H xs us Q I rv ⟨a, gs, ks.map sA, ex, .of e', k2, ?_, fun ys p hp hs np => ?_⟩
        · rw [List.length_map, hl]; exact of_decide_eq_true hc2.2
        · rw [k1, ← sortedS_isort hp hs] at q
          exact q.newList r (RVs.tlStrs ys) np
      · exact q.elim
    · exact q.elim
  · exact q.elim
end
end Ev
set_option Elab.async false
set_option linter.all false
set_option maxRecDepth 100000
/-! Eng7: methods of built-in types, isinstance. -/
namespace Ev
open PySem L2

/-! ### texts -/
theorem splitC_ne (c : Nat) : ∀ l : List Nat, splitC c l ≠ []
  | [] => by rw [splitC]; exact (fun z => nomatch z)
  | x :: r => by
    rw [splitC]
    split
    · exact (fun z => nomatch z)
    · split
      · exact (fun z => nomatch z)
      · exact (fun z => nomatch z)
theorem spl_splitC (c : Nat) : ∀ (l acc : List Nat), TL.spl [c] 0 acc l = match splitC c l with | [] => [acc] | p :: ps => (acc ++ p) :: ps
  | [], acc => by rw [TL.spl, splitC]; simp
  | x :: r, acc => by
    by_cases h : x = c
    · subst h
      have hp : TL.pre [x] (x :: r) = true := by simp [TL.pre]
      rw [TL.spl_hit hp, splitC, if_pos rfl]
      show (acc :: TL.spl [x] 0 [] r) = _
      rw [spl_splitC x r []]
      cases e : splitC x r with
      | nil => exact absurd e (splitC_ne x r)
      | cons p ps => simp
    · have hp : TL.pre [c] (x :: r) = false := by
        simp only [TL.pre, List.length_singleton, List.take_succ_cons, List.take_zero]
        exact beq_eq_false_iff_ne.mpr (fun z => h (List.cons.inj z).1)
      rw [TL.spl_miss hp, splitC, if_neg h, spl_splitC c r (acc ++ [x])]
      cases e : splitC c r with
      | nil => exact absurd e (splitC_ne c r)
      | cons p ps => simp
theorem split_eq (s : List Nat) {c : Nat} (hc : c < 256) : Txt.split (sA s) (sA [c]) = (splitC c s).map sA := by
  refine TL.map_tl_inj ?_
  rw [TL.split_spl _ _ (by simp [TL.tl]) (TL.kind_ok (by simpa using hc))]
  show TL.spl [c] 0 [] s = _
  rw [spl_splitC c s []]
  cases e : splitC c s with
  | nil => exact absurd e (splitC_ne c s)
  | cons p ps =>
    have : TL.tl ∘ sA = id := by funext x; simp [TL.tl]
    rw [List.map_map, this, List.map_id]
    simp
theorem splitC_len (c : Nat) : ∀ l : List Nat, (splitC c l).length ≤ l.length + 1
  | [] => by rw [splitC]; simp
  | x :: r => by
    have ih := splitC_len c r
    rw [splitC]
    split
    · simp; omega
    · split
      · simp
      · rename_i p ps e
        rw [e] at ih
        simp at ih ⊢
        omega
theorem joinL_eq (sep : List Nat) : ∀ ps : List (List Nat), TL.joinL sep ps = joinN sep ps
  | [] => rfl
  | [p] => rfl
  | p :: q :: r => by rw [TL.joinL, joinN, joinL_eq sep (q :: r)]
theorem join_eq' (sep : List Nat) (ss : List (List Nat)) : Txt.join (sA sep) (ss.map sA) = sA (joinN sep ss) := by
  refine TL.ext_tl ?_
  rw [TL.join_eq, TL.tl_join, List.map_map]
  have : TL.tl ∘ sA = id := by funext x; simp [TL.tl]
  rw [this, List.map_id]
  show TL.joinL sep ss = _
  rw [joinL_eq]
theorem subAt_list (x y : Str) (i : Nat) : Builtin.Str.subAt x y i = (((TL.tl x).drop i).take (TL.tl y).length == TL.tl y) := by
  have h := PySem.StrLaws.subAt_eq x y i
  rw [h, TL.len_tl]
theorem starts_eq (s t : List Nat) : Txt.startswith (sA s) (sA t) = t.isPrefixOf s := by
  unfold Txt.startswith
  rw [subAt_list, sA_len, sA_len]
  simp only [TL.tl, List.drop_zero, Nat.zero_add]
  cases h : t.isPrefixOf s with
  | true =>
    obtain ⟨r, rfl⟩ := List.isPrefixOf_iff_prefix.mp h
    simp
  | false =>
    have hn : ¬ t <+: s := fun z => by rw [List.isPrefixOf_iff_prefix.mpr z] at h; cases h
    by_cases hl : t.length ≤ s.length
    · have : (s.take t.length == t) = false := beq_eq_false_iff_ne.mpr fun z => hn ⟨s.drop t.length, by
        conv => lhs; rw [← z]
        rw [z]
        conv => rhs; rw [← List.take_append_drop t.length s]
        rw [z]⟩
      simp [this]
    · simp [hl]
theorem ends_eq (s t : List Nat) : Txt.endswith (sA s) (sA t) = t.isSuffixOf s := by
  unfold Txt.endswith
  rw [subAt_list, sA_len, sA_len]
  simp only [TL.tl, Nat.zero_add]
  cases h : t.isSuffixOf s with
  | true =>
    obtain ⟨r, rfl⟩ := List.isSuffixOf_iff_suffix.mp h
    simp
  | false =>
    have hn : ¬ t <:+ s := fun z => by rw [List.isSuffixOf_iff_suffix.mpr z] at h; cases h
    by_cases hl : t.length ≤ s.length
    · have : ((s.drop (s.length - t.length)).take t.length == t) = false := beq_eq_false_iff_ne.mpr fun z => hn ⟨s.take (s.length - t.length), by
        have e : (s.drop (s.length - t.length)).take t.length = s.drop (s.length - t.length) := List.take_of_length_le (by simp; omega)
        rw [e] at z
        conv => rhs; rw [← List.take_append_drop (s.length - t.length) s]
        rw [z]⟩
      simp [this]
    · simp [hl]

def rM1 (K : PySem.W.Frag) (E : XW) (f : D → D → Store → Out D) : V → List V → Hp → VK → Prop := fun x xs H Q => ∃ σ β S a d v, RS K β S H ∧ xs = [v] ∧ RV K β H a x ∧ RV K β H d v ∧ PV K E σ β S H (f a d S) Q
section
variable {X : Cx} {E : XW}
theorem mt_splitE : MtR X "str.split" (rM1 X.K E splitD) := by
  intro pins s σ H x xs v us Q I rx rv h
  obtain ⟨σ', β, S, a, d, w, r, rfl, h1, h2, q⟩ := h
  unfold splitD at q
  split at q
  · rename_i t c
    split at q
    · rename_i hc
      rw [Bool.and_eq_true] at hc
      rw [RV] at h1 h2
      refine mt_split pins s σ H x _ v us Q I rx rv ⟨sA t, sA [c], h1, by rw [h2], by rw [sA_len]; rfl, by rw [sA_len]; exact szOk_le hc.1, fun p hp => ?_⟩
      rw [split_eq t (of_decide_eq_true hc.2)]
      exact q.newList r (RVs.ofStrs _) hp
    · exact q.elim
  · exact q.elim
theorem sum_len (ss : List (List Nat)) : ((ss.map sA).map (·.length)).sum = (ss.map List.length).sum := by
  induction ss with
  | nil => rfl
  | cons s ss ih => simp only [List.map_cons, List.sum_cons, ih, sA_len]
theorem mt_joinE : MtR X "str.join" (rM1 X.K E joinD) := by
  intro pins s σ H x xs v us Q I rx rv h
  obtain ⟨σ', β, S, a, d, w, r, rfl, h1, h2, q⟩ := h
  unfold joinD at q
  split at q
  · rename_i sep
    split at q
    · rename_i ys e
      split at q
      · rename_i ss es
        split at q
        · rename_i hc
          rw [RV] at h1
          obtain ⟨p, vs, rfl, sq, z⟩ := r.seq h2 e
          rw [strsOf_map es] at z
          rw [z.strs] at sq
          refine mt_join pins s σ H x _ v us Q I rx rv ⟨sA sep, p, ss.map sA, h1, rfl, sq, ?_, ?_⟩
          · rw [sum_len, List.length_map, sA_len]
            exact of_decide_eq_true hc
          · rw [join_eq']
            exact q.now r (by rw [RV])
        · exact q.elim
      · exact q.elim
    · exact q.elim
  · exact q.elim
theorem mt_endsE : MtR X "str.endswith" (rM1 X.K E endsD) := by
  intro pins s σ H x xs v us Q I rx rv h
  obtain ⟨σ', β, S, a, d, w, r, rfl, h1, h2, q⟩ := h
  unfold endsD at q
  split at q
  · rw [RV] at h1 h2
    refine mt_endswith pins s σ H x _ v us Q I rx rv ⟨_, _, h1, by rw [h2], ?_⟩
    rw [ends_eq]
    exact q.now r (by rw [RV])
  · exact q.elim
theorem mt_startsE : MtR X "str.startswith" (rM1 X.K E startsD) := by
  intro pins s σ H x xs v us Q I rx rv h
  obtain ⟨σ', β, S, a, d, w, r, rfl, h1, h2, q⟩ := h
  unfold startsD at q
  split at q
  · rw [RV] at h1 h2
    refine mt_startswith pins s σ H x _ v us Q I rx rv ⟨_, _, h1, by rw [h2], ?_⟩
    rw [starts_eq]
    exact q.now r (by rw [RV])
  · exact q.elim
theorem mt_appendE : MtR X "list.append" (rM1 X.K E appendD) := by
  intro pins s σ H x xs v us Q I rx rv h
  obtain ⟨σ', β, S, a, d, w, r, rfl, h1, h2, q⟩ := h
  unfold appendD at q
  split at q
  · rename_i n
    split at q
    · rename_i ys g
      split at q
      · rename_i hc
        rw [Bool.and_eq_true] at hc
        rw [RV] at h1
        obtain ⟨p, rfl, ha⟩ := h1
        obtain ⟨a', vs, ha', pu, e', z⟩ := r.lst g
        rw [ha] at ha'; cases ha'
        refine mt_append pins s σ H _ _ v us Q I rx rv ⟨p, vs, w, rfl, rfl, e', by rw [z.length]; exact of_decide_eq_true hc.2, ?_⟩
        have zz : RVs X.K β H (ys ++ [d]) (vs ++ [w]) := z.append (RVs.one h2)
        have pp : D.pureAll (ys ++ [d]) = true := pureAll_of fun y hy => by
          rcases List.mem_append.mp hy with hy | hy
          · exact pureAll_mem pu hy
          · rw [List.mem_singleton.mp hy]; exact hc.1
        have zz2 : RVs X.K β (upd H p (.lst (vs ++ [w]))) (ys ++ [d]) (vs ++ [w]) := RVs.of_keep (fun b t q => by
            rw [upd_ne (fun z => by subst z; rw [e'] at q; cases q)]; exact q) (fun b o t q => by
            rw [upd_ne (fun z => by subst z; rw [e'] at q; cases q)]; exact q) (fun _ _ q => q) _ _ zz
        obtain ⟨r2, ex⟩ := r.put (o := .lst (ys ++ [d])) (u := .lst (vs ++ [w])) ha (fun t => by rw [g]; exact (fun z => nomatch z)) (fun t => by rw [g]; exact (fun z => nomatch z)) ⟨pp, _, upd_same, zz2⟩
        exact q β _ ex r2 _ (by rw [RV])
      · exact q.elim
    · exact q.elim
  · exact q.elim
theorem mt_extendE : MtR X "list.extend" (rM1 X.K E extendD) := by
  intro pins s σ H x xs v us Q I rx rv h
  obtain ⟨σ', β, S, a, d, w, r, rfl, h1, h2, q⟩ := h
  unfold extendD at q
  split at q
  · rename_i n m
    split at q
    · rename_i ys zs g1 g2
      split at q
      · rename_i hc
        rw [RV] at h1 h2
        obtain ⟨p, rfl, ha⟩ := h1
        obtain ⟨b, rfl, hb⟩ := h2
        obtain ⟨a', vs, ha', pu, e', z⟩ := r.lst g1
        rw [ha] at ha'; cases ha'
        obtain ⟨b', ws, hb', pu2, e2', z2⟩ := r.lst g2
        rw [hb] at hb'; cases hb'
        refine mt_extend pins s σ H _ _ v us Q I rx rv ⟨p, b, vs, ws, rfl, rfl, e', e2', by rw [z.length, z2.length]; exact szOk_le hc, ?_⟩
        have zz : RVs X.K β H (ys ++ zs) (vs ++ ws) := z.append z2
        have pp : D.pureAll (ys ++ zs) = true := pureAll_of fun y hy => by
          rcases List.mem_append.mp hy with hy | hy
          · exact pureAll_mem pu hy
          · exact pureAll_mem pu2 hy
        have zz2 : RVs X.K β (upd H p (.lst (vs ++ ws))) (ys ++ zs) (vs ++ ws) := RVs.of_keep (fun b t q => by
            rw [upd_ne (fun z => by subst z; rw [e'] at q; cases q)]; exact q) (fun b o t q => by
            rw [upd_ne (fun z => by subst z; rw [e'] at q; cases q)]; exact q) (fun _ _ q => q) _ _ zz
        obtain ⟨r2, ex⟩ := r.put (o := .lst (ys ++ zs)) (u := .lst (vs ++ ws)) ha (fun t => by rw [g1]; exact (fun z => nomatch z)) (fun t => by rw [g1]; exact (fun z => nomatch z)) ⟨pp, _, upd_same, zz2⟩
        exact q β _ ex r2 _ (by rw [RV])
      · exact q.elim
    · exact q.elim
  · exact q.elim
/-- d.get(k, x) -/
theorem mt_getE {k : Nat} (hr : Room k X.A) : MtR X "dict.get" (fun x xs H Q => ∃ σ β S a d e v w, RS X.K β S H ∧ xs = [v, w] ∧ RV X.K β H a x ∧ RV X.K β H d v ∧ RV X.K β H e w ∧ PV X.K E σ β S H (getD3 a d e S) Q) := by
  intro pins s σ H x xs v us Q I rx rv h
  obtain ⟨σ', β, S, a, d, e, y, w, r, rfl, h1, h2, h3, q⟩ := h
  unfold getD3 at q
  split at q
  · rename_i n t
    split at q
    · rename_i kvs g
      simp only [RV] at h1 h2
      obtain ⟨p, rfl, ha⟩ := h1
      subst h2
      obtain ⟨a', ha', gs, e', z⟩ := r.at g
      rw [ha] at ha'; cases ha'
      obtain rfl : v = Value.ref p := rx
      obtain ⟨u1, u2, rfl, r1, r2⟩ := rv.two
      refine d_get2 (hu_of hr) I (DGet.k (k := .inr (sA t)) e') r1 r2 fun w' s' I' rw' => ?_
      refine ⟨_, H, I', rw', q.now r ?_⟩
      cases f : (kvs.find? fun kv => eqD kv.1 (.str t)).map (·.2) with
      | none => rw [z.findN f]; exact h3
      | some d' =>
        obtain ⟨v', g', rv'⟩ := z.find f
        rw [g']
        exact rv'
    · exact q.elim
  · exact q.elim
end

/-! ### isinstance -/
def tyN : Ty → String
  | .tTuple => "tuple" | .tStr => "str" | .tInt => "int" | .tBool => "bool" | .tList => "list"
section
variable {X : Cx} {E : XW}
theorem isTy_run {K : PySem.W.Frag} {β : List Addr} {S : Store} {H : Hp} {d : D} {x : V} {t : Ty} {b : Bool} (r : RS K β S H) (h : RV K β H d x) (e : isTy S d t = some b) :
    ∃ T, TyX K H x T ∧ PySem.W.kitOne K T (.type (tyN t)) = some b ∧ ∀ t' b', isTy S d t' = some b' → PySem.W.kitOne K T (.type (tyN t')) = some b' := by
  suffices ∃ T, TyX K H x (.type T) ∧ ∀ t' b', isTy S d t' = some b' → kitB T (tyN t') = some b' by
    obtain ⟨T, h1, h2⟩ := this
    exact ⟨.type T, h1, kit_ty (h2 t b e), fun t' b' e' => kit_ty (h2 t' b' e')⟩
  have tupK : ∀ {a : Addr} {vs : List V}, SqT K H a vs → TyX K H (.ref a) (.type "tuple") := by
    intro a vs q
    rcases q with (q | ⟨o, q⟩) | ⟨o, its, n, q, c, _⟩
    · exact .base (.tup q)
    · exact .fTuple q
    · exact .kTuple q c
  have lstK : ∀ {a : Addr} {vs : List V}, SqL K H a vs → TyX K H (.ref a) (.type "list") := by
    intro a vs q
    rcases q with (q | ⟨o, q⟩) | ⟨o, its, n, q, c, _⟩
    · exact .base (.lst q)
    · exact .base (.frz q)
    · exact .kList q c
  cases d with
  | non =>
    rw [RV] at h; subst h
    refine ⟨"NoneType", .base .non, fun t' b' e' => ?_⟩
    cases t' <;> cases e' <;> decide +kernel
  | bl _ =>
    rw [RV] at h; subst h
    refine ⟨"bool", .base (.bl _), fun t' b' e' => ?_⟩
    cases t' <;> cases e' <;> decide +kernel
  | int _ =>
    rw [RV] at h; subst h
    refine ⟨"int", .base (.int _), fun t' b' e' => ?_⟩
    cases t' <;> cases e' <;> decide +kernel
  | str _ =>
    rw [RV] at h; subst h
    refine ⟨"str", .base (.str _), fun t' b' e' => ?_⟩
    cases t' <;> cases e' <;> decide +kernel
  | tup _ =>
    rw [RV] at h
    obtain ⟨a, vs, rfl, q, _⟩ := h
    refine ⟨"tuple", tupK q, fun t' b' e' => ?_⟩
    cases t' <;> cases e' <;> decide +kernel
  | lit _ =>
    rw [RV] at h
    obtain ⟨a, vs, rfl, q, _⟩ := h
    refine ⟨"list", lstK q.sq, fun t' b' e' => ?_⟩
    cases t' <;> cases e' <;> decide +kernel
  | loc n =>
    rw [RV] at h
    obtain ⟨a, rfl, ha⟩ := h
    have key : ∀ xs, S[n]? = some (.lst xs) ∨ S[n]? = some (.frz xs) → (∀ t' b', isTy S (.loc n) t' = some b' → b' = match t' with | .tList => true | _ => false) →
        ∃ T, TyX K H (.ref a) (.type T) ∧ ∀ t' b', isTy S (.loc n) t' = some b' → kitB T (tyN t') = some b' := by
      intro xs g hb
      obtain ⟨a', vs, ha', _, e', z⟩ := r.lstf g
      rw [ha] at ha'; cases ha'
      refine ⟨"list", lstK (.of e'), fun t' b' e2 => ?_⟩
      rw [hb t' b' e2]
      cases t' <;> decide +kernel
    have e0 := e
    simp only [isTy] at e
    split at e
    · rename_i xs g
      exact key xs (.inl g) fun t' b' e' => by simp only [isTy, g] at e'; exact (Option.some.inj e').symm
    · rename_i xs g
      exact key xs (.inr g) fun t' b' e' => by simp only [isTy, g] at e'; exact (Option.some.inj e').symm
    · cases e
theorem isTys_run {K : PySem.W.Frag} {S : Store} {d : D} {T : Value} (h : ∀ t' b', isTy S d t' = some b' → PySem.W.kitOne K T (.type (tyN t')) = some b') :
    ∀ {ts : List Ty} {b : Bool}, isTys S d ts = some b → PySem.W.kitAny K T (ts.map fun t => .type (tyN t)) = some b
  | [], b, e => by cases e; exact kitAny_nil
  | t :: ts, b, e => by
    rw [isTys] at e
    split at e
    · rename_i e1
      cases e
      exact kitAny_cons (h t true e1) (fun z => nomatch z) fun _ => rfl
    · rename_i e1
      exact kitAny_cons (h t false e1) (fun _ => isTys_run h e) fun z => nomatch z
    · cases e
end
end Ev
set_option Elab.async false
set_option linter.all false
set_option maxRecDepth 100000
/-! Eng8: expressions. -/
namespace Ev
open PySem L2

theorem _root_.L2.PE.monoE {X : Cx} {e : Expr} {t t' : TE} (h : PE X e t) (m : ∀ σ H Q, t' σ H Q → t σ H Q) : PE X e t' := ⟨fun pins s σ H Q I q => h.run pins s σ H Q I (m σ H Q q)⟩
theorem _root_.L2.PT.monoE {X : Cx} {e : Expr} {t t' : TT} (h : PT X e t) (m : ∀ σ H Q, t' σ H Q → t σ H Q) : PT X e t' := ⟨fun pins s σ H Q I q => h.run pins s σ H Q I (m σ H Q q)⟩
theorem _root_.L2.PW.monoE {X : Cx} {e : Expr} {t t' : TT} (h : PW X e t) (m : ∀ σ H Q, t' σ H Q → t σ H Q) : PW X e t' := ⟨fun wh pins s σ H Q I q => h.run wh pins s σ H Q I (m σ H Q q)⟩
theorem _root_.L2.PA.monoE {X : Cx} {e : List Expr} {t t' : TA} (h : PA X e t) (m : ∀ σ H Q, t' σ H Q → t σ H Q) : PA X e t' := ⟨fun pos pins s σ H Q I q => h.run pos pins s σ H Q I (m σ H Q q)⟩
theorem _root_.L2.PI.monoE {X : Cx} {tg e : Expr} {t t' : TI} (h : PI X tg e t) (m : ∀ σ H Q, t' σ H Q → t σ H Q) : PI X tg e t' := ⟨fun pins s σ H Q I q => h.run pins s σ H Q I (m σ H Q q)⟩
theorem _root_.L2.PS.monoE {X : Cx} {e : Stmt} {t t' : TS} (h : PS X e t) (m : ∀ D σ H, t' D σ H → t D σ H) : PS X e t' := ⟨fun pins s σ H D I q => h.run pins s σ H D I (m D σ H q)⟩
theorem _root_.L2.PSs.monoE {X : Cx} {e : List Stmt} {t t' : TS} (h : PSs X e t) (m : ∀ D σ H, t' D σ H → t D σ H) : PSs X e t' := ⟨fun pins s σ H D I q => h.run pins s σ H D I (m D σ H q)⟩
theorem _root_.L2.PE.never {X : Cx} {e : Expr} {t : TE} (h : ∀ σ H Q, ¬ t σ H Q) : PE X e t := ⟨fun pins s σ H Q I q => (h σ H Q q).elim⟩

/-! ### forms of the syntax -/
def notStar : Expr → Bool
  | .Starred .. => false
  | _ => true
theorem star_cons {e : Expr} {es : List Expr} {env : PySem.Env} (h : notStar e = true) : starEach (e :: es) env = (false, eval e env) :: starEach es env := by
  cases e <;> first | rfl | (exact nomatch h)
theorem star_any {pos : Pos} {env : PySem.Env} : ∀ {es : List Expr}, es.all notStar = true → (backTo pos (starEach es env)).any (·.1) = false
  | [], _ => rfl
  | e :: es, h => by
    rw [List.all_cons, Bool.and_eq_true] at h
    rw [star_cons h.1]
    exact star_any (es := es) h.2
theorem star_all {pos : Pos} {env : PySem.Env} : ∀ {es : List Expr}, es.all notStar = true → (backTo pos (starEach es env)).all (fun x => !x.1) = true
  | [], _ => rfl
  | e :: es, h => by
    rw [List.all_cons, Bool.and_eq_true] at h
    rw [star_cons h.1]
    exact star_all (es := es) h.2
def notCall : Expr → Bool
  | .Call (.Name ..) [] [] _ => false
  | _ => true
theorem attr_base {o : Expr} {name : Str} {env : PySem.Env} (h : notCall o = true) (whole : Sem Value) : attributeBase o name env whole = whole := by
  unfold attributeBase
  split
  · rename_i id p pos
    exact nomatch h
  · rfl
def notSlice : Expr → Bool
  | .Slice .. => false
  | _ => true
theorem plain_ix {b : Expr} (h : notSlice b = true) : PlainIx b := by
  intro o i
  cases b <;> first | rfl | (exact nomatch h)
/-- its truth is that of its value -/
def plainT : Expr → Bool
  | .UnaryOp .. => false | .BoolOp .. => false | .IfExp .. => false | .Compare .. => false
  | _ => true
theorem plain_true {e : Expr} {env : PySem.Env} (h : plainT e = true) (whole : Sem Value) : isTrue e env whole = (do let v ← whole; standAt e.pos; holding [v] (truthy v)) := by
  cases e <;> first | rfl | (exact nomatch h)

section
variable {K : PySem.W.Frag} {F : FS} {E : XW} {β : List Addr} {S : Store} {H : Hp} {σ : L2.St} {ρ : Env}
/-- an expression ahead of the rest -/
theorem seqE {α : Type} {a : Ex} {k : D → Store → Out α} {Qk : α → Store → List Addr → Hp → Prop} {Q : VK} (sim : Sim K β H σ ρ) (r : RS K β S H) (p : Post K β S H ((ev F a ρ S).bind k) Qk (fun c _ _ H' => E c σ H'))
    (h : ∀ d S1 β1 H1 v, Ext β S H β1 S1 H1 → Sim K β1 H1 σ ρ → RS K β1 S1 H1 → RV K β1 H1 d v → Post K β1 S1 H1 (k d S1) Qk (fun c _ _ H' => E c σ H') → Q v H1) : tEv K F E a σ H Q :=
  ⟨ρ, S, β, sim, r, p.bind.mono (fun d S1 β1 H1 e1 r1 p1 v hv => h d S1 β1 H1 v e1 (sim.mono r e1) r1 hv p1) (fun _ _ _ _ _ _ z => z)⟩
theorem seqEs {α : Type} {es : Exs} {k : List D → Store → Out α} {Qk : α → Store → List Addr → Hp → Prop} {Q : List V → Hp → Prop} (sim : Sim K β H σ ρ) (r : RS K β S H) (p : Post K β S H ((evs F es ρ S).bind k) Qk (fun c _ _ H' => E c σ H'))
    (h : ∀ ds S1 β1 H1 vs, Ext β S H β1 S1 H1 → Sim K β1 H1 σ ρ → RS K β1 S1 H1 → RVs K β1 H1 ds vs → Post K β1 S1 H1 (k ds S1) Qk (fun c _ _ H' => E c σ H') → Q vs H1) : tEvs K F E es σ H Q :=
  ⟨ρ, S, β, sim, r, p.bind.mono (fun d S1 β1 H1 e1 r1 p1 v hv => h d S1 β1 H1 v e1 (sim.mono r e1) r1 hv p1) (fun _ _ _ _ _ _ z => z)⟩
end

section
variable {X : Cx} {F : FS} {E : XW} {a b c : Expr} {ia ib ic : Ex} {pos : Pos}
theorem s_var {i : Nat} {x : Str} (hN : X.N[i]? = some x) (hv : Vis X.env.scope x) (hd : (x == ("__debug__" : Str)) = false) (hcd : (x == ("__classdict__" : Str)) = false) : PE X (.Name x pos) (tEv X.K F E (.var i)) := by
  refine (pe_var hN hv hd hcd).monoE fun σ H Q h => ?_
  obtain ⟨ρ, S, β, sim, r, p⟩ := h
  rw [ev] at p
  split at p
  · rename_i d e
    obtain ⟨v, e1, e2⟩ := sim.rel i d e
    exact ⟨v, e1, p β H .refl r v e2⟩
  · exact p.elim
theorem s_dat {e : Expr} {d : D} {v : V} (h : PE X e (tC v)) (hv : ∀ β H, RV X.K β H d v) : PE X e (tEv X.K F E (.dat d)) := by
  refine h.monoE fun σ H Q h => ?_
  obtain ⟨ρ, S, β, sim, r, p⟩ := h
  rw [ev] at p
  exact p β H .refl r v (hv β H)
theorem s_nil : PA X [] (tEvs X.K F E .nil) := by
  refine pa_nil.monoE fun σ H Q h => ?_
  obtain ⟨ρ, S, β, sim, r, p⟩ := h
  rw [evs] at p
  exact p β H .refl r [] RVs.nil
theorem s_cons {e : Expr} {es : List Expr} {ie : Ex} {ies : Exs} (he : PE X e (tEv X.K F E ie)) (hes : PA X es (tEvs X.K F E ies)) (hs : notStar e = true) : PA X (e :: es) (tEvs X.K F E (.cons ie ies)) := by
  refine (pa_cons he hes (star_cons hs)).monoE fun σ H Q h => ?_
  obtain ⟨ρ, S, β, sim, r, p⟩ := h
  rw [evs] at p
  refine seqE sim r p fun d S1 β1 H1 v e1 sim1 r1 hv p1 => ?_
  refine seqEs sim1 r1 p1 fun ds S2 β2 H2 vs e2 sim2 r2 hvs p2 => ?_
  exact p2 β2 H2 .refl r2 _ (RVs.cons (hv.mono r1 e2) hvs)
theorem s_tup {es : List Expr} {ies : Exs} {x1 : Nat} (h : PA X es (tEvs X.K F E ies)) : PE X (.Tuple es x1 pos) (tEv X.K F E (.tup ies)) := by
  refine (pe_tup h).monoE fun σ H Q h => ?_
  obtain ⟨ρ, S, β, sim, r, p⟩ := h
  unfold PV at p
  rw [ev] at p
  refine seqEs sim r p fun ds S1 β1 H1 vs e1 sim1 r1 hvs p1 => ?_
  split at p1
  · rename_i hz
    exact ⟨by rw [hvs.length]; exact szOk_le hz, fun q hq => PV.newTup (E := E) (σ := σ) r1 p1 hvs hq⟩
  · exact p1.elim
theorem s_lst {es : List Expr} {ies : Exs} (h : PA X es (tEvs X.K F E ies)) : PE X (.List es pos) (tEv X.K F E (.lst ies)) := by
  refine (pe_lst h).monoE fun σ H Q h => ?_
  obtain ⟨ρ, S, β, sim, r, p⟩ := h
  unfold PV at p
  rw [ev] at p
  refine seqEs sim r p fun ds S1 β1 H1 vs e1 sim1 r1 hvs p1 => ?_
  exact ⟨by rw [hvs.length]; exact (newL_len (E := E) (σ := σ) p1).2, fun q hq => PV.newList (E := E) (σ := σ) r1 p1 hvs hq⟩
theorem s_dnew : PE X (.Dict [] [] pos) (tEv X.K F E .dnew) := by
  refine pe_dnewK.monoE fun σ H Q h => ?_
  obtain ⟨ρ, S, β, sim, r, p⟩ := h
  unfold PV at p
  rw [ev] at p
  intro q hq
  obtain ⟨r2, e2⟩ := r.push (o := .dic []) (u := .dK []) hq ⟨[], upd_same, by rw [RKs]⟩
  refine p _ _ e2 r2 _ ?_
  rw [RV]
  refine ⟨q, rfl, ?_⟩
  rw [← r.len]
  simp
theorem s_bin (op : Bop) (ha : PE X a (tEv X.K F E ia)) (hb : PE X b (tEv X.K F E ib)) : PE X (.BinOp a (bopOf op) b pos) (tEv X.K F E (.bin op ia ib)) := by
  refine (pe_op (op_binE (E := E) op) ha hb).monoE fun σ H Q h => ?_
  obtain ⟨ρ, S, β, sim, r, p⟩ := h
  unfold PV at p
  rw [ev] at p
  refine seqE sim r p fun d1 S1 β1 H1 v1 e1 sim1 r1 h1 p1 => ?_
  refine seqE sim1 r1 p1 fun d2 S2 β2 H2 v2 e2 sim2 r2 h2 p2 => ?_
  exact ⟨σ, β2, S2, d1, d2, r2, h1.mono r1 e2, h2, p2⟩
theorem blO_ok {K : PySem.W.Frag} {β : List Addr} {S : Store} {H : Hp} {σ : L2.St} {o : Option Bool} {Q : VK} (r : RS K β S H) (p : PV K E σ β S H (blO o S) Q) : ∃ b, o = some b ∧ Q (.bl b) H := by
  cases o with
  | none => exact p.elim
  | some b => exact ⟨b, rfl, p β H .refl r _ (by rw [RV])⟩
theorem s_cmp {k : Nat} (hr : Room k X.A) (op : Cop) (ha : PE X a (tEv X.K F E ia)) (hb : PE X b (tEv X.K F E ib)) (hm : behindInMarks (copOf op) b = false) : PE X (.Compare a [copOf op] [b] pos) (tEv X.K F E (.cmp op ia ib)) := by
  refine (pe_cmpR (op_cmpE hr op) ha hb hm).monoE fun σ H Q h => ?_
  obtain ⟨ρ, S, β, sim, r, p⟩ := h
  unfold PV at p
  rw [ev] at p
  refine seqE sim r p fun d1 S1 β1 H1 v1 e1 sim1 r1 h1 p1 => ?_
  refine seqE sim1 r1 p1 fun d2 S2 β2 H2 v2 e2 sim2 r2 h2 p2 => ?_
  obtain ⟨bb, eb, q⟩ := blO_ok (E := E) (σ := σ) r2 p2
  exact ⟨β2, S2, d1, d2, bb, r2, h1.mono r1 e2, h2, eb, q⟩
theorem s_chain {k : Nat} (hr : Room k X.A) (o1 o2 : Cop) (ha : PE X a (tEv X.K F E ia)) (hb : PE X b (tEv X.K F E ib)) (hc : PE X c (tEv X.K F E ic)) (hm : lastMarks [copOf o1, copOf o2] [b, c] = false) :
    PE X (.Compare a [copOf o1, copOf o2] [b, c] pos) (tEv X.K F E (.chain o1 o2 ia ib ic)) := by
  refine (pe_chain (op_cmpE hr o1) (op_cmpE hr o2) ha hb hc hm).monoE fun σ H Q h => ?_
  obtain ⟨ρ, S, β, sim, r, p⟩ := h
  unfold PV at p
  rw [ev] at p
  refine seqE sim r p fun d1 S1 β1 H1 v1 e1 sim1 r1 h1 p1 => ?_
  refine seqE sim1 r1 p1 fun d2 S2 β2 H2 v2 e2 sim2 r2 h2 p2 => ?_
  split at p2
  · rename_i ec
    refine ⟨β2, S2, d1, d2, true, r2, h1.mono r1 e2, h2, ec, true, rfl, ?_⟩
    rw [if_pos rfl]
    refine seqE sim2 r2 p2 fun d3 S3 β3 H3 v3 e3 sim3 r3 h3 p3 => ?_
    obtain ⟨bb, eb, q⟩ := blO_ok (E := E) (σ := σ) r3 p3
    exact ⟨β3, S3, d2, d3, bb, r3, h2.mono r2 e3, h3, eb, q⟩
  · rename_i ec
    refine ⟨β2, S2, d1, d2, false, r2, h1.mono r1 e2, h2, ec, false, rfl, ?_⟩
    rw [if_neg Bool.false_ne_true]
    exact p2 β2 H2 .refl r2 _ (by rw [RV])
  · exact p2.elim
theorem s_and {rest : List Expr} (ha : PE X a (tEv X.K F E ia)) (hb : PE X (.BoolOp .And (b :: rest) pos) (tEv X.K F E ib)) : PE X (.BoolOp .And (a :: b :: rest) pos) (tEv X.K F E (.and ia ib)) := by
  refine (pe_andT ha hb).monoE fun σ H Q h => ?_
  obtain ⟨ρ, S, β, sim, r, p⟩ := h
  unfold PV at p
  rw [ev] at p
  refine seqE sim r p fun d1 S1 β1 H1 v1 e1 sim1 r1 h1 p1 => ?_
  split at p1
  · rename_i ec
    refine ⟨true, truth_run r1 h1 ec, ?_⟩
    rw [if_pos rfl]
    exact ⟨ρ, S1, β1, sim1, r1, p1⟩
  · rename_i ec
    refine ⟨false, truth_run r1 h1 ec, ?_⟩
    rw [if_neg Bool.false_ne_true]
    exact p1 β1 H1 .refl r1 _ h1
  · exact p1.elim
theorem s_or {rest : List Expr} (ha : PE X a (tEv X.K F E ia)) (hb : PE X (.BoolOp .Or (b :: rest) pos) (tEv X.K F E ib)) : PE X (.BoolOp .Or (a :: b :: rest) pos) (tEv X.K F E (.or ia ib)) := by
  refine (pe_orT ha hb).monoE fun σ H Q h => ?_
  obtain ⟨ρ, S, β, sim, r, p⟩ := h
  unfold PV at p
  rw [ev] at p
  refine seqE sim r p fun d1 S1 β1 H1 v1 e1 sim1 r1 h1 p1 => ?_
  split at p1
  · rename_i ec
    refine ⟨true, truth_run r1 h1 ec, ?_⟩
    rw [if_pos rfl]
    exact p1 β1 H1 .refl r1 _ h1
  · rename_i ec
    refine ⟨false, truth_run r1 h1 ec, ?_⟩
    rw [if_neg Bool.false_ne_true]
    exact ⟨ρ, S1, β1, sim1, r1, p1⟩
  · exact p1.elim
theorem s_not (ha : PE X a (tEv X.K F E ia)) : PE X (.UnaryOp .Not a pos) (tEv X.K F E (.not ia)) := by
  refine (pe_notT ha).monoE fun σ H Q h => ?_
  obtain ⟨ρ, S, β, sim, r, p⟩ := h
  unfold PV at p
  rw [ev] at p
  refine seqE sim r p fun d1 S1 β1 H1 v1 e1 sim1 r1 h1 p1 => ?_
  split at p1
  · rename_i t ec
    exact ⟨t, truth_run r1 h1 ec, p1 β1 H1 .refl r1 _ (by rw [RV])⟩
  · exact p1.elim
/-! ### tests -/
theorem t_plain (ha : PE X a (tEv X.K F E ia)) (h : plainT a = true) : PT X a (tEvT X.K F E ia) := by
  refine (pt_truth ha fun wh => plain_true h wh).monoE fun σ H Q h => ?_
  obtain ⟨ρ, S, β, sim, r, p⟩ := h
  refine seqE sim r p fun d1 S1 β1 H1 v1 e1 sim1 r1 h1 p1 => ?_
  cases ec : truth S1 d1 with
  | none => rw [ec] at p1; exact p1.elim
  | some t =>
    rw [ec] at p1
    exact ⟨t, truth_run r1 h1 ec, p1 β1 H1 .refl r1⟩
/-- a comparison gives a truth -/
theorem t_cmp {k : Nat} (hr : Room k X.A) (op : Cop) (ha : PE X a (tEv X.K F E ia)) (hb : PE X b (tEv X.K F E ib)) (hm : behindInMarks (copOf op) b = false) : PT X (.Compare a [copOf op] [b] pos) (tEvT X.K F E (.cmp op ia ib)) := by
  refine (pt_cmpR (op_cmpE hr op) ha hb hm).monoE fun σ H Q h => ?_
  obtain ⟨ρ, S, β, sim, r, p⟩ := h
  rw [ev] at p
  have p' : Post X.K β S H ((ev F ia ρ S).bind fun x S => (ev F ib ρ S).bind fun y S => (cmpD op x y S).bind fun x S => blB (truth S x) S) (fun b _ _ H' => Q b H') (fun c _ _ H' => E c σ H') := by
    revert p
    cases ev F ia ρ S with
    | ok d1 S1 =>
      dsimp only [Out.bind]
      cases ev F ib ρ S1 with
      | ok d2 S2 => exact id
      | exc c S2 => exact id
      | bad => exact id
    | exc c S1 => exact id
    | bad => exact id
  refine seqE sim r p' fun d1 S1 β1 H1 v1 e1 sim1 r1 h1 p1 => ?_
  refine seqE sim1 r1 p1 fun d2 S2 β2 H2 v2 e2 sim2 r2 h2 p2 => ?_
  cases ec : cmpO S2 op d1 d2 with
  | none => unfold cmpD at p2; rw [ec] at p2; exact p2.elim
  | some t =>
    unfold cmpD at p2
    rw [ec] at p2
    exact ⟨β2, S2, d1, d2, t, r2, h1.mono r1 e2, h2, ec, t, rfl, p2 β2 H2 .refl r2⟩
theorem t_chain {k : Nat} (hr : Room k X.A) (o1 o2 : Cop) (ha : PE X a (tEv X.K F E ia)) (hb : PE X b (tEv X.K F E ib)) (hc : PE X c (tEv X.K F E ic)) (hm : lastMarks [copOf o1, copOf o2] [b, c] = false) :
    PT X (.Compare a [copOf o1, copOf o2] [b, c] pos) (tEvT X.K F E (.chain o1 o2 ia ib ic)) := by
  refine (pt_chain (op_cmpE hr o1) (op_cmpE hr o2) ha hb hc hm).monoE fun σ H Q h => ?_
  obtain ⟨ρ, S, β, sim, r, p⟩ := h
  rw [ev] at p
  have p' : Post X.K β S H ((ev F ia ρ S).bind fun x S => (ev F ib ρ S).bind fun y S => match cmpO S o1 x y with
      | some true => (ev F ic ρ S).bind fun z S => (cmpD o2 y z S).bind fun x S => blB (truth S x) S
      | some false => .ok false S
      | none => .bad) (fun b _ _ H' => Q b H') (fun c _ _ H' => E c σ H') := by
    revert p
    cases ev F ia ρ S with
    | ok d1 S1 =>
      dsimp only [Out.bind]
      cases ev F ib ρ S1 with
      | ok d2 S2 =>
        dsimp only [Out.bind]
        cases cmpO S2 o1 d1 d2 with
        | none => exact id
        | some t =>
          cases t with
          | false => exact id
          | true =>
            dsimp only [Out.bind]
            cases ev F ic ρ S2 with
            | ok d3 S3 => exact id
            | exc c S3 => exact id
            | bad => exact id
      | exc c S2 => exact id
      | bad => exact id
    | exc c S1 => exact id
    | bad => exact id
  refine seqE sim r p' fun d1 S1 β1 H1 v1 e1 sim1 r1 h1 p1 => ?_
  refine seqE sim1 r1 p1 fun d2 S2 β2 H2 v2 e2 sim2 r2 h2 p2 => ?_
  split at p2
  · rename_i ec
    refine ⟨β2, S2, d1, d2, true, r2, h1.mono r1 e2, h2, ec, true, rfl, ?_⟩
    rw [if_pos rfl]
    refine seqE sim2 r2 p2 fun d3 S3 β3 H3 v3 e3 sim3 r3 h3 p3 => ?_
    cases ec : cmpO S3 o2 d2 d3 with
    | none => unfold cmpD at p3; rw [ec] at p3; exact p3.elim
    | some t =>
      unfold cmpD at p3
      rw [ec] at p3
      exact ⟨β3, S3, d2, d3, t, r3, h2.mono r2 e3, h3, ec, t, rfl, p3 β3 H3 .refl r3⟩
  · rename_i ec
    refine ⟨β2, S2, d1, d2, false, r2, h1.mono r1 e2, h2, ec, false, rfl, ?_⟩
    rw [if_neg Bool.false_ne_true]
    exact ⟨false, rfl, p2 β2 H2 .refl r2⟩
  · exact p2.elim
section
variable {K : PySem.W.Frag} {β : List Addr} {S : Store} {H : Hp} {σ : L2.St} {ρ : Env}
/-- a test ahead of the rest -/
theorem seqT {α : Type} {a : Ex} {k : Bool → Store → Out α} {Qk : α → Store → List Addr → Hp → Prop} {Q : Bool → Hp → Prop} (sim : Sim K β H σ ρ) (r : RS K β S H)
    (p : Post K β S H (((ev F a ρ S).bind fun x S => blB (truth S x) S).bind k) Qk (fun c _ _ H' => E c σ H'))
    (h : ∀ t S1 β1 H1, Ext β S H β1 S1 H1 → Sim K β1 H1 σ ρ → RS K β1 S1 H1 → Post K β1 S1 H1 (k t S1) Qk (fun c _ _ H' => E c σ H') → Q t H1) : tEvT K F E a σ H Q :=
  ⟨ρ, S, β, sim, r, p.bind.mono (fun d S1 β1 H1 e1 r1 p1 => h d S1 β1 H1 e1 (sim.mono r e1) r1 p1) (fun _ _ _ _ _ _ z => z)⟩
end
theorem t_not (ha : PT X a (tEvT X.K F E ia)) : PT X (.UnaryOp .Not a pos) (tEvT X.K F E (.not ia)) := by
  refine (pt_not ha).monoE fun σ H Q h => ?_
  obtain ⟨ρ, S, β, sim, r, p⟩ := h
  rw [ev] at p
  have p' : Post X.K β S H (((ev F ia ρ S).bind fun x S => blB (truth S x) S).bind fun t S => .ok (!t) S) (fun b _ _ H' => Q b H') (fun c _ _ H' => E c σ H') := by
    revert p
    cases ev F ia ρ S with
    | ok d1 S1 =>
      dsimp only [Out.bind]
      cases truth S1 d1 with
      | none => exact id
      | some t => exact id
    | exc c S1 => exact id
    | bad => exact id
  exact seqT sim r p' fun t S1 β1 H1 e1 sim1 r1 p1 => p1 β1 H1 .refl r1
theorem t_and1 {op : BoolOp} (ha : PT X a (tEvT X.K F E ia)) : PW X (.BoolOp op [a] pos) (tEvT X.K F E ia) := by
  cases op
  · exact pw_and1 ha
  · exact pw_or1 ha
theorem t_and {rest : List Expr} (ha : PT X a (tEvT X.K F E ia)) (hb : PW X (.BoolOp .And (b :: rest) pos) (tEvT X.K F E ib)) : PW X (.BoolOp .And (a :: b :: rest) pos) (tEvT X.K F E (.and ia ib)) := by
  refine (pw_and ha hb).monoE fun σ H Q h => ?_
  obtain ⟨ρ, S, β, sim, r, p⟩ := h
  rw [ev] at p
  have p' : Post X.K β S H (((ev F ia ρ S).bind fun x S => blB (truth S x) S).bind fun t S => if t = true then ((ev F ib ρ S).bind fun x S => blB (truth S x) S) else .ok false S) (fun b _ _ H' => Q b H') (fun c _ _ H' => E c σ H') := by
    revert p
    cases ev F ia ρ S with
    | ok d1 S1 =>
      dsimp only [Out.bind]
      cases ec : truth S1 d1 with
      | none => exact id
      | some t =>
        cases t with
        | true => exact id
        | false => dsimp only [Out.bind, blB]; rw [ec]; exact id
    | exc c S1 => exact id
    | bad => exact id
  refine seqT sim r p' fun t S1 β1 H1 e1 sim1 r1 p1 => ?_
  cases t with
  | true => rw [if_pos rfl] at p1 ⊢; exact ⟨ρ, S1, β1, sim1, r1, p1⟩
  | false => rw [if_neg Bool.false_ne_true] at p1 ⊢; exact p1 β1 H1 .refl r1
theorem t_or {rest : List Expr} (ha : PT X a (tEvT X.K F E ia)) (hb : PW X (.BoolOp .Or (b :: rest) pos) (tEvT X.K F E ib)) : PW X (.BoolOp .Or (a :: b :: rest) pos) (tEvT X.K F E (.or ia ib)) := by
  refine (pw_or ha hb).monoE fun σ H Q h => ?_
  obtain ⟨ρ, S, β, sim, r, p⟩ := h
  rw [ev] at p
  have p' : Post X.K β S H (((ev F ia ρ S).bind fun x S => blB (truth S x) S).bind fun t S => if t = true then .ok true S else ((ev F ib ρ S).bind fun x S => blB (truth S x) S)) (fun b _ _ H' => Q b H') (fun c _ _ H' => E c σ H') := by
    revert p
    cases ev F ia ρ S with
    | ok d1 S1 =>
      dsimp only [Out.bind]
      cases ec : truth S1 d1 with
      | none => exact id
      | some t =>
        cases t with
        | true => dsimp only [Out.bind, blB]; rw [ec]; exact id
        | false => exact id
    | exc c S1 => exact id
    | bad => exact id
  refine seqT sim r p' fun t S1 β1 H1 e1 sim1 r1 p1 => ?_
  cases t with
  | true => rw [if_pos rfl] at p1 ⊢; exact p1 β1 H1 .refl r1
  | false => rw [if_neg Bool.false_ne_true] at p1 ⊢; exact ⟨ρ, S1, β1, sim1, r1, p1⟩
/-- a if t else b -/
theorem s_ife (hc : PT X c (tEvT X.K F E ic)) (ha : PE X a (tEv X.K F E ia)) (hb : PE X b (tEv X.K F E ib)) : PE X (.IfExp c a b pos) (tEv X.K F E (.ife ic ia ib)) := by
  refine (pe_ifExp hc ha hb).monoE fun σ H Q h => ?_
  obtain ⟨ρ, S, β, sim, r, p⟩ := h
  unfold PV at p
  rw [ev] at p
  have p' : Post X.K β S H (((ev F ic ρ S).bind fun x S => blB (truth S x) S).bind fun t S => if t = true then ev F ia ρ S else ev F ib ρ S) (fun d S' β' H' => ∀ v, RV X.K β' H' d v → Q v H') (fun c _ _ H' => E c σ H') := by
    revert p
    cases ev F ic ρ S with
    | ok d1 S1 =>
      dsimp only [Out.bind]
      cases ec : truth S1 d1 with
      | none => exact id
      | some t => cases t <;> exact id
    | exc c S1 => exact id
    | bad => exact id
  refine seqT sim r p' fun t S1 β1 H1 e1 sim1 r1 p1 => ?_
  cases t with
  | true => rw [if_pos rfl] at p1 ⊢; exact ⟨ρ, S1, β1, sim1, r1, p1⟩
  | false => rw [if_neg Bool.false_ne_true] at p1 ⊢; exact ⟨ρ, S1, β1, sim1, r1, p1⟩
/-- a[i], a[l:h] -/
theorem s_idx {k : Nat} (hr : Room k X.A) (ha : PE X a (tEv X.K F E ia)) (hb : PE X b (tEv X.K F E ib)) (hs : notSlice b = true) : PE X (.Subscript a b pos) (tEv X.K F E (.idx ia ib)) := by
  refine (pe_ix (ix_E (E := E) hr) ha hb (plain_ix hs)).monoE fun σ H Q h => ?_
  obtain ⟨ρ, S, β, sim, r, p⟩ := h
  unfold PV at p
  rw [ev] at p
  refine seqE sim r p fun d1 S1 β1 H1 v1 e1 sim1 r1 h1 p1 => ?_
  refine seqE sim1 r1 p1 fun d2 S2 β2 H2 v2 e2 sim2 r2 h2 p2 => ?_
  exact ⟨σ, β2, S2, d1, d2, r2, h1.mono r1 e2, h2, p2⟩
/-- a part of a slice -/
def tEvO (K : PySem.W.Frag) (F : FS) (E : XW) (e : Ex) : TO := fun σ H Q => ∃ ρ S β, Sim K β H σ ρ ∧ RS K β S H ∧
  Post K β S H (ev F e ρ S) (fun d S' β' H' => ∃ o, partO d = some o ∧ Q o H') (fun c _ _ H' => E c σ H')
theorem o_none : PO X none (tEvO X.K F E (.dat .non)) := by
  refine ⟨fun pins s σ H Q I h => po_none.run pins s σ H Q I ?_⟩
  obtain ⟨ρ, S, β, sim, r, p⟩ := h
  rw [ev] at p
  obtain ⟨o, e, q⟩ := p β H .refl r
  cases e
  exact q
theorem o_some (ha : PE X a (tEv X.K F E ia)) : PO X (some a) (tEvO X.K F E ia) := by
  refine ⟨fun pins s σ H Q I h => ?_⟩
  obtain ⟨ρ, S, β, sim, r, p⟩ := h
  refine thn (ha.run pins s σ H (fun v H1 => (∃ i, v = .int i ∧ Q (some i) H1) ∨ (v = .non ∧ Q none H1)) I ⟨ρ, S, β, sim, r, p.mono (fun d S1 β1 H1 e1 r1 q v hv => ?_) fun _ _ _ _ _ _ z => z⟩) fun u s1 ⟨v, H1, I1, rv, q⟩ => ?_
  · obtain ⟨o, e, q⟩ := q
    cases d with
    | non => cases e; rw [RV] at hv; exact .inr ⟨hv, q⟩
    | int i => cases e; rw [RV] at hv; exact .inl ⟨i, hv, q⟩
    | _ => exact nomatch e
  · rcases q with ⟨i, rfl, q⟩ | ⟨rfl, q⟩
    · obtain ⟨t, rfl⟩ := rv
      exact ⟨some i, H1, I1, by constructor, q⟩
    · obtain rfl : u = Value.none := rv
      exact ⟨none, H1, I1, by constructor, q⟩
theorem s_slc {lo hi : Option Expr} {il ih : Ex} {p2 : Pos} (ha : PE X a (tEv X.K F E ia)) (hl : PO X lo (tEvO X.K F E il)) (hh : PO X hi (tEvO X.K F E ih)) : PE X (.Subscript a (.Slice lo hi none p2) pos) (tEv X.K F E (.slc ia il ih)) := by
  refine (pe_slice (sl_E (E := E)) ha hl hh).monoE fun σ H Q h => ?_
  obtain ⟨ρ, S, β, sim, r, p⟩ := h
  unfold PV at p
  rw [ev] at p
  refine seqE sim r p fun d1 S1 β1 H1 v1 e1 sim1 r1 h1 p1 => ?_
  refine ⟨ρ, S1, β1, sim1, r1, p1.bind.mono (fun d2 S2 β2 H2 e2 r2 p2 => ?_) fun _ _ _ _ _ _ z => z⟩
  split at p2
  · rename_i l el
    refine ⟨l, el, ρ, S2, β2, sim1.mono r1 e2, r2, p2.bind.mono (fun d3 S3 β3 H3 e3 r3 p3 => ?_) fun _ _ _ _ _ _ z => z⟩
    split at p3
    · rename_i h eh
      exact ⟨h, eh, σ, β3, S3, d1, r3, (h1.mono r1 e2).mono r2 e3, p3⟩
    · exact p3.elim
  · exact p2.elim
end
end Ev
set_option Elab.async false
set_option linter.all false
set_option maxRecDepth 100000
/-! Eng9: calls, what is walked. -/
namespace Ev
open PySem L2

/-- what is raised, as HandS says it; cA: where the classes stand -/
def wOf (cA : Nat → Addr) (E : XW) : WX := fun cls d σ H => ∃ c, cls = .ref (cA c) ∧ d = none ∧ E c σ H
/-- a def's promise: what the evaluator says of it -/
def spF (K : PySem.W.Frag) (cA : Nat → Addr) (F : FS) (ar fid : Nat) : Sp := fun vs H Q E' => vs.length = ar ∧ ∃ ds S β, RVs K β H ds vs ∧ RS K β S H ∧
  Post K β S H (F fid ds S) (fun d S' β' H' => ∀ v, RV K β' H' d v → Q v H') (fun c _ _ H' => E' (.ref (cA c)) none H')

section
variable {K : PySem.W.Frag} {β β' : List Addr} {S S' : Store} {H H' : Hp}
theorem RS.nil (H : Hp) : RS K [] [] H := ⟨rfl, List.nodup_nil, fun i o a h => by simp at h⟩
/-- out of a callee with a store of its own -/
theorem Ext.own (r : RS K β S H) (e : Ext [] [] H β' S' H') : RS K β S H' ∧ Ext β S H β S H' := by
  have kp : ∀ b o, H b = some o → H' b = some o := fun b o q => e.keep b o q (fun z => nomatch z)
  have ex : Ext β S H β S H' := ⟨⟨[], by simp, fun _ h => nomatch h⟩, fun b o q _ => kp b o q, e.live, fun _ _ h => h, fun _ _ h => h⟩
  exact ⟨⟨r.len, r.nd, fun i o a h1 h2 => (r.obj i o a h1 h2).of_keep (fun _ _ h => h.mono r ex) (fun _ _ h => h.mono r ex) fun u q => kp a u q⟩, ex⟩
/-- .. with a new list of its own -/
theorem Ext.ownL (r : RS K β S H) (e : Ext [] [] H β' S' H') (r' : RS K β' S' H') {j : Nat} {xs : List D} {a : Addr} (hj : S'[j]? = some (.lst xs)) (ha : β'[j]? = some a) :
    RS K (β ++ [a]) (S ++ [.lst xs]) H' ∧ Ext β S H (β ++ [a]) (S ++ [.lst xs]) H' := by
  have kp : ∀ b o, H b = some o → H' b = some o := fun b o q => e.keep b o q (fun z => nomatch z)
  obtain ⟨new, eb, hn⟩ := e.pre
  have na : H a = none := hn a (by
    rw [List.nil_append] at eb
    rw [← eb]; exact List.mem_of_getElem? ha)
  obtain ⟨r1, e1⟩ := Ext.own r e
  obtain ⟨a', vs, ha', p, h1, h2⟩ := r'.lst hj
  rw [ha] at ha'; cases ha'
  have nab : a ∉ β := fun hb => by
    obtain ⟨u, q, _⟩ := r.mutB hb
    rw [na] at q; cases q
  have lt : ∀ {n : Nat} {o' : MO}, S[n]? = some o' → (S ++ [MO.lst xs])[n]? = some o' := fun {n o'} q => by
    rw [List.getElem?_append_left (List.getElem?_eq_some_iff.mp q).1]; exact q
  have ex : Ext β S H (β ++ [a]) (S ++ [.lst xs]) H' := ⟨⟨[a], rfl, fun b hb => by rw [List.mem_singleton.mp hb]; exact na⟩, fun b o q _ => kp b o q, e.live, fun _ _ q => lt q, fun _ _ q => lt q⟩
  refine ⟨⟨by simp [r.len], ?_, fun i o' b g1 g2 => ?_⟩, ex⟩
  · rw [List.nodup_append]
    exact ⟨r.nd, by simp, fun c hc d hd => by rw [List.mem_singleton.mp hd]; exact fun z => nab (z ▸ hc)⟩
  · by_cases hi : i < S.length
    · rw [List.getElem?_append_left hi] at g1
      rw [List.getElem?_append_left (by rw [r.len]; exact hi)] at g2
      exact (r.obj i o' b g1 g2).of_keep (fun _ _ h => h.mono r ex) (fun _ _ h => h.mono r ex) fun u q => kp b u q
    · have hi' : i = S.length := by
        have := (List.getElem?_eq_some_iff.mp g1).1
        simp at this
        omega
      subst hi'
      have e1 : o' = .lst xs := by simpa using g1.symm
      have e2 : b = a := by
        rw [← r.len] at g2
        simpa using g2.symm
      rw [e1, e2]
      exact ⟨p, vs, h1, RVs.pureB xs vs p h2⟩
theorem closed_mem {n : Nat} {S : Store} (h : closedS n S = true) {i : Nat} {o : MO} (e : S[i]? = some o) : o.closed n = true := List.all_eq_true.mp h o (List.mem_of_getElem? e)
/-- only the first n objects are kept -/
theorem Ext.cut (r : RS K β S H) (e : Ext β S H β' S' H') (r' : RS K β' S' H') (hc : closedS S.length (S'.take S.length) = true) : RS K β (S'.take S.length) H' ∧ Ext β S H β (S'.take S.length) H' := by
  obtain ⟨new, eb, hn⟩ := e.pre
  have ll : S.length ≤ S'.length := by
    have h1 := r.len
    have h2 := r'.len
    rw [eb, List.length_append] at h2
    omega
  have tk : ∀ {n : Nat} {o : MO}, n < S.length → S'[n]? = some o → (S'.take S.length)[n]? = some o := fun {n o} hl q => by
    rw [List.getElem?_take_of_lt hl]; exact q
  have lb : ∀ (m : Nat) a, m < S.length → β'[m]? = some a → β[m]? = some a := fun m a hm q => by
    rw [eb, List.getElem?_append_left (by rw [r.len]; exact hm)] at q
    exact q
  refine ⟨⟨by rw [List.length_take, r.len]; omega, r.nd, fun i o a g1 g2 => ?_⟩, ⟨⟨[], by simp, fun _ h => nomatch h⟩, e.keep, e.live, fun n xs q => tk (List.getElem?_eq_some_iff.mp q).1 (e.frz n xs q), fun n xs q => tk (List.getElem?_eq_some_iff.mp q).1 (e.fdic n xs q)⟩⟩
  have hi : i < S.length := by rw [← r.len]; exact (List.getElem?_eq_some_iff.mp g2).1
  have g1' : S'[i]? = some o := by rw [List.getElem?_take_of_lt hi] at g1; exact g1
  have g2' : β'[i]? = some a := by rw [eb, List.getElem?_append_left (by rw [r.len]; exact hi)]; exact g2
  have ro := r'.obj i o a g1' g2'
  have cl := closed_mem hc g1
  have kv : ∀ (kvs : List (D × D)) (gs : List (Key × V)), (kvs.all fun kv => kv.2.low S.length) = true → RKs K β' H' kvs gs → RKs K β H' kvs gs := by
    intro kvs
    induction kvs with
    | nil => intro gs _ h; rw [RKs] at h ⊢; exact h
    | cons x t ih =>
      intro gs hl h
      obtain ⟨k, d⟩ := x
      rw [RKs] at h ⊢
      rw [List.all_cons, Bool.and_eq_true] at hl
      obtain ⟨s, v, t', e1, e2, h1, h2⟩ := h
      exact ⟨s, v, t', e1, e2, RV.lowB lb d v hl.1 h1, ih t' hl.2 h2⟩
  cases o with
  | lst xs => obtain ⟨p, vs, q, z⟩ := ro; exact ⟨p, vs, q, RVs.pureB xs vs p z⟩
  | frz xs => obtain ⟨p, vs, q, z⟩ := ro; exact ⟨p, vs, q, RVs.pureB xs vs p z⟩
  | dic kvs => obtain ⟨gs, q, z⟩ := ro; exact ⟨gs, q, kv kvs gs cl z⟩
  | fdic kvs => obtain ⟨gs, q, z⟩ := ro; exact ⟨gs, q, kv kvs gs cl z⟩
  | ins _ _ => exact ro
mutual
theorem pure_low : ∀ (n : Nat) (d : D), d.pure = true → d.low n = true
  | n, .non, _ => rfl | n, .bl _, _ => rfl | n, .int _, _ => rfl | n, .str _, _ => rfl
  | n, .tup xs, h => by rw [D.pure] at h; rw [D.low]; exact pure_lows n xs h
  | n, .lit xs, h => by rw [D.pure] at h; rw [D.low]; exact pure_lows n xs h
  | n, .loc _, h => by rw [D.pure] at h; cases h
theorem pure_lows : ∀ (n : Nat) (ds : List D), D.pureAll ds = true → D.lowAll n ds = true
  | n, [], _ => rfl
  | n, d :: ds, h => by
    rw [D.pureAll, Bool.and_eq_true] at h
    rw [D.lowAll, pure_low n d h.1, pure_lows n ds h.2]; rfl
end
/-- .. and a new list besides -/
theorem Ext.cutL (r : RS K β S H) (e : Ext β S H β' S' H') (r' : RS K β' S' H') (hc : closedS S.length (S'.take S.length) = true) {m : Nat} {xs : List D} {a : Addr} (hm : S.length ≤ m) (hj : S'[m]? = some (.lst xs)) (ha : β'[m]? = some a) :
    RS K (β ++ [a]) (S'.take S.length ++ [.lst xs]) H' ∧ Ext β S H (β ++ [a]) (S'.take S.length ++ [.lst xs]) H' := by
  obtain ⟨r1, e1⟩ := Ext.cut r e r' hc
  obtain ⟨new, eb, hn⟩ := e.pre
  have hlen : (S'.take S.length).length = S.length := by rw [← r1.len, r.len]
  have nab : a ∉ β := fun hb => by
    obtain ⟨n, hn1, hn2⟩ := List.mem_iff_getElem.mp hb
    have q : β'[n]? = some a := by
      rw [eb, List.getElem?_append_left hn1, List.getElem?_eq_getElem hn1, hn2]
    obtain ⟨l1, g1⟩ := List.getElem?_eq_some_iff.mp ha
    obtain ⟨l2, g2⟩ := List.getElem?_eq_some_iff.mp q
    have := (List.getElem_inj r'.nd).mp (g1.trans g2.symm)
    rw [r.len] at hn1
    omega
  have na : H a = none := hn a (by
    have h1 : a ∈ β' := List.mem_of_getElem? ha
    rw [eb] at h1
    rcases List.mem_append.mp h1 with h1 | h1
    · exact absurd h1 nab
    · exact h1)
  obtain ⟨a', vs, ha', p, h1, h2⟩ := r'.lst hj
  rw [ha] at ha'; cases ha'
  have lt : ∀ {n : Nat} {o' : MO}, (S'.take S.length)[n]? = some o' → (S'.take S.length ++ [MO.lst xs])[n]? = some o' := fun {n o'} q => by
    rw [List.getElem?_append_left (List.getElem?_eq_some_iff.mp q).1]; exact q
  have bb : ∀ (n : Nat) c, β[n]? = some c → (β ++ [a])[n]? = some c := fun n c q => by
    rw [List.getElem?_append_left (List.getElem?_eq_some_iff.mp q).1]; exact q
  refine ⟨⟨by simp [r1.len], ?_, fun i o' b g1 g2 => ?_⟩, ⟨⟨[a], rfl, fun b hb => by rw [List.mem_singleton.mp hb]; exact na⟩, e1.keep, e1.live, fun n xs q => lt (e1.frz n xs q), fun n xs q => lt (e1.fdic n xs q)⟩⟩
  · rw [List.nodup_append]
    exact ⟨r.nd, by simp, fun c hc d hd => by rw [List.mem_singleton.mp hd]; exact fun z => nab (z ▸ hc)⟩
  · by_cases hi : i < S.length
    · rw [List.getElem?_append_left (by rw [hlen]; exact hi)] at g1
      rw [List.getElem?_append_left (by rw [r.len]; exact hi)] at g2
      exact (r1.obj i o' b g1 g2).of_keep (fun d v h => RV.of_keep (fun _ _ q => q) (fun _ _ _ q => q) bb d v h) (fun d v h => RVs.of_keep (fun _ _ q => q) (fun _ _ _ q => q) bb d v h) fun u q => q
    · have hi' : i = S.length := by
        have := (List.getElem?_eq_some_iff.mp g1).1
        rw [List.length_append, hlen] at this
        simp at this
        omega
      subst hi'
      have e1 : o' = .lst xs := by
        rw [List.getElem?_append_right (by rw [hlen]; exact Nat.le_refl _), hlen] at g1
        simpa using g1.symm
      have e2 : b = a := by
        rw [← r.len] at g2
        simpa using g2.symm
      rw [e1, e2]
      exact ⟨p, vs, h1, RVs.pureB xs vs p h2⟩
/-- what is forgotten is not needed -/
theorem gc_post {E : Nat → Store → List Addr → Hp → Prop} {Q : VK} {d : D} (r : RS K β S H) (h : Post K β S H (gc S.length d S') (fun d S' β' H' => ∀ v, RV K β' H' d v → Q v H') E) (e : Ext β S H β' S' H') (r' : RS K β' S' H') (v : V) (hv : RV K β' H' d v) : Q v H' := by
  unfold gc at h
  split at h
  · exact h β' H' e r' v hv
  · split at h
    · rename_i hc
      obtain ⟨r1, e1⟩ := Ext.cut r e r' hc
      obtain ⟨new, eb, hn⟩ := e.pre
      split at h
      · rename_i hl
        refine h β H' e1 r1 v (RV.lowB (fun m a hm q => ?_) d v hl hv)
        rw [eb, List.getElem?_append_left (by rw [r.len]; exact hm)] at q
        exact q
      · rename_i hl
        split at h
        · rename_i m
          split at h
          · rename_i xs g
            have hm : S.length ≤ m := by
              rw [D.low] at hl
              have := of_decide_eq_false (by simpa using hl : decide (m < S.length) = false)
              omega
            rw [RV] at hv
            obtain ⟨a, rfl, ha⟩ := hv
            obtain ⟨r2, e2⟩ := Ext.cutL r e r' hc hm g ha
            refine h _ H' e2 r2 _ ?_
            rw [RV]
            refine ⟨a, rfl, ?_⟩
            rw [← r.len]
            simp
          · exact h β' H' e r' v hv
        · exact h β' H' e r' v hv
    · exact h β' H' e r' v hv
end

theorem evs_len {F : FS} {ρ : Env} : ∀ (es : Exs) {S S' : Store} {ds : List D}, evs F es ρ S = .ok ds S' → ds.length = es.len
  | .nil, S, S', ds, h => by rw [evs] at h; cases h; rfl
  | .cons e es, S, S', ds, h => by
    rw [evs] at h
    cases e1 : ev F e ρ S with
    | ok d S1 =>
      rw [e1] at h
      dsimp only [Out.bind] at h
      cases e2 : evs F es ρ S1 with
      | ok ds2 S2 =>
        rw [e2] at h
        cases h
        rw [List.length_cons, evs_len es e2, Exs.len]
      | exc c S2 => rw [e2] at h; cases h
      | bad => rw [e2] at h; cases h
    | exc c S1 => rw [e1] at h; cases h
    | bad => rw [e1] at h; cases h
theorem seqEsL {K : PySem.W.Frag} {F : FS} {E : XW} {β : List Addr} {S : Store} {H : Hp} {σ : L2.St} {ρ : Env} {α : Type} {es : Exs} {k : List D → Store → Out α} {Qk : α → Store → List Addr → Hp → Prop} {Q : List V → Hp → Prop} (sim : Sim K β H σ ρ) (r : RS K β S H) (p : Post K β S H ((evs F es ρ S).bind k) Qk (fun c _ _ H' => E c σ H'))
    (h : ∀ ds S1 β1 H1 vs, ds.length = es.len → Ext β S H β1 S1 H1 → Sim K β1 H1 σ ρ → RS K β1 S1 H1 → RVs K β1 H1 ds vs → Post K β1 S1 H1 (k ds S1) Qk (fun c _ _ H' => E c σ H') → Q vs H1) : tEvs K F E es σ H Q := by
  refine ⟨ρ, S, β, sim, r, ?_⟩
  have p' := p.bind
  cases eo : evs F es ρ S with
  | ok ds S1 =>
    rw [eo] at p'
    exact fun β1 H1 e1 r1 vs hv => h ds S1 β1 H1 vs (evs_len es eo) e1 (sim.mono r e1) r1 hv (p' β1 H1 e1 r1)
  | exc c S1 => rw [eo] at p'; exact p'
  | bad => rw [eo] at p'; exact p'

section
variable {X : Cx} {F : FS} {E : XW} {cA : Nat → Addr} {pos p : Pos} {x : Str}
/-- a call's outcome, in the caller's store -/
theorem callF_sp {K : PySem.W.Frag} {β : List Addr} {S : Store} {H : Hp} {σ : L2.St} {ds : List D} {vs : List V} {ar fid : Nat} {Q : VK} (hl : vs.length = ar) (r : RS K β S H) (hv : RVs K β H ds vs)
    (q : PV K E σ β S H (callF F fid ds S) Q) : spF K cA F ar fid vs H Q (WE (wOf cA E) σ) := by
  unfold callF at q
  split at q
  · rename_i hp
    refine ⟨hl, ds, [], [], RVs.pureB ds vs hp hv, RS.nil H, ?_⟩
    cases eo : F fid ds [] with
    | bad => rw [eo] at q; exact q.elim
    | exc c S' =>
      rw [eo] at q
      intro β' H' e r'
      obtain ⟨r1, e1⟩ := Ext.own r e
      exact ⟨c, rfl, rfl, q β H' e1 r1⟩
    | ok d S' =>
      rw [eo] at q
      dsimp only at q
      unfold impD at q
      intro β' H' e r' v h
      split at q
      · rename_i hd
        obtain ⟨r1, e1⟩ := Ext.own r e
        exact q β H' e1 r1 v (RV.pureB d v hd h)
      · split at q
        · rename_i j
          split at q
          · rename_i xs g
            rw [RV] at h
            obtain ⟨a, rfl, ha⟩ := h
            obtain ⟨r1, e1⟩ := Ext.ownL r e r' g ha
            refine q _ H' e1 r1 _ ?_
            rw [RV]
            refine ⟨a, rfl, ?_⟩
            rw [← r.len]
            simp
          · exact q.elim
        · exact q.elim
  · refine ⟨hl, ds, S, β, hv, r, ?_⟩
    cases eo : F fid ds S with
    | bad => rw [eo] at q; exact q.elim
    | exc c S' =>
      rw [eo] at q
      intro β' H' e r'
      exact ⟨c, rfl, rfl, q β' H' e r'⟩
    | ok d S' =>
      rw [eo] at q
      intro β' H' e r' v h
      exact gc_post r q e r' v h
theorem s_call {k ar fid : Nat} {f : Addr} {fd : FuncData} {ps : List Str} {e : Expr} {es : List Expr} {ies : Exs} (G : FnOk X.prog X.w X.K X.mg X.base (L2.CX X.prog X.w) k f fd ps (spF X.K cA F ar fid)) (hr : Room k X.A) (hg : Gl X x) (hm : X.mg x = some (.ref f))
    (hk : PySem.W.keepIn X.K (.ref f) = true) (hb : Binds X.K fd ps []) (tk : Takes X (wOf cA E)) (ha : PA X (e :: es) (tEvs X.K F E ies)) (hdb : (x == ("__debug__" : Str)) = false) (hst : (e :: es).all notStar = true) (hl : ies.len = ar) :
    PE X (.Call (.Name x p) (e :: es) [] pos) (tEv X.K F E (.call fid ies)) := by
  rw [List.all_cons, Bool.and_eq_true] at hst
  refine (pe_callS G hr hg hm hk hb (fun σ => passAt tk σ) ha hdb (star_cons hst.1) (star_any hst.2)).monoE fun σ H Q h => ?_
  obtain ⟨ρ, S, β, sim, r, p⟩ := h
  unfold PV at p
  rw [ev] at p
  refine seqEsL sim r p fun ds S1 β1 H1 vs hd e1 sim1 r1 hvs p1 => ?_
  exact callF_sp (by rw [hvs.length, hd, hl]) r1 hvs p1
/-- f() -/
theorem s_call0 {k fid : Nat} {f : Addr} {fd : FuncData} {ps : List Str} (G : FnOk X.prog X.w X.K X.mg X.base (L2.CX X.prog X.w) k f fd ps (spF X.K cA F 0 fid)) (hr : Room k X.A) (hg : Gl X x) (hm : X.mg x = some (.ref f))
    (hk : PySem.W.keepIn X.K (.ref f) = true) (hb : Binds X.K fd ps []) (tk : Takes X (wOf cA E)) (hdb : (x == ("__debug__" : Str)) = false) :
    PE X (.Call (.Name x p) [] [] pos) (tEv X.K F E (.call fid .nil)) := by
  refine ⟨fun pins s σ H Q I h => ?_⟩
  refine wpAny_Call_Name_kw (ld_glob I hg hm ?_ hdb)
  refine PySem.W.callWith_K0 I.kIn hk (run_fnS (us := []) G hr hb (passAt tk σ) I .nil ?_)
  obtain ⟨ρ, S, β, sim, r, p⟩ := h
  unfold PV at p
  rw [ev, evs] at p
  exact callF_sp rfl r RVs.nil p

/-! ### built-in functions, types, methods -/
theorem s_biB {id : String} {b : Bi} {e : Expr} {es : List Expr} {ies : Exs} (hc : CallR X (.builtin id) (rDs X.K E (biD b))) (hg : Gl X x) (hm : X.mg x = none) (hv : bootBuiltins x = some (.builtin id)) (ha : PA X (e :: es) (tEvs X.K F E ies)) (hn : x ≠ "__name__")
    (hdb : (x == ("__debug__" : Str)) = false) (hst : (e :: es).all notStar = true) : PE X (.Call (.Name x p) (e :: es) [] pos) (tEv X.K F E (.bi b ies)) := by
  rw [List.all_cons, Bool.and_eq_true] at hst
  refine (pe_callB hc hg hm hv ha hn hdb (star_cons hst.1) (star_any hst.2)).monoE fun σ H Q h => ?_
  obtain ⟨ρ, S, β, sim, r, p⟩ := h
  unfold PV at p
  rw [ev] at p
  refine seqEs sim r p fun ds S1 β1 H1 vs e1 sim1 r1 hvs p1 => ?_
  exact ⟨σ, β1, S1, ds, r1, hvs, p1⟩
theorem s_biT {id : String} {b : Bi} {e : Expr} {es : List Expr} {ies : Exs} (hc : CallR X (.type id) (rDs X.K E (biD b))) (hg : Gl X x) (hm : X.mg x = none) (hv : bootBuiltins x = some (.type id)) (ha : PA X (e :: es) (tEvs X.K F E ies)) (hn : x ≠ "__name__")
    (hdb : (x == ("__debug__" : Str)) = false) (hst : (e :: es).all notStar = true) : PE X (.Call (.Name x p) (e :: es) [] pos) (tEv X.K F E (.bi b ies)) := by
  rw [List.all_cons, Bool.and_eq_true] at hst
  refine (pe_callTy hc hg hm hv ha hn hdb (star_cons hst.1) (star_any hst.2)).monoE fun σ H Q h => ?_
  obtain ⟨ρ, S, β, sim, r, p⟩ := h
  unfold PV at p
  rw [ev] at p
  refine seqEs sim r p fun ds S1 β1 H1 vs e1 sim1 r1 hvs p1 => ?_
  exact ⟨σ, β1, S1, ds, r1, hvs, p1⟩
end
section
variable {X : Cx} {F : FS} {E : XW} {pos apos : Pos} {o : Expr} {io : Ex}
theorem tyV_str {K : PySem.W.Frag} {β : List Addr} {H : Hp} {s : List Nat} {v : V} (h : RV K β H (.str s) v) : tyV K "str" v H := by
  rw [RV] at h; subst h; exact rfl
/-- o.m(e): the receiver's type is told by the operation, whatever the argument comes to -/
theorem s_m1 {name : Str} {T id : String} {m : Me} {f : D → D → Store → Out D} {e : Expr} {ie : Ex} (pa : PlainAttrs T) (slot : Slot T name id) (hty : typeOf (.builtin id) = pure (.type "method_descriptor")) (hm : MtR X id (rM1 X.K E f))
    (hf : ∀ a, methD m a = one (f a)) (ty : ∀ {β : List Addr} {S : Store} {H : Hp} {a : D} {v : V}, RS X.K β S H → RV X.K β H a v → tyOk m S a = true → tyV X.K T v H)
    (ho : PE X o (tEv X.K F E io)) (he : PE X e (tEv X.K F E ie)) (hn : notCall o = true) (hline : (apos.endLine == pos.line) = true) (hst : notStar e = true) :
    PE X (.Call (.Attribute o name apos) [e] [] pos) (tEv X.K F E (.meth m io (.cons ie .nil))) := by
  have hst' : ([e] : List Expr).all notStar = true := by simp [hst]
  refine (pe_bm pa slot hty hm ho (s_cons he s_nil hst) (attr_base hn _) ?_ hline (star_cons hst) rfl).monoE fun σ H Q h => ?_
  · rw [star_all hst']
    rfl
  · obtain ⟨ρ, S, β, sim, r, p⟩ := h
    unfold PV at p
    rw [ev] at p
    refine seqE sim r p fun a S1 β1 H1 v e1 sim1 r1 hv p1 => ?_
    split at p1
    · rename_i ht
      refine ⟨ty r1 hv ht, seqEs sim1 r1 p1 fun ds S2 β2 H2 vs e2 sim2 r2 hvs p2 => ?_⟩
      rw [hf] at p2
      unfold one at p2
      split at p2
      · obtain ⟨w, rfl, hw⟩ := hvs.one_of
        exact ⟨σ, β2, S2, a, _, w, r2, rfl, hv.mono r1 e2, hw, p2⟩
      · exact p2.elim
    · exact p1.elim
theorem s_m2 {name : Str} {T id : String} {m : Me} {f : D → D → D → Store → Out D} {e g : Expr} {ie ig : Ex} (pa : PlainAttrs T) (slot : Slot T name id) (hty : typeOf (.builtin id) = pure (.type "method_descriptor"))
    (hm : MtR X id (fun x xs H Q => ∃ σ β S a d e v w, RS X.K β S H ∧ xs = [v, w] ∧ RV X.K β H a x ∧ RV X.K β H d v ∧ RV X.K β H e w ∧ PV X.K E σ β S H (f a d e S) Q))
    (hf : ∀ a, methD m a = two (f a)) (ty : ∀ {β : List Addr} {S : Store} {H : Hp} {a : D} {v : V}, RS X.K β S H → RV X.K β H a v → tyOk m S a = true → tyV X.K T v H)
    (ho : PE X o (tEv X.K F E io)) (he : PE X e (tEv X.K F E ie)) (hg : PE X g (tEv X.K F E ig)) (hn : notCall o = true) (hline : (apos.endLine == pos.line) = true) (hst : notStar e = true) (hst2 : notStar g = true) :
    PE X (.Call (.Attribute o name apos) [e, g] [] pos) (tEv X.K F E (.meth m io (.cons ie (.cons ig .nil)))) := by
  have hst' : ([e, g] : List Expr).all notStar = true := by simp [hst, hst2]
  have hst2' : ([g] : List Expr).all notStar = true := by simp [hst2]
  refine (pe_bm pa slot hty hm ho (s_cons he (s_cons hg s_nil hst2) hst) (attr_base hn _) ?_ hline (star_cons hst) (star_any hst2')).monoE fun σ H Q h => ?_
  · rw [star_all hst']
    rfl
  · obtain ⟨ρ, S, β, sim, r, p⟩ := h
    unfold PV at p
    rw [ev] at p
    refine seqE sim r p fun a S1 β1 H1 v e1 sim1 r1 hv p1 => ?_
    split at p1
    · rename_i ht
      refine ⟨ty r1 hv ht, seqEs sim1 r1 p1 fun ds S2 β2 H2 vs e2 sim2 r2 hvs p2 => ?_⟩
      rw [hf] at p2
      unfold two at p2
      split at p2
      · obtain ⟨w, u, rfl, hw, hu⟩ := hvs.two_of
        exact ⟨σ, β2, S2, a, _, _, w, u, r2, rfl, hv.mono r1 e2, hw, hu, p2⟩
      · exact p2.elim
    · exact p1.elim
theorem ty_str {m : Me} (hm : ∀ S a, tyOk m S a = isStr a) {K : PySem.W.Frag} {β : List Addr} {S : Store} {H : Hp} {a : D} {v : V} (r : RS K β S H) (h : RV K β H a v) (t : tyOk m S a = true) : tyV K "str" v H := by
  rw [hm] at t
  cases a with
  | str s => exact tyV_str h
  | _ => exact nomatch t
theorem ty_list {m : Me} (hm : ∀ S a, tyOk m S a = (listOf S a).isSome) {K : PySem.W.Frag} {β : List Addr} {S : Store} {H : Hp} {a : D} {v : V} (r : RS K β S H) (h : RV K β H a v) (t : tyOk m S a = true) : tyV K "list" v H := by
  rw [hm] at t
  cases e : listOf S a with
  | none => rw [e] at t; cases t
  | some xs =>
    obtain ⟨p, vs, rfl, sq, _⟩ := r.list h e
    exact .inl ⟨rfl, vs, sq⟩
theorem ty_dict {m : Me} (hm : ∀ S a, tyOk m S a = isDic S a) {K : PySem.W.Frag} {β : List Addr} {S : Store} {H : Hp} {a : D} {v : V} (r : RS K β S H) (h : RV K β H a v) (t : tyOk m S a = true) : tyV K "dict" v H := by
  rw [hm] at t
  cases a with
  | loc n =>
    rw [RV] at h
    obtain ⟨p, rfl, ha⟩ := h
    simp only [isDic] at t
    split at t
    · rename_i kvs g
      obtain ⟨a', ha', gs, e', z⟩ := r.at g
      rw [ha] at ha'; cases ha'
      exact .inr (.inr (.inl ⟨rfl, .inl ⟨gs, e'⟩⟩))
    · cases t
  | _ => exact nomatch t
theorem s_split {e : Expr} {ie : Ex} (ho : PE X o (tEv X.K F E io)) (he : PE X e (tEv X.K F E ie)) (hn : notCall o = true) (hline : (apos.endLine == pos.line) = true) (hst : notStar e = true) :
    PE X (.Call (.Attribute o "split" apos) [e] [] pos) (tEv X.K F E (.meth .split io (.cons ie .nil))) :=
  s_m1 PySem.F.plainAttrs_str PySem.F.slot_str_split PySem.F.type_str_split mt_splitE (fun _ => rfl) (ty_str fun _ _ => rfl) ho he hn hline hst
end
end Ev
set_option Elab.async false
set_option linter.all false
set_option maxRecDepth 100000
/-! Eng10: isinstance, what is walked. -/
namespace Ev
open PySem L2

section
variable {X : Cx} {F : FS} {E : XW} {pos p : Pos} {a : Expr} {ia : Ex}
theorem s_isi1 {n : Str} {t : Ty} {p2 : Pos} (ha : PE X a (tEv X.K F E ia)) (hst : notStar a = true) (hg : Gl X "isinstance") (hm : X.mg "isinstance" = none) (hgn : Gl X n) (hmn : X.mg n = none) (hv : bootBuiltins n = some (.type (tyN t))) (hn : n ≠ "__name__") (hd : (n == ("__debug__" : Str)) = false) :
    PE X (.Call (.Name "isinstance" p) [a, .Name n p2] [] pos) (tEv X.K F E (.isi ia [t])) := by
  refine (pe_callB call_isi hg hm PyProof.Rows.boot_isinstance (pa_cons ha (pa_cons (pe_bltn (v := .ty (tyN t)) hgn hmn hv rfl hn hd) pa_nil) (star_cons hst)) (by decide) (by decide) (star_cons hst) rfl).monoE fun σ H Q h => ?_
  obtain ⟨ρ, S, β, sim, r, p⟩ := h
  unfold PV at p
  rw [ev] at p
  refine seqE sim r p fun d S1 β1 H1 v e1 sim1 r1 hv p1 => ?_
  obtain ⟨b, eb, q⟩ := blO_ok (E := E) (σ := σ) r1 p1
  simp only [isTys] at eb
  cases e : isTy S1 d t with
  | none => rw [e] at eb; cases eb
  | some b' =>
    rw [e] at eb
    have hb : b' = b := by cases b' <;> simpa using eb
    subst hb
    obtain ⟨T, h1, h2, _⟩ := isTy_run r1 hv e
    exact ⟨v, .ty (tyN t), T, .type (tyN t), b', rfl, .ty _, h1, h2, q⟩
theorem s_isi2 {n1 n2 : Str} {t1 t2 : Ty} {p1 p2 p3 : Pos} {k : Nat} (ha : PE X a (tEv X.K F E ia)) (hst : notStar a = true) (hg : Gl X "isinstance") (hm : X.mg "isinstance" = none)
    (hg1 : Gl X n1) (hm1 : X.mg n1 = none) (hv1 : bootBuiltins n1 = some (.type (tyN t1))) (hn1 : n1 ≠ "__name__") (hd1 : (n1 == ("__debug__" : Str)) = false)
    (hg2 : Gl X n2) (hm2 : X.mg n2 = none) (hv2 : bootBuiltins n2 = some (.type (tyN t2))) (hn2 : n2 ≠ "__name__") (hd2 : (n2 == ("__debug__" : Str)) = false) :
    PE X (.Call (.Name "isinstance" p) [a, .Tuple [.Name n1 p1, .Name n2 p2] k p3] [] pos) (tEv X.K F E (.isi ia [t1, t2])) := by
  refine (pe_callB call_isiT hg hm PyProof.Rows.boot_isinstance (pa_cons ha (pa_cons (pe_tup (pa_cons (pe_bltn (v := .ty (tyN t1)) hg1 hm1 hv1 rfl hn1 hd1) (pa_cons (pe_bltn (v := .ty (tyN t2)) hg2 hm2 hv2 rfl hn2 hd2) pa_nil))) pa_nil) (star_cons hst)) (by decide) (by decide) (star_cons hst) rfl).monoE fun σ H Q h => ?_
  obtain ⟨ρ, S, β, sim, r, p⟩ := h
  unfold PV at p
  rw [ev] at p
  refine seqE sim r p fun d S1 β1 H1 v e1 sim1 r1 hv p1 => ?_
  refine ⟨by show 2 ≤ sizeLine; decide, fun tp np => ?_⟩
  obtain ⟨r2, e2⟩ := r1.aside (o := .tup [.ty (tyN t1), .ty (tyN t2)]) np
  have hv2' := hv.mono r1 e2
  cases eb : isTys S1 d [t1, t2] with
  | none => rw [eb] at p1; exact p1.elim
  | some b =>
    rw [eb] at p1
    have e0 : ∃ b0, isTy S1 d t1 = some b0 := by
      cases e : isTy S1 d t1 with
      | none => simp only [isTys, e] at eb; cases eb
      | some b0 => exact ⟨b0, rfl⟩
    obtain ⟨b0, e0⟩ := e0
    obtain ⟨T, h1, _, h3⟩ := isTy_run r2 hv2' e0
    refine ⟨v, tp, [.ty (tyN t1), .ty (tyN t2)], T, [.type (tyN t1), .type (tyN t2)], b, rfl, upd_same, .cons (.ty _) (.cons (.ty _) .nil), h1, isTys_run h3 eb, ?_⟩
    exact p1 β1 _ e2 r2 _ (by rw [RV])
end

/-! ### what is walked -/
/-- J yields the items of w, wherever it goes on -/
structure WalkOk (K : PySem.W.Frag) (w : Items) (β0 : List Addr) (S0 : Store) (H0 : Hp) (J : L2.It) : Prop where
  go : ∀ β S H, Ext β0 S0 H0 β S H → RS K β S H → ∀ (i : Nat) d, w.xs[i]? = some d → J.go i H ∧ ∀ x H', J.yld i H x H' → RS K β S H' ∧ Ext β S H β S H' ∧ RV K β H' d x
  stop : ∀ β S H, Ext β0 S0 H0 β S H → RS K β S H → ∀ i, w.xs.length ≤ i → J.stop i H
section
variable {K : PySem.W.Frag} {β : List Addr} {S : Store} {H : Hp} {ds : List D} {l : Option Nat}
/-- a list that is read the same at each turn -/
theorem walk_list {a : Addr} (h : ∀ β1 S1 H1, Ext β S H β1 S1 H1 → RS K β1 S1 H1 → ∃ vs, SqL K H1 a vs ∧ RVs K β1 H1 ds vs) : WalkOk K ⟨ds, l⟩ β S H (Itl K a) := by
  refine ⟨fun β1 S1 H1 e1 r1 i d hd => ?_, fun β1 S1 H1 e1 r1 i hi => ?_⟩
  · obtain ⟨vs, sq, z⟩ := h β1 S1 H1 e1 r1
    obtain ⟨v, gv, rv⟩ := z.get hd
    refine ⟨⟨vs, v, sq, gv⟩, fun x H' y => ?_⟩
    obtain ⟨rfl, f⟩ := y
    have := f vs sq
    rw [gv] at this
    cases this
    exact ⟨r1, .refl, rv⟩
  · obtain ⟨vs, sq, z⟩ := h β1 S1 H1 e1 r1
    exact ⟨vs, sq, by rw [z.length]; exact hi⟩
theorem walk_tup {a : Addr} (r : RS K β S H) (h : RV K β H (.tup ds) (.ref a)) : WalkOk K ⟨ds, l⟩ β S H (Itt K a) := by
  have g : ∀ β1 S1 H1, Ext β S H β1 S1 H1 → ∃ vs, SqT K H1 a vs ∧ RVs K β1 H1 ds vs := fun β1 S1 H1 e1 => by
    have h' := h.mono r e1
    rw [RV] at h'
    obtain ⟨a', vs, e, q, z⟩ := h'
    cases e
    exact ⟨vs, q, z⟩
  refine ⟨fun β1 S1 H1 e1 r1 i d hd => ?_, fun β1 S1 H1 e1 r1 i hi => ?_⟩
  · obtain ⟨vs, sq, z⟩ := g β1 S1 H1 e1
    obtain ⟨v, gv, rv⟩ := z.get hd
    refine ⟨⟨vs, v, sq, gv⟩, fun x H' y => ?_⟩
    obtain ⟨rfl, f⟩ := y
    have := f vs sq
    rw [gv] at this
    cases this
    exact ⟨r1, .refl, rv⟩
  · obtain ⟨vs, sq, z⟩ := g β1 S1 H1 e1
    exact ⟨vs, sq, by rw [z.length]; exact hi⟩
theorem walk_str (s : List Nat) : WalkOk K ⟨s.map fun c => .str [c], l⟩ β S H (Its (sA s)) := by
  refine ⟨fun β1 S1 H1 e1 r1 i d hd => ?_, fun β1 S1 H1 e1 r1 i hi => ?_⟩
  · rw [List.getElem?_map] at hd
    obtain ⟨c, hc, rfl⟩ := Option.map_eq_some_iff.mp hd
    refine ⟨by
      show i < (sA s).cps.size
      simpa using (List.getElem?_eq_some_iff.mp hc).1, fun x H' y => ?_⟩
    obtain ⟨rfl, c', hc', rfl⟩ := y
    have : c' = c := by
      have q : s[i]? = some c' := by simpa using hc'
      rw [hc] at q
      exact (Option.some.inj q).symm
    subst this
    exact ⟨r1, .refl, by rw [RV]⟩
  · show (sA s).cps.size ≤ i
    simpa using hi
theorem upFrom_get : ∀ (n : Nat) (lo : Int) (i : Nat), (upFrom lo n)[i]? = if i < n then some (.int (lo + i)) else none
  | 0, lo, i => by rw [upFrom]; simp
  | n + 1, lo, i => by
    rw [upFrom]
    cases i with
    | zero => simp
    | succ i =>
      rw [List.getElem?_cons_succ, upFrom_get n (lo + 1) i]
      by_cases h : i < n
      · rw [if_pos h, if_pos (by omega)]
        congr 2
        omega
      · rw [if_neg h, if_neg (by omega)]
theorem upFrom_len (lo : Int) (n : Nat) : (upFrom lo n).length = n := by
  induction n generalizing lo with
  | zero => rfl
  | succ n ih => rw [upFrom, List.length_cons, ih]
theorem walk_range (lo : Int) (n : Nat) : WalkOk K ⟨upFrom lo n, l⟩ β S H (Itr lo n) := by
  refine ⟨fun β1 S1 H1 e1 r1 i d hd => ?_, fun β1 S1 H1 e1 r1 i hi => ?_⟩
  · rw [upFrom_get] at hd
    split at hd
    · rename_i hi
      cases hd
      refine ⟨hi, fun x H' y => ?_⟩
      obtain ⟨rfl, rfl⟩ := y
      exact ⟨r1, .refl, by rw [RV]⟩
    · cases hd
  · rw [upFrom_len] at hi; exact hi
theorem zipD_get : ∀ (xs ys : List D) (i : Nat) (d : D), (zipD xs ys)[i]? = some d → ∃ x y, xs[i]? = some x ∧ ys[i]? = some y ∧ d = .tup [x, y]
  | [], ys, i, d, h => by simp [zipD] at h
  | x :: xs, [], i, d, h => by simp [zipD] at h
  | x :: xs, y :: ys, i, d, h => by
    rw [zipD] at h
    cases i with
    | zero => simp at h; exact ⟨x, y, rfl, rfl, h.symm⟩
    | succ i => simpa using zipD_get xs ys i d (by simpa using h)
theorem zipD_len : ∀ (xs ys : List D), (zipD xs ys).length = min xs.length ys.length
  | [], ys => by simp [zipD]
  | x :: xs, [] => by simp [zipD]
  | x :: xs, y :: ys => by rw [zipD, List.length_cons, zipD_len xs ys, List.length_cons, List.length_cons]; omega
theorem walk_zipT {a b : Addr} {es : List D} (r : RS K β S H) (h : RV K β H (.tup ds) (.ref a)) (h' : RV K β H (.tup es) (.ref b)) : WalkOk K ⟨zipD ds es, l⟩ β S H (RZ.ItzT K a b) := by
  have g : ∀ {ds : List D} {a : Addr} β1 S1 H1, RV K β H (.tup ds) (.ref a) → Ext β S H β1 S1 H1 → ∃ vs, SqT K H1 a vs ∧ RVs K β1 H1 ds vs := fun {ds a} β1 S1 H1 h e1 => by
    have h' := h.mono r e1
    rw [RV] at h'
    obtain ⟨a', vs, e, q, z⟩ := h'
    cases e
    exact ⟨vs, q, z⟩
  refine ⟨fun β1 S1 H1 e1 r1 i d hd => ?_, fun β1 S1 H1 e1 r1 i hi => ?_⟩
  · obtain ⟨vs, sq, z⟩ := g β1 S1 H1 h e1
    obtain ⟨ws, sq2, z2⟩ := g β1 S1 H1 h' e1
    obtain ⟨x, y, hx, hy, rfl⟩ := zipD_get ds es i d hd
    obtain ⟨v, gv, rv⟩ := z.get hx
    obtain ⟨w, gw, rw'⟩ := z2.get hy
    refine ⟨⟨vs, ws, v, w, sq, sq2, gv, gw⟩, fun u H' yy => ?_⟩
    obtain ⟨T, x', y', rfl, nT, rfl, f1, f2⟩ := yy
    have q1 := f1 vs sq
    rw [gv] at q1
    cases q1
    have q2 := f2 ws sq2
    rw [gw] at q2
    cases q2
    obtain ⟨r2, e2⟩ := r1.aside (o := .tup [v, w]) nT
    refine ⟨r2, e2, ?_⟩
    rw [RV]
    exact ⟨T, _, rfl, .of upd_same, (RVs.cons rv (RVs.one rw')).mono r1 e2⟩
  · obtain ⟨vs, sq, z⟩ := g β1 S1 H1 h e1
    obtain ⟨ws, sq2, z2⟩ := g β1 S1 H1 h' e1
    rw [zipD_len] at hi
    refine ⟨vs, ws, sq, sq2, ?_⟩
    rw [z.length, z2.length]
    omega
end
/-- what is locked was not locked ahead -/
def LockOk (S : Store) (l : Option Nat) : Prop := ∀ m, l = some m → (∀ xs, S[m]? ≠ some (.frz xs)) ∧ ∀ xs, S[m]? ≠ some (.fdic xs)
theorem LockOk.none {S : Store} : LockOk S none := fun _ h => nomatch h
def tEvI (K : PySem.W.Frag) (F : FS) (E : XW) (it : It) : TI := fun σ H R => ∃ ρ S β, Sim K β H σ ρ ∧ RS K β S H ∧
  Post K β S H (evIt F it ρ S) (fun w S' β' H' => ∀ J, WalkOk K w β' S' H' J → LockOk S w.lock → R J H') (fun c _ _ H' => E c σ H')
section
variable {X : Cx} {F : FS} {E : XW} {tg a b : Expr} {ia ib : Ex} {pos p : Pos}
/-- whatever the value is: a list, a tuple, a text -/
theorem pi_any {l : Expr} {tl : TE} (hl : PE X l tl) : PI X tg l (fun σ H R => tl σ H fun x H1 => (∃ a xs, x = .ref a ∧ SqL X.K H1 a xs ∧ R (Itl X.K a) H1) ∨ (∃ a xs, x = .ref a ∧ SqT X.K H1 a xs ∧ R (Itt X.K a) H1) ∨ (∃ z, x = .str z ∧ R (Its z) H1)) := by
  refine ⟨fun pins s σ H R I h => ?_⟩
  refine thn (hl.run pins s σ H _ I h) fun v s1 ⟨x, H1, I1, r1, q1⟩ => ?_
  rcases q1 with ⟨a, xs, rfl, hq, q⟩ | ⟨a, xs, rfl, hq, q⟩ | ⟨z, rfl, q⟩
  · cases r1
    obtain ⟨its, rv, p, hz⟩ := I1.list hq
    refine wpAny_pyIter_list p.isList ?_
    refine ⟨s1.heap.objs.size, [s1.heap.objs.size], _, _, H1, rfl, I1.kept (t' := s1.toks) fun b o e => Heap.get?_push_of_some _ e, turn_list a _, ⟨_, Heap.get?_push_size _ rfl, rfl, rfl⟩, fun b hb => ?_, q⟩
    have e : b = s1.heap.objs.size := by simpa using hb
    subst e
    exact I1.fpOk (Nat.le_refl _) (I1.hok.fresh (Nat.le_refl _))
  · cases r1
    obtain ⟨its, rv, p, hz⟩ := I1.tuple hq
    refine wpAny_pyIter_tuple (show s1.heap.IsTuple a its.toArray from p) ?_
    refine ⟨s1.heap.objs.size, [s1.heap.objs.size], _, _, H1, rfl, I1.kept (t' := s1.toks) fun b o e => Heap.get?_push_of_some _ e, turn_tuple a _, ⟨_, Heap.get?_push_size _ rfl, rfl, rfl⟩, fun b hb => ?_, q⟩
    have e : b = s1.heap.objs.size := by simpa using hb
    subst e
    exact I1.fpOk (Nat.le_refl _) (I1.hok.fresh (Nat.le_refl _))
  · obtain ⟨t, rfl⟩ := r1
    cases ha : z.cps.all (· < 128)
    · exact wpAny_pyIter_wide ha (pi_one (tk := s1.toks) I1 _ (turn_str _ z t "str_iterator" (.inr rfl)) ⟨_, Heap.get?_push_size _ rfl, rfl, rfl⟩ q)
    · exact wpAny_pyIter_ascii ha (pi_one (tk := s1.toks) I1 _ (turn_str _ z t "str_ascii_iterator" (.inl rfl)) ⟨_, Heap.get?_push_size _ rfl, rfl, rfl⟩ q)
/-- a list as it is walked: a new one, one that is locked -/
theorem walkOf_run {K : PySem.W.Frag} {β β1 : List Addr} {S S1 : Store} {H H1 : Hp} {d : D} {x : V} {E' : Nat → Store → List Addr → Hp → Prop} {R : L2.It → Hp → Prop} (r : RS K β S H) (e1 : Ext β S H β1 S1 H1) (r1 : RS K β1 S1 H1) (hv : RV K β1 H1 d x)
    (p : Post K β S H (walkOf S.length d S1) (fun w S' β' H' => ∀ J, WalkOk K w β' S' H' J → LockOk S w.lock → R J H') E') :
    (∃ a xs, x = .ref a ∧ SqL K H1 a xs ∧ R (Itl K a) H1) ∨ (∃ a xs, x = .ref a ∧ SqT K H1 a xs ∧ R (Itt K a) H1) ∨ (∃ z, x = .str z ∧ R (Its z) H1) := by
  unfold walkOf at p
  split at p
  · have hv' := hv
    rw [RV] at hv'
    obtain ⟨a, vs, rfl, q, z⟩ := hv'
    exact .inr (.inl ⟨a, vs, rfl, q, p β1 H1 e1 r1 _ (walk_tup r1 hv) .none⟩)
  · have hv' := hv
    rw [RV] at hv'
    obtain ⟨a, vs, rfl, q, z⟩ := hv'
    refine .inl ⟨a, vs, rfl, q.sq, p β1 H1 e1 r1 _ (walk_list fun β2 S2 H2 e2 r2 => ?_) .none⟩
    have h' := hv.mono r1 e2
    rw [RV] at h'
    obtain ⟨a', vs', e, q', z'⟩ := h'
    cases e
    exact ⟨vs', q'.sq, z'⟩
  · rename_i s
    rw [RV] at hv
    exact .inr (.inr ⟨sA s, hv, p β1 H1 e1 r1 _ (walk_str s) .none⟩)
  · rename_i m
    rw [RV] at hv
    obtain ⟨a, rfl, ha⟩ := hv
    split at p
    · rename_i xs g
      obtain ⟨a', vs, ha', pu, h1, z⟩ := r1.lst g
      rw [ha] at ha'; cases ha'
      split at p
      · rename_i hc
        rw [Bool.and_eq_true] at hc
        have hm : S.length ≤ m := of_decide_eq_true hc.1
        obtain ⟨r2, e2⟩ := Ext.cut r e1 r1 hc.2
        have nab : a ∉ β := fun hb => by
          obtain ⟨new, eb, hn⟩ := e1.pre
          obtain ⟨n, hn1, hn2⟩ := List.mem_iff_getElem.mp hb
          have q : β1[n]? = some a := by
            rw [eb, List.getElem?_append_left hn1, List.getElem?_eq_getElem hn1, hn2]
          obtain ⟨l1, g1⟩ := List.getElem?_eq_some_iff.mp ha
          obtain ⟨l2, g2⟩ := List.getElem?_eq_some_iff.mp q
          have := (List.getElem_inj r1.nd).mp (g1.trans g2.symm)
          rw [r.len] at hn1
          omega
        refine .inl ⟨a, vs, rfl, .of h1, p β H1 e2 r2 _ (walk_list fun β3 S3 H3 e3 r3 => ⟨vs, .of (e3.keep a _ h1 nab), ?_⟩) .none⟩
        exact (RVs.pureB (β' := β) xs vs pu z).mono r2 e3
      · obtain ⟨r2, e2⟩ : RS K β1 (S1.set m (.frz xs)) H1 ∧ Ext β1 S1 H1 β1 (S1.set m (.frz xs)) H1 := by
          refine ⟨r1.label fun b hb => ?_, ⟨⟨[], by simp, fun _ h => nomatch h⟩, fun _ _ h _ => h, fun _ h => h, fun n ys q => ?_, fun n ys q => ?_⟩⟩
          · rw [ha] at hb; cases hb
            exact ⟨pu, vs, h1, z⟩
          · have hn : m ≠ n := fun zz => by subst zz; rw [g] at q; cases q
            rw [List.getElem?_set_ne hn]; exact q
          · have hn : m ≠ n := fun zz => by subst zz; rw [g] at q; cases q
            rw [List.getElem?_set_ne hn]; exact q
        have hl : m < S1.length := (List.getElem?_eq_some_iff.mp g).1
        refine .inl ⟨a, vs, rfl, .of h1, p β1 H1 (e1.trans e2) r2 _ (walk_list fun β3 S3 H3 e3 r3 => ?_) fun m' hm' => (by
          cases hm'
          exact ⟨fun ys q => (by rw [e1.frz m ys q] at g; cases g), fun ys q => (by rw [e1.fdic m ys q] at g; cases g)⟩)⟩
        have g3 : S3[m]? = some (.frz xs) := e3.frz m xs (List.getElem?_set_self hl)
        obtain ⟨a3, vs3, ha3, _, h3, z3⟩ := r3.frz g3
        obtain ⟨new, eb, _⟩ := e3.pre
        have : a3 = a := by
          rw [eb, List.getElem?_append_left (List.getElem?_eq_some_iff.mp ha).1, ha] at ha3
          exact (Option.some.inj ha3).symm
        subst this
        exact ⟨vs3, .of h3, z3⟩
    · rename_i xs g
      obtain ⟨a', vs, ha', pu, h1, z⟩ := r1.frz g
      rw [ha] at ha'; cases ha'
      refine .inl ⟨a, vs, rfl, .of h1, p β1 H1 e1 r1 _ (walk_list fun β3 S3 H3 e3 r3 => ?_) .none⟩
      have g3 : S3[m]? = some (.frz xs) := e3.frz m xs g
      obtain ⟨a3, vs3, ha3, _, h3, z3⟩ := r3.frz g3
      obtain ⟨new, eb, _⟩ := e3.pre
      have : a3 = a := by
        rw [eb, List.getElem?_append_left (List.getElem?_eq_some_iff.mp ha).1, ha] at ha3
        exact (Option.some.inj ha3).symm
      subst this
      exact ⟨vs3, .of h3, z3⟩
    · exact p.elim
  · exact p.elim
theorem i_of (ha : PE X a (tEv X.K F E ia)) : PI X tg a (tEvI X.K F E (.of ia)) := by
  refine (pi_any ha).monoE fun σ H R h => ?_
  obtain ⟨ρ, S, β, sim, r, p⟩ := h
  rw [evIt] at p
  refine ⟨ρ, S, β, sim, r, ?_⟩
  cases eo : ev F ia ρ S with
  | ok d S1 =>
    rw [eo] at p
    intro β1 H1 e1 r1 v hv
    exact walkOf_run r e1 r1 hv p
  | exc c S1 => rw [eo] at p; exact p
  | bad => rw [eo] at p; exact p
theorem sm62_of {i : Int} (h : sm62 i = true) : -(2 ^ 62) ≤ i ∧ i < 2 ^ 62 := by
  unfold sm62 at h
  rw [Bool.and_eq_true] at h
  exact ⟨of_decide_eq_true h.1, of_decide_eq_true h.2⟩
theorem i_range1 (hg : Gl X "range") (hm : X.mg "range" = none) (ha : PE X a (tEv X.K F E ia)) (hst : notStar a = true) : PI X tg (.Call (.Name "range" p) [a] [] pos) (tEvI X.K F E (.range1 ia)) := by
  refine (pi_range1 hg hm (pa_cons ha pa_nil (star_cons hst)) (star_cons hst)).monoE fun σ H R h => ?_
  obtain ⟨ρ, S, β, sim, r, p⟩ := h
  rw [evIt] at p
  refine seqE sim r p fun d S1 β1 H1 v e1 sim1 r1 hv p1 => ?_
  unfold range1D at p1
  split at p1
  · split at p1
    · rename_i j hj
      rw [RV] at hv
      exact ⟨j, by rw [hv], (sm62_of hj).1, (sm62_of hj).2, p1 β1 H1 .refl r1 _ (walk_range 0 _) (fun _ h => nomatch h)⟩
    · exact p1.elim
  · exact p1.elim
theorem i_range2 (hg : Gl X "range") (hm : X.mg "range" = none) (ha : PE X a (tEv X.K F E ia)) (hb : PE X b (tEv X.K F E ib)) (hst : notStar a = true) (hst2 : notStar b = true) : PI X tg (.Call (.Name "range" p) [a, b] [] pos) (tEvI X.K F E (.range2 ia ib)) := by
  refine (pi_range2 hg hm (pa_cons ha (pa_cons hb pa_nil (star_cons hst2)) (star_cons hst)) (by rw [star_cons hst, star_cons hst2]; rfl) (star_cons hst2)).monoE fun σ H R h => ?_
  obtain ⟨ρ, S, β, sim, r, p⟩ := h
  rw [evIt] at p
  refine seqE sim r p fun d S1 β1 H1 v e1 sim1 r1 hv p1 => ?_
  refine seqE sim1 r1 p1 fun d2 S2 β2 H2 v2 e2 sim2 r2 hv2 p2 => ?_
  unfold range2D at p2
  split at p2
  · split at p2
    · rename_i i j hj
      rw [Bool.and_eq_true] at hj
      rw [RV] at hv hv2
      exact ⟨i, j, by rw [hv, hv2], ⟨(sm62_of hj.1).1, (sm62_of hj.1).2, (sm62_of hj.2).1, (sm62_of hj.2).2⟩, p2 β2 H2 .refl r2 _ (walk_range i _) (fun _ h => nomatch h)⟩
    · exact p2.elim
  · exact p2.elim
theorem i_zip {elts : List Expr} {kk : Nat} {tpos : Pos} (hg : Gl X "zip") (hm : X.mg "zip" = none) (ha : PE X a (tEv X.K F E ia)) (hb : PE X b (tEv X.K F E ib)) (hst : notStar a = true) (hst2 : notStar b = true) :
    PI X (.Tuple elts kk tpos) (.Call (.Name "zip" p) [a, b] [] pos) (tEvI X.K F E (.zip ia ib)) := by
  refine (RZ.pi_zipA hg hm (pa_cons ha (pa_cons hb pa_nil (star_cons hst2)) (star_cons hst)) (star_cons hst) (star_any (by simp [hst2]))).monoE fun σ H R h => ?_
  obtain ⟨ρ, S, β, sim, r, p⟩ := h
  rw [evIt] at p
  refine seqE sim r p fun d S1 β1 H1 v e1 sim1 r1 hv p1 => ?_
  refine seqE sim1 r1 p1 fun d2 S2 β2 H2 v2 e2 sim2 r2 hv2 p2 => ?_
  unfold zipOf at p2
  split at p2
  · have h1 := hv.mono r1 e2
    have h1' := h1
    have h2' := hv2
    rw [RV] at h1' h2'
    obtain ⟨a', vs, rfl, q1, z1⟩ := h1'
    obtain ⟨b', ws, rfl, q2, z2⟩ := h2'
    exact ⟨a', b', vs, ws, rfl, .inr ⟨q1, q2, p2 β2 H2 .refl r2 _ (walk_zipT r2 h1 hv2) (fun _ h => nomatch h)⟩⟩
  · exact p2.elim
end
end Ev
set_option Elab.async false
set_option linter.all false
set_option maxRecDepth 100000
/-! Eng10e: enumerate over a tuple. -/
namespace PySem
open Sem (wp)
set_option maxHeartbeats 1000000 in
theorem meets_enum1 {v : Value} {o : Obj} {H : Heap → Prop} (B : Begins v o H) :
    Meets (Builtin.«enumerate.__new__» ⟨[.type "enumerate", v], []⟩) (fun _ R s => H s.heap ∧
      R (.ok (.ret (.ref (s.heap.push o).objs.size))) { s with heap := (s.heap.push o).push { cls := .type "enumerate", data := .fields #[.none, .bool false, .ref s.heap.objs.size, rawInt 0, .none, .none] } }) :=
  .of_wp fun prog w A R s h => by
    obtain ⟨hp, g, d, tk, os⟩ := s
    obtain ⟨h1, h⟩ := h
    have hsub := sub_enumerate
    have q1 : ∀ {A' : Around} {E : Value → Shared → Prop} {Q : Value → Shared → Prop}, Q (.ref hp.objs.size) ⟨hp.push o, g, d, tk, os⟩ → wpAny (model prog w) A' (pyIter v) Q E ⟨hp, g, d, tk, os⟩ :=
      fun q => B.iter prog w _ _ ⟨hp, g, d, tk, os⟩ _ h1 q
    wp_walk using q1
    refine wpAny_stack_any fun st => wpAny_pure ?_
    split
    · rename_i c _ _ _ _ _
      cases (c == Value.type "enumerate")
      · wp_walk using q1
        exact ⟨_, rfl, h⟩
      · wp_walk using q1
        exact ⟨_, rfl, h⟩
    · wp_walk using q1
      exact ⟨_, rfl, h⟩
theorem call_enum1 {prog : Program} {w : World} {A : Around} {E : Value → Shared → Prop} {s : Shared} {v : Value} {o : Obj} {H : Heap → Prop} {Q : Value → Shared → Prop} (B : Begins v o H) (h1 : H s.heap)
    (h : ∀ h', IsEnum h' (s.heap.objs.size + 1) s.heap.objs.size 0 .none → h'.get? s.heap.objs.size = some o → (∀ b o, s.heap.get? b = some o → h'.get? b = some o) → Q (.ref (s.heap.objs.size + 1)) { s with heap := h' }) :
    wpAny (model prog w) A (call (.type "enumerate") [v]) Q E s := by
  refine callType_new F.called_enumerate (by decide) (F.typeCall_enumerate_1 _) (F.newCall_enumerate_1 _) (fun obj => F.args_object_init_2 obj _) F.entry_enumerate_new (meets_enum1 B) ⟨h1, ?_⟩
  have hz : (s.heap.push o).objs.size = s.heap.objs.size + 1 := Heap.size_push ..
  show _ ∧ _
  rw [hz]
  have he : IsEnum ((s.heap.push o).push { cls := .type "enumerate", data := .fields #[.none, .bool false, .ref s.heap.objs.size, rawInt 0, .none, .none] }) (s.heap.objs.size + 1) s.heap.objs.size 0 .none := by
    have := Heap.get?_push_size (s.heap.push o) (o := { cls := .type "enumerate", data := .fields #[.none, .bool false, .ref s.heap.objs.size, rawInt 0, .none, .none] }) rfl
    rw [hz] at this
    exact this
  exact ⟨⟨_, he, rfl⟩, h _ he (Heap.get?_push_of_some _ (Heap.get?_push_size _ B.free)) fun b o x => Heap.get?_push_of_some _ (Heap.get?_push_of_some _ x)⟩
end PySem
namespace Ev
open PySem L2 PySem.Spec PyProof.Rows
def ItN (K : PySem.W.Frag) (a : Addr) (n : Nat) : L2.It :=
  ⟨fun i H => ∃ (xs : List V) (x : V), SqT K H a xs ∧ xs[i]? = some x ∧ xs.length = n, fun i H v H' => ∃ T x, v = .ref T ∧ H T = none ∧ H' = upd H T (.tup [.int (i : Nat), x]) ∧ ∀ xs, SqT K H a xs → xs[i]? = some x, fun i H => n ≤ i ∧ ∃ xs : List V, SqT K H a xs ∧ xs.length = n⟩
theorem turn_enumT {P : Program} {w : World} {K : PySem.W.Frag} {elts : List Expr} {kk : Nat} {tpos : Pos} (a e it : Addr) (n : Nat) :
    Turn P w K (.Tuple elts kk tpos) (ItN K a n) [e, it] e (fun i h => (∃ old, IsEnum h e it ((i : Nat) : Int) old) ∧ h.IsTupleIter it a i ∧ e ≠ it ∧ e ≠ a ∧ a ≠ it ∧ i ≤ n) where
  mem := by simp
  obj := fun i h st b hb => by
    obtain ⟨⟨old, he⟩, ⟨o, ho, hc, hd⟩, _⟩ := st
    have e' : b = e ∨ b = it := by simpa using hb
    rcases e' with z | z
    · rw [z]; exact ⟨_, he, fun v q => nomatch q⟩
    · rw [z]; exact ⟨o, ho, fun v q => by rw [hd] at q; cases q⟩
  keep := fun i h h' st k => let ⟨⟨old, he⟩, hi, hne⟩ := st; ⟨⟨old, k e (by simp) _ he⟩, hi.at fun o q => k it (by simp) o q, hne⟩
  item := by
    intro X hP hw hK hc i pins s σ H E I hf st hg
    subst hP hw hK
    obtain ⟨⟨old, he⟩, hit, hne, hea, hai, hin⟩ := st
    obtain ⟨xs, x, hq, hx, hxn⟩ := hg
    have hin1 : i + 1 ≤ n := by
      have := (List.getElem?_eq_some_iff.mp hx).1
      omega
    obtain ⟨its, rv, p, hz⟩ := I.tuple hq
    obtain ⟨u, hu, ru⟩ := rv.get hx
    have hel : e < s.heap.objs.size := Heap.lt_size he
    have hil : it < s.heap.objs.size := by obtain ⟨_, q, _⟩ := hit; exact Heap.lt_size q
    have pt : s.heap.IsTuple a its.toArray := p
    have hlt : i < its.toArray.size := by
      have := (List.getElem?_eq_some_iff.mp hu).1
      simpa using this
    refine wpAny_pyNext_enum_itemD (Draws.tuple (A := X.A.in1) (I.ok.hd hc) it a hai its.toArray) he ⟨hit, pt⟩ hlt hne (by simp [hne, hea]) fun x' h' tk hP ho hit' hT hsz hk => ?_
    have exu : x' = u := by
      have h2 : its.toArray[i]? = some u := by simpa using hu
      rw [h2] at hP
      exact (Option.some.inj hP).symm
    subst exu
    refine ⟨_, rfl, wpAny_letOwnedTupleGo_enum (s := { s with heap := h', toks := tk + 1 }) ho fun h'' he' sb => ?_⟩
    have hT2 : h''.get? s.heap.objs.size = some { cls := .type "tuple", data := .seq #[.int i tk, x'] } := (sb.2 _ (Nat.ne_of_gt hel)).trans hT
    have new : ObjOk X.prog X.w (upd H s.heap.objs.size (.tup [.int (i : Nat), x])) h'' s.heap.objs.size (.tup [.int (i : Nat), x]) :=
      ⟨by show 2 ≤ sizeLine; decide, [.int i tk, x'], .cons ⟨_, rfl⟩ (.cons ru .nil), ⟨_, hT2, rfl, _, rfl⟩⟩
    have I1 : Inv X pins σ (upd H s.heap.objs.size (.tup [.int (i : Nat), x])) { s with heap := h'', toks := tk + 1 } :=
      I.turnedNew (ch := [e, it]) (fun b ob hb q => (sb.2 b (fun z => hb (by simp [z]))).trans (hk b ob (fun z => hb (by simp [z])) (fun z => hb (by simp [z])) q)) hf (Nat.le_refl _) new
    refine ⟨.ref s.heap.objs.size, _, I1, rfl, ⟨_, x, rfl, I.hok.fresh (Nat.le_refl _), rfl, fun ys hy => ?_⟩, ⟨⟨x', ?_⟩, hit'.1.at fun o q => (sb.2 it (Ne.symm hne)).trans q, hne, hea, hai, hin1⟩, fun b hb => ?_⟩
    · rw [I.tuple_inj hy hq]; exact hx
    · have e1 : ((i + 1 : Nat) : Int) = (i : Int) + 1 := by omega
      rw [e1]; exact he'
    · have hb' : b < s.heap.objs.size := by
        have e' : b = e ∨ b = it := by simpa using hb
        rcases e' with z | z
        · rw [z]; exact hel
        · rw [z]; exact hil
      rw [upd_ne (Nat.ne_of_lt hb')]
      exact (hf b hb).1
  done := by
    intro X hP hw hK hc i pins s σ H E I hf st hg
    subst hP hw hK
    obtain ⟨⟨old, he⟩, hit, hne, hea, hai, hin⟩ := st
    obtain ⟨hni, xs, hq, hx⟩ := hg
    obtain ⟨its, rv, p, hz⟩ := I.tuple hq
    obtain ⟨f0, f1, f2, f3, f4, f5⟩ := hf it (by simp)
    have hl := rv.length
    have pt : s.heap.IsTuple a its.toArray := p
    have ei : i = its.toArray.size := by simp; omega
    subst ei
    exact wpAny_pyNext_enum_endD (Draws.tuple (A := X.A.in1) (I.ok.hd hc) it a hai its.toArray) he ⟨hit, pt⟩ fun h' eb => ⟨rfl, I.turned (t' := s.toks) (fun b o hb q => eb b o hb q) f0 f1 f3 f4 f5⟩
  self := fun A i s Q E st h => let ⟨⟨_, he⟩, _⟩ := st; wpAny_pyIter_enum he h
end Ev
namespace Ev
open PySem L2 PySem.Spec PyProof.Rows
theorem pi_enumT {X : Cx} {e : Expr} {ta : TA} {p pos tpos : Pos} {elts : List Expr} {kk : Nat} (hg : Gl X "enumerate") (hm : X.mg "enumerate" = none) (ha : PA X [e] ta) (hs : starEach [e] X.env = [(false, eval e X.env)]) :
    PI X (.Tuple elts kk tpos) (.Call (.Name "enumerate" p) [e] [] pos) (fun σ H R => ta σ H fun vs H1 => ∃ a xs, vs = [.ref a] ∧ SqT X.K H1 a xs ∧ R (ItN X.K a xs.length) H1) := by
  refine ⟨fun pins s σ H R I h => ?_⟩
  refine Call_ (ld_blt I hg hm boot_enumerate (PyProof.Rows.callWith_type1 (thn (ha.run pos pins s σ H _ I h) fun us s1 ⟨vs, H1, I1, r1, q1⟩ => ?_) hs rfl))
  obtain ⟨a, xs, ex, hq, q⟩ := q1
  subst ex
  cases r1 with
  | cons r rr =>
    cases rr
    cases r
    obtain ⟨its, rv, p', hz⟩ := I1.tuple hq
    have pt : s1.heap.IsTuple a its.toArray := p'
    have hal : a < s1.heap.objs.size := by obtain ⟨_, q, _⟩ := pt; exact Heap.lt_size q
    refine call_enum1 (begins_tuple a its.toArray) pt fun h' he hit hk => wpAny_pyIter_enum he ?_
    have I2 : Inv X pins σ H1 { s1 with heap := h' } := I1.kept (t' := s1.toks) hk
    refine ⟨s1.heap.objs.size + 1, [s1.heap.objs.size + 1, s1.heap.objs.size], _, _, H1, rfl, I2, turn_enumT a (s1.heap.objs.size + 1) s1.heap.objs.size xs.length, ⟨⟨.none, he⟩, ⟨_, hit, rfl, rfl⟩, Nat.succ_ne_self _, fun z => absurd (z ▸ hal) (by simp), Nat.ne_of_lt hal, Nat.zero_le _⟩, fun b hb => ?_, q⟩
    have e' : b = s1.heap.objs.size + 1 ∨ b = s1.heap.objs.size := by simpa using hb
    have hle : s1.heap.objs.size ≤ b := by
      rcases e' with z | z
      · rw [z]; exact Nat.le_add_right _ _
      · rw [z]; exact Nat.le_refl _
    exact I1.fpOk hle (I1.hok.fresh hle)
theorem numbered_get : ∀ (ds : List D) (j i : Nat) (d : D), (numbered j ds)[i]? = some d → ∃ x, ds[i]? = some x ∧ d = .tup [.int ((j + i : Nat) : Int), x]
  | [], j, i, d, h => by simp [numbered] at h
  | x :: ds, j, 0, d, h => by
    rw [numbered] at h
    exact ⟨x, rfl, by simpa using h.symm⟩
  | x :: ds, j, i + 1, d, h => by
    rw [numbered] at h
    obtain ⟨y, h1, h2⟩ := numbered_get ds (j + 1) i d (by simpa using h)
    exact ⟨y, by simpa using h1, by rw [h2]; congr 3; omega⟩
theorem numbered_len : ∀ (ds : List D) (j : Nat), (numbered j ds).length = ds.length
  | [], _ => rfl
  | x :: ds, j => by rw [numbered, List.length_cons, numbered_len, List.length_cons]
theorem walk_enumT {K : PySem.W.Frag} {β : List Addr} {S : Store} {H : Hp} {a : Addr} {ds : List D} (r : RS K β S H) (h : RV K β H (.tup ds) (.ref a)) : WalkOk K ⟨numbered 0 ds, none⟩ β S H (ItN K a ds.length) := by
  have g : ∀ {β1 : List Addr} {S1 : Store} {H1 : Hp}, Ext β S H β1 S1 H1 → ∃ vs, SqT K H1 a vs ∧ RVs K β1 H1 ds vs := fun {β1 S1 H1} e1 => by
    have h' := h.mono r e1
    rw [RV] at h'
    obtain ⟨a', vs, e, q, z⟩ := h'
    cases e
    exact ⟨vs, q, z⟩
  refine ⟨fun β1 S1 H1 e1 r1 i d hd => ?_, fun β1 S1 H1 e1 r1 i hi => ?_⟩
  · obtain ⟨vs, sq, z⟩ := g e1
    obtain ⟨x, hx, rfl⟩ := numbered_get ds 0 i d hd
    obtain ⟨v, gv, rv⟩ := z.get hx
    refine ⟨⟨vs, v, sq, gv, z.length⟩, fun u H' yy => ?_⟩
    obtain ⟨T, x', rfl, nT, rfl, f1⟩ := yy
    have q1 := f1 vs sq
    rw [gv] at q1
    cases q1
    obtain ⟨r2, e2⟩ := r1.aside (o := .tup [.int (i : Nat), v]) nT
    refine ⟨r2, e2, ?_⟩
    rw [RV]
    refine ⟨T, _, rfl, .of upd_same, RVs.cons ?_ (RVs.one (rv.mono r1 e2))⟩
    rw [RV, Nat.zero_add]
  · obtain ⟨vs, sq, z⟩ := g e1
    rw [numbered_len] at hi
    exact ⟨hi, vs, sq, z.length⟩
section
variable {X : Cx} {F : FS} {E : XW} {tg a b : Expr} {ia ib : Ex} {pos p : Pos}
theorem i_enum {elts : List Expr} {kk : Nat} {tpos : Pos} (hg : Gl X "enumerate") (hm : X.mg "enumerate" = none) (ha : PE X a (tEv X.K F E ia)) (hst : notStar a = true) :
    PI X (.Tuple elts kk tpos) (.Call (.Name "enumerate" p) [a] [] pos) (tEvI X.K F E (.enum ia)) := by
  refine (pi_enumT hg hm (pa_cons ha pa_nil (star_cons hst)) (star_cons hst)).monoE fun σ H R h => ?_
  obtain ⟨ρ, S, β, sim, r, p⟩ := h
  rw [evIt] at p
  refine seqE sim r p fun d S1 β1 H1 v e1 sim1 r1 hv p1 => ?_
  unfold enumOf at p1
  split at p1
  · have h1 := hv
    rw [RV] at h1
    obtain ⟨a', vs, rfl, q1, z1⟩ := h1
    refine ⟨a', vs, rfl, q1, ?_⟩
    rw [z1.length]
    exact p1 β1 H1 .refl r1 _ (walk_enumT r1 hv) (fun _ h => nomatch h)
  · exact p1.elim
end
end Ev
set_option Elab.async false
set_option linter.all false
set_option maxRecDepth 100000
/-! Eng11: targets, comprehensions. -/
namespace Ev
open PySem L2

/-! ### targets -/
def gNames : List Nat → TGs
  | [] => gNil
  | i :: is => gCons (gName i) (gNames is)
def gOf (K : PySem.W.Frag) : Tg → TG
  | .one i => gName i
  | .many is => gTup K is.length (gNames is)
def Tg.ixs : Tg → List Nat
  | .one i => [i]
  | .many is => is
structure SimP (p : Nat → Prop) (K : PySem.W.Frag) (β : List Addr) (H : Hp) (σ : L2.St) (ρ : Env) : Prop where
  len : σ.length = ρ.length
  rel : ∀ (i : Nat) d, ¬ p i → ρ[i]? = some (some d) → ∃ v, σ[i]? = some (some v) ∧ RV K β H d v
section
variable {K : PySem.W.Frag} {β β' : List Addr} {S S' : Store} {H H' : Hp} {σ : L2.St} {ρ : Env} {p : Nat → Prop}
theorem Sim.P (s : Sim K β H σ ρ) : SimP p K β H σ ρ := ⟨s.len, fun i d _ h => s.rel i d h⟩
theorem SimP.all (s : SimP p K β H σ ρ) (h : ∀ i, ¬ p i) : Sim K β H σ ρ := ⟨s.len, fun i d e => s.rel i d (h i) e⟩
theorem SimP.set (s : SimP p K β H σ ρ) {i : Nat} {d : D} {v : V} (h : RV K β H d v) : SimP (fun j => p j ∧ j ≠ i) K β H (σ.set i (some v)) (ρ.set i (some d)) := by
  refine ⟨by simp [s.len], fun j d' np q => ?_⟩
  by_cases hj : i = j
  · subst hj
    have hl : i < ρ.length := by
      have := (List.getElem?_eq_some_iff.mp q).1
      simpa using this
    rw [List.getElem?_set_self hl] at q
    cases q
    exact ⟨v, List.getElem?_set_self (by rw [s.len]; exact hl), h⟩
  · rw [List.getElem?_set_ne hj] at q ⊢
    exact s.rel j d' (fun z => np ⟨z, fun e => hj e.symm⟩) q
theorem SimP.imp {p' : Nat → Prop} (s : SimP p K β H σ ρ) (h : ∀ i, p i → p' i) : SimP p' K β H σ ρ := ⟨s.len, fun i d np e => s.rel i d (fun z => np (h i z)) e⟩
theorem wipe_in : ∀ {vs : List Nat} {σ : L2.St} {i : Nat}, i ∈ vs → i < σ.length → (wipe σ vs)[i]? = some none
  | v :: vs, σ, i, h, hl => by
    rw [wipe]
    by_cases e : v = i
    · subst e
      exact List.getElem?_set_self (by rw [wipe_length]; exact hl)
    · rw [List.getElem?_set_ne e]
      exact wipe_in ((List.mem_cons.mp h).resolve_left fun z => e z.symm) hl
theorem wipe_set {vs : List Nat} {σ : L2.St} {i : Nat} {o : Option V} (h : i ∈ vs) : wipe (σ.set i o) vs = wipe σ vs := by
  refine List.ext_getElem? fun j => ?_
  by_cases hj : j ∈ vs
  · by_cases hl : j < σ.length
    · rw [wipe_in hj (by simpa using hl), wipe_in hj hl]
    · rw [List.getElem?_eq_none (by rw [wipe_length]; simpa using Nat.le_of_not_lt hl), List.getElem?_eq_none (by rw [wipe_length]; exact Nat.le_of_not_lt hl)]
  · have hne : i ≠ j := fun z => hj (by rw [← z]; exact h)
    rw [wipe_out hj, wipe_out hj, List.getElem?_set_ne hne]
theorem wipe_wipe {vs : List Nat} {σ : L2.St} : wipe (wipe σ vs) vs = wipe σ vs := by
  refine List.ext_getElem? fun j => ?_
  by_cases hj : j ∈ vs
  · by_cases hl : j < σ.length
    · rw [wipe_in hj (by rw [wipe_length]; exact hl), wipe_in hj hl]
    · rw [List.getElem?_eq_none (by rw [wipe_length, wipe_length]; exact Nat.le_of_not_lt hl), List.getElem?_eq_none (by rw [wipe_length]; exact Nat.le_of_not_lt hl)]
  · rw [wipe_out hj]
theorem gNames_ok : ∀ {is : List Nat} {p : Nat → Prop} {ds : List D} {vs : List V} {σ : L2.St} {ρ ρ' : Env} {Q : L2.St → Hp → Prop}, RVs K β H ds vs → setAll ρ is ds = some ρ' → SimP p K β H σ ρ →
    (∀ σ', SimP (fun j => p j ∧ j ∉ is) K β H σ' ρ' → (∀ ws : List Nat, (∀ i ∈ is, i ∈ ws) → wipe σ' ws = wipe σ ws) → Q σ' H) → gNames is vs σ H Q
  | [], p, ds, vs, σ, ρ, ρ', Q, hv, e, s, h => by
    cases ds with
    | cons _ _ => exact nomatch e
    | nil =>
      rw [RVs] at hv
      subst hv
      have e' : ρ = ρ' := Option.some.inj e
      subst e'
      exact ⟨rfl, h σ (s.imp fun i hi => ⟨hi, fun z => nomatch z⟩) fun _ _ => rfl⟩
  | i :: is, p, ds, vs, σ, ρ, ρ', Q, hv, e, s, h => by
    cases ds with
    | nil => exact nomatch e
    | cons d ds =>
      rw [RVs] at hv
      obtain ⟨v, r, rfl, h1, h2⟩ := hv
      rw [setAll] at e
      split at e
      · refine ⟨v, r, rfl, ?_⟩
        refine gNames_ok h2 e (s.set h1) fun σ' s' hw => h σ' (s'.imp fun j hj => ⟨hj.1.1, fun z => ?_⟩) fun ws hws => ?_
        · rcases List.mem_cons.mp z with z | z
          · exact hj.1.2 z
          · exact hj.2 z
        · rw [hw ws fun j hj => hws j (List.mem_cons_of_mem _ hj)]
          exact wipe_set (hws i List.mem_cons_self)
      · cases e
theorem setAll_len : ∀ {is : List Nat} {ρ ρ' : Env} {ds : List D}, setAll ρ is ds = some ρ' → is.length = ds.length
  | [], ρ, ρ', [], e => rfl
  | [], ρ, ρ', _ :: _, e => nomatch e
  | _ :: _, ρ, ρ', [], e => nomatch e
  | i :: is, ρ, ρ', d :: ds, e => by
    rw [setAll] at e
    split at e
    · rw [List.length_cons, List.length_cons, setAll_len e]
    · cases e
theorem gOf_ok {t : Tg} {d : D} {v : V} {ρ' : Env} {Q : L2.St → Hp → Prop} (hv : RV K β H d v) (e : putTg ρ t d = some ρ') (s : SimP p K β H σ ρ)
    (h : ∀ σ', SimP (fun j => p j ∧ j ∉ t.ixs) K β H σ' ρ' → (∀ ws : List Nat, (∀ i ∈ t.ixs, i ∈ ws) → wipe σ' ws = wipe σ ws) → Q σ' H) : gOf K t v σ H Q := by
  cases t with
  | one i =>
    simp only [putTg] at e
    split at e
    · cases e
      exact h _ ((s.set hv).imp fun j hj => ⟨hj.1, fun z => hj.2 (List.mem_singleton.mp z)⟩) fun ws hws => wipe_set (hws i (List.mem_singleton.mpr rfl))
    · cases e
  | many is =>
    cases d with
    | tup ds =>
      simp only [putTg] at e
      rw [RV] at hv
      obtain ⟨a, vs, rfl, sq, z⟩ := hv
      exact ⟨a, vs, rfl, sq, by rw [z.length, setAll_len e], gNames_ok z e s h⟩
    | _ => exact nomatch e
end

/-! ### a list aside, that grows -/
section
variable {K : PySem.W.Frag} {β β' : List Addr} {S S' : Store} {H H' : Hp} {Da : Addr}
theorem RS.side (r : RS K β S H) (nd : Da ∉ β) {vs ws : List V} (h : H Da = some (.lst vs)) : RS K β S (upd H Da (.lst ws)) := by
  have kt : ∀ b xs, H b = some (.tup xs) → upd H Da (.lst ws) b = some (.tup xs) := fun b xs q => by
    have : b ≠ Da := fun z => by rw [z, h] at q; cases q
    rw [upd_ne this]; exact q
  have kf : ∀ b o u, H b = some (.frz o u) → upd H Da (.lst ws) b = some (.frz o u) := fun b o u q => by
    have : b ≠ Da := fun z => by rw [z, h] at q; cases q
    rw [upd_ne this]; exact q
  refine ⟨r.len, r.nd, fun i o a h1 h2 => (r.obj i o a h1 h2).of_keep (fun d v z => RV.of_keep kt kf (fun _ _ q => q) d v z) (fun d v z => RVs.of_keep kt kf (fun _ _ q => q) d v z) fun u q => ?_⟩
  have hne : a ≠ Da := fun z => nd (by rw [← z]; exact List.mem_of_getElem? h2)
  rw [upd_ne hne]
  exact q
theorem RVs.side {vs ws : List V} (h : H Da = some (.lst vs)) {ds : List D} {xs : List V} (z : RVs K β H ds xs) : RVs K β (upd H Da (.lst ws)) ds xs := by
  refine RVs.of_keep (fun b xs q => ?_) (fun b o u q => ?_) (fun _ _ q => q) ds xs z
  · have : b ≠ Da := fun z => by rw [z, h] at q; cases q
    rw [upd_ne this]; exact q
  · have : b ≠ Da := fun z => by rw [z, h] at q; cases q
    rw [upd_ne this]; exact q
theorem Ext.side (e : Ext β S H β' S' H') (nd : H Da = none) {o : HO} : Ext β S H β' S' (upd H' Da o) :=
  ⟨e.pre, fun b u q nb => by
    have : b ≠ Da := fun z => by rw [z, nd] at q; cases q
    rw [upd_ne this]; exact e.keep b u q nb, fun b q => by
    by_cases hb : b = Da
    · rw [hb, upd_same]; exact (fun z => nomatch z)
    · rw [upd_ne hb]; exact e.live b q, e.frz, e.fdic⟩
/-- the list becomes an object of the store -/
theorem RS.adopt (r : RS K β S H) (nd : Da ∉ β) {vs : List V} {ds : List D} (h : H Da = some (.lst vs)) (p : D.pureAll ds = true) (z : RVs K β H ds vs) : RS K (β ++ [Da]) (S ++ [.lst ds]) H := by
  have bb : ∀ (n : Nat) c, β[n]? = some c → (β ++ [Da])[n]? = some c := fun n c q => by
    rw [List.getElem?_append_left (List.getElem?_eq_some_iff.mp q).1]; exact q
  refine ⟨by simp [r.len], ?_, fun i o' b g1 g2 => ?_⟩
  · rw [List.nodup_append]
    exact ⟨r.nd, by simp, fun c hc d hd => by rw [List.mem_singleton.mp hd]; exact fun z => nd (z ▸ hc)⟩
  · by_cases hi : i < S.length
    · rw [List.getElem?_append_left hi] at g1
      rw [List.getElem?_append_left (by rw [r.len]; exact hi)] at g2
      exact (r.obj i o' b g1 g2).of_keep (fun d v h => RV.of_keep (fun _ _ q => q) (fun _ _ _ q => q) bb d v h) (fun d v h => RVs.of_keep (fun _ _ q => q) (fun _ _ _ q => q) bb d v h) fun u q => q
    · have hi' : i = S.length := by
        have := (List.getElem?_eq_some_iff.mp g1).1
        simp at this
        omega
      subst hi'
      have e1 : o' = .lst ds := by simpa using g1.symm
      have e2 : b = Da := by
        rw [← r.len] at g2
        simpa using g2.symm
      rw [e1, e2]
      exact ⟨p, vs, h, RVs.pureB ds vs p z⟩
theorem Ext.adopt (e : Ext β S H β' S' H') (nd : H Da = none) {o : MO} : Ext β S H (β' ++ [Da]) (S' ++ [o]) H' := by
  obtain ⟨new, eb, hn⟩ := e.pre
  have lt : ∀ {n : Nat} {o' : MO}, S'[n]? = some o' → (S' ++ [o])[n]? = some o' := fun {n o'} q => by
    rw [List.getElem?_append_left (List.getElem?_eq_some_iff.mp q).1]; exact q
  refine ⟨⟨new ++ [Da], by rw [eb, List.append_assoc], fun b hb => ?_⟩, e.keep, e.live, fun n xs q => lt (e.frz n xs q), fun n xs q => lt (e.fdic n xs q)⟩
  rcases List.mem_append.mp hb with hb | hb
  · exact hn b hb
  · rw [List.mem_singleton.mp hb]; exact nd
theorem RO.unlock {o : MO} {a : Addr} (h : RO K β H o a) : RO K β H (unlockO o) a := by
  cases o <;> exact h
theorem RS.unlock (r : RS K β S H) (l : Option Nat) : RS K β (unlock l S) H := by
  cases l with
  | none => exact r
  | some m =>
    simp only [Ev.unlock]
    split
    · rename_i o g
      exact r.label fun a ha => (r.obj m o a g ha).unlock
    · exact r
theorem Ext.unlock (e : Ext β S H β' S' H') {l : Option Nat} (lk : LockOk S l) : Ext β S H β' (unlock l S') H' := by
  cases l with
  | none => exact e
  | some m =>
    obtain ⟨l1, l2⟩ := lk m rfl
    simp only [Ev.unlock]
    split
    · refine ⟨e.pre, e.keep, e.live, fun n xs q => ?_, fun n xs q => ?_⟩
      · have hn : m ≠ n := fun z => by subst z; exact l1 xs q
        rw [List.getElem?_set_ne hn]; exact e.frz n xs q
      · have hn : m ≠ n := fun z => by subst z; exact l2 xs q
        rw [List.getElem?_set_ne hn]; exact e.fdic n xs q
    · exact e
theorem Ext.notNew (e : Ext β S H β' S' H') (nd : Da ∉ β) {o : HO} (h : H Da = some o) : Da ∉ β' := by
  obtain ⟨new, eb, hn⟩ := e.pre
  rw [eb]
  intro z
  rcases List.mem_append.mp z with z | z
  · exact nd z
  · rw [hn _ z] at h; cases h
/-- what gc leaves where pure data come out -/
theorem gc_cases {n : Nat} {d : D} {S : Store} {d' : D} {S' : Store} (h : gc n d S = .ok d' S') (p : d'.pure = true) : d' = d ∧ (S' = S ∨ (S' = S.take n ∧ closedS n (S.take n) = true)) := by
  unfold gc at h
  split at h
  · cases h; exact ⟨rfl, .inl rfl⟩
  · split at h
    · rename_i hc
      split at h
      · cases h; exact ⟨rfl, .inr ⟨rfl, hc⟩⟩
      · split at h
        · split at h
          · cases h; rw [D.pure] at p; cases p
          · cases h; exact ⟨rfl, .inl rfl⟩
        · cases h; exact ⟨rfl, .inl rfl⟩
    · cases h; exact ⟨rfl, .inl rfl⟩
theorem gc_ok (n : Nat) (d : D) (S : Store) : ∃ d' S', gc n d S = .ok d' S' := by
  unfold gc
  split
  · exact ⟨_, _, rfl⟩
  · split
    · split
      · exact ⟨_, _, rfl⟩
      · split
        · split
          · exact ⟨_, _, rfl⟩
          · exact ⟨_, _, rfl⟩
        · exact ⟨_, _, rfl⟩
    · exact ⟨_, _, rfl⟩
/-- the store behind a gc -/
theorem gc_store {n : Nat} {β1 : List Addr} {S1 S2 : Store} {H1 : Hp} (hn : n = S.length) (r : RS K β S H) (e : Ext β S H β1 S1 H1) (r1 : RS K β1 S1 H1) (h : S2 = S1 ∨ (S2 = S1.take n ∧ closedS n (S1.take n) = true)) :
    ∃ β2, RS K β2 S2 H1 ∧ Ext β S H β2 S2 H1 := by
  subst hn
  rcases h with rfl | ⟨rfl, hc⟩
  · exact ⟨β1, r1, e⟩
  · obtain ⟨r2, e2⟩ := Ext.cut r e r1 hc
    exact ⟨β, r2, e2⟩
end

/-! ### comprehensions -/
def noX : XW := fun _ _ _ => False
/-- one turn -/
def turnOf (F : FS) (ρ : Env) (elt : Ex) (tg : Tg) (test : Ex) (x : D) (S : Store) : Out (Option D) := match putTg ρ tg x with
  | some ρ' => (ev F test ρ' S).bind fun t S1 => (match truth S1 t with
    | some true => (gcO S.length (ev F elt ρ' S1)).bind fun d S2 => if d.pure then .ok (some d) S2 else .bad
    | some false => (gc S.length .non S1).bind fun _ S2 => .ok none S2
    | none => .bad)
  | none => .bad
theorem comp_tail {K : PySem.W.Frag} {β : List Addr} {S : Store} {H : Hp} {l : Option Nat} {o : Out (List D)} {acc : List D} {Q : D → Store → List Addr → Hp → Prop} {E : Nat → Store → List Addr → Hp → Prop}
    (p : Post K β S H ((lockEnd l (noexc o)).bind fun ds S => newL (acc ++ ds) S) Q E) : ∃ ds S', o = .ok ds S' ∧ D.pureAll (acc ++ ds) = true ∧ (acc ++ ds).length ≤ sizeLine := by
  cases o with
  | ok ds S' =>
    refine ⟨ds, S', rfl, ?_⟩
    have p' : Post K β S H (newL (acc ++ ds) (unlock l S')) Q E := p
    unfold newL at p'
    split at p'
    · rename_i hc
      rw [Bool.and_eq_true] at hc
      exact ⟨hc.1, szOk_le hc.2⟩
    · exact p'.elim
  | exc c S' => exact p.elim
  | bad => exact p.elim
section
variable {X : Cx} {F : FS} {E : XW} {elt tg iter : Expr} {ifs : List Expr} {scope : Scope} {own : List (Str × Nat)} {pos : Pos} {it : It} {t : Tg} {ie ic : Ex}
theorem comp_read (hown : own.map (·.2) = t.ixs) :
    ∀ σ H Q, tEv X.K F E (.comp ie t it ic) σ H Q → tLc (tEvI X.K F E it) (gOf X.K t) (tEvT X.K F noX ic) (tEv X.K F noX ie) (own.map (·.2)) σ H Q := by
  intro σ H Q h
  obtain ⟨ρ, S, β, sim, r, p⟩ := h
  unfold PV at p
  rw [ev] at p
  refine ⟨ρ, S, β, sim, r, ?_⟩
  cases eo : evIt F it ρ S with
  | exc c S1 => rw [eo] at p; exact p
  | bad => rw [eo] at p; exact p
  | ok w S1 =>
    rw [eo] at p
    intro β1 H1 e1 r1 J wk lk Da nD
    have p0 : Post X.K β S H ((lockEnd w.lock (noexc (compLoop (turnOf F ρ ie t ic) w.xs S1))).bind fun ds S => newL ([] ++ ds) S) (fun d S' β' H' => ∀ v, RV X.K β' H' d v → Q v H') (fun c _ _ H' => E c σ H') := p
    obtain ⟨rs0, ex0⟩ := r1.aside (o := .lst []) nD
    have nDb : Da ∉ β1 := fun hb => by
      obtain ⟨u, q, _⟩ := r1.mutB hb
      rw [nD] at q; cases q
    have nD0 : H Da = none := by
      cases q : H Da with
      | none => rfl
      | some o => exact absurd nD (e1.live Da (by rw [q]; exact (fun z => nomatch z)))
    refine ⟨fun i m Hh => ∃ S' β' acc vacc, i ≤ w.xs.length ∧ m = w.xs.length - i ∧ RS X.K β' S' Hh ∧ Ext β1 S1 H1 β' S' Hh ∧ Da ∉ β' ∧ Hh Da = some (.lst vacc) ∧ RVs X.K β' Hh acc vacc ∧ D.pureAll acc = true ∧
        Post X.K β S H ((lockEnd w.lock (noexc (compLoop (turnOf F ρ ie t ic) (w.xs.drop i) S'))).bind fun ds S => newL (acc ++ ds) S) (fun d S' β' H' => ∀ v, RV X.K β' H' d v → Q v H') (fun c _ _ H' => E c σ H'),
      ⟨w.xs.length, S1, β1, [], [], Nat.zero_le _, rfl, rs0, ex0, nDb, upd_same, RVs.nil, rfl, p0⟩, fun i m Hh hW => ?_⟩
    obtain ⟨S', β', acc, vacc, hil, hm, rs, ex, nDb', hD, za, pa, pp⟩ := hW
    by_cases hi' : i < w.xs.length
    · right
      have hd : w.xs[i]? = some w.xs[i] := List.getElem?_eq_getElem hi'
      obtain ⟨go, yl⟩ := wk.go β' S' Hh ex rs i _ hd
      have hdrop : w.xs.drop i = w.xs[i] :: w.xs.drop (i + 1) := List.drop_eq_getElem_cons hi'
      rw [hdrop] at pp
      refine ⟨go, fun H' => ∃ S' β' acc vacc, i + 1 ≤ w.xs.length ∧ w.xs.length - (i + 1) = w.xs.length - (i + 1) ∧ RS X.K β' S' H' ∧ Ext β1 S1 H1 β' S' H' ∧ Da ∉ β' ∧ H' Da = some (.lst vacc) ∧ RVs X.K β' H' acc vacc ∧ D.pureAll acc = true ∧
        Post X.K β S H ((lockEnd w.lock (noexc (compLoop (turnOf F ρ ie t ic) (w.xs.drop (i + 1)) S'))).bind fun ds S => newL (acc ++ ds) S) (fun d S' β' H' => ∀ v, RV X.K β' H' d v → Q v H') (fun c _ _ H' => E c σ H'), fun H' hN => ⟨_, by omega, hN⟩, fun x H' y => ?_⟩
      obtain ⟨r2, e2, hx⟩ := yl x H' y
      have hD2 : H' Da = some (.lst vacc) := e2.keep Da _ hD nDb'
      -- the turn's outcome
      obtain ⟨ds0, Sx, ec, _, _⟩ := comp_tail pp
      rw [compLoop] at ec pp
      cases et : turnOf F ρ ie t ic w.xs[i] S' with
      | exc c Sy => rw [et] at ec; cases ec
      | bad => rw [et] at ec; cases ec
      | ok o Sy =>
        rw [et] at pp
        dsimp only [Out.bind] at pp
        -- the rest, with the new item
        have ppd : ∀ d, o = some d → Post X.K β S H ((lockEnd w.lock (noexc (compLoop (turnOf F ρ ie t ic) (w.xs.drop (i + 1)) Sy))).bind fun ds S => newL ((acc ++ [d]) ++ ds) S) (fun d S' β' H' => ∀ v, RV X.K β' H' d v → Q v H') (fun c _ _ H' => E c σ H') := by
          intro d hd'
          subst hd'
          revert pp
          cases compLoop (turnOf F ρ ie t ic) (w.xs.drop (i + 1)) Sy with
          | ok ds2 S2 =>
            intro pp
            show Post X.K β S H (newL ((acc ++ [d]) ++ ds2) (unlock w.lock S2)) _ _
            rw [List.append_assoc]
            exact pp
          | exc c S2 => exact id
          | bad => exact id
        have ppn : o = none → Post X.K β S H ((lockEnd w.lock (noexc (compLoop (turnOf F ρ ie t ic) (w.xs.drop (i + 1)) Sy))).bind fun ds S => newL (acc ++ ds) S) (fun d S' β' H' => ∀ v, RV X.K β' H' d v → Q v H') (fun c _ _ H' => E c σ H') := by
          intro hd'
          subst hd'
          revert pp
          cases compLoop (turnOf F ρ ie t ic) (w.xs.drop (i + 1)) Sy with
          | ok ds2 S2 => exact id
          | exc c S2 => exact id
          | bad => exact id
        unfold turnOf at et
        cases ep : putTg ρ t w.xs[i] with
        | none => rw [ep] at et; cases et
        | some ρ' =>
          rw [ep] at et
          dsimp only at et
          have sw : SimP (fun j => j ∈ own.map (·.2)) X.K β' H' (wipe σ (own.map (·.2))) ρ := by
            refine ⟨by rw [wipe_length]; exact sim.len, fun j d nj ej => ?_⟩
            obtain ⟨v, e3, h3⟩ := ((sim.mono r e1).mono r1 (ex.trans e2)).rel j d ej
            exact ⟨v, by rw [wipe_out nj]; exact e3, h3⟩
          refine gOf_ok hx ep sw fun σ2 s2 hw => ⟨?_, ?_⟩
          · rw [hw _ (by rw [hown]; exact fun _ h => h), wipe_wipe]
          · have sim2 : Sim X.K β' H' σ2 ρ' := s2.all fun j hj => hj.2 (by rw [← hown]; exact hj.1)
            refine ⟨ρ', S', β', sim2, r2, ?_⟩
            cases e3 : ev F ic ρ' S' with
            | exc c S3 => rw [e3] at et; cases et
            | bad => rw [e3] at et; cases et
            | ok tv S3 =>
              rw [e3] at et
              dsimp only [Out.bind] at et ⊢
              cases etr : truth S3 tv with
              | none => rw [etr] at et; cases et
              | some b =>
                rw [etr] at et
                intro β3 H3 ex3 r3
                have simb : Sim X.K β3 H3 σ2 ρ' := sim2.mono r2 ex3
                cases b with
                | false =>
                  rw [if_neg Bool.false_ne_true]
                  dsimp only at et
                  obtain ⟨d', S5, eg⟩ := gc_ok S'.length .non S3
                  rw [eg] at et
                  cases et
                  have hcase : Sy = S3 ∨ (Sy = S3.take S'.length ∧ closedS S'.length (S3.take S'.length) = true) := by
                    unfold gc at eg
                    split at eg
                    · cases eg; exact .inl rfl
                    · split at eg
                      · rename_i hcc
                        rw [if_pos (show D.low S'.length D.non = true by rw [D.low])] at eg
                        cases eg; exact .inr ⟨rfl, hcc⟩
                      · cases eg; exact .inl rfl
                  obtain ⟨β5, r5, ex5⟩ := gc_store rfl r2 ex3 r3 hcase
                  exact ⟨Sy, β5, acc, vacc, hi', rfl, r5, (ex.trans e2).trans ex5, ex5.notNew nDb' hD2, ex5.keep Da _ hD2 nDb', (za.mono rs e2).mono r2 ex5, pa, ppn rfl⟩
                | true =>
                  rw [if_pos rfl]
                  dsimp only at et
                  refine ⟨ρ', S3, β3, simb, r3, ?_⟩
                  cases e4 : ev F ie ρ' S3 with
                  | exc c S4 => rw [e4] at et; cases et
                  | bad => rw [e4] at et; cases et
                  | ok d S4 =>
                    rw [e4] at et
                    dsimp only [gcO] at et
                    obtain ⟨d', S5, eg⟩ := gc_ok S'.length d S4
                    rw [eg] at et
                    dsimp only [Out.bind] at et
                    split at et
                    · rename_i pd
                      cases et
                      obtain ⟨rfl, hcase⟩ := gc_cases eg pd
                      intro β4 H4 ex4 r4 yv hy
                      obtain ⟨β5, r5, ex5⟩ := gc_store rfl r2 (ex3.trans ex4) r4 hcase
                      have hD5 : H4 Da = some (.lst vacc) := ex5.keep Da _ hD2 nDb'
                      have nD5 : Da ∉ β5 := ex5.notNew nDb' hD2
                      have za5 : RVs X.K β5 H4 acc vacc := (za.mono rs e2).mono r2 ex5
                      have hy5 : RV X.K β5 H4 d' yv := RV.pureB d' yv pd hy
                      have pd' := ppd d' rfl
                      obtain ⟨ds7, S7, _, pu7, sz7⟩ := comp_tail pd'
                      refine ⟨vacc, hD5, ?_, Sy, β5, acc ++ [d'], vacc ++ [yv], hi', rfl, r5.side nD5 hD5, ((ex.trans e2).trans ex5).side nD, nD5, upd_same, (za5.append (RVs.one hy5)).side hD5, ?_, pd'⟩
                      · rw [za5.length]
                        rw [List.length_append, List.length_append, List.length_singleton] at sz7
                        omega
                      · refine pureAll_of fun z hz => ?_
                        rcases List.mem_append.mp hz with hz | hz
                        · exact pureAll_mem pa hz
                        · rw [List.mem_singleton.mp hz]; exact pd
                    · cases et
    · left
      have hil' : i = w.xs.length := by omega
      refine ⟨wk.stop β' S' Hh ex rs i (by omega), ?_⟩
      rw [hil', List.drop_length, compLoop] at pp
      have pp' : Post X.K β S H (newL (acc ++ []) (unlock w.lock S')) (fun d S' β' H' => ∀ v, RV X.K β' H' d v → Q v H') (fun c _ _ H' => E c σ H') := pp
      rw [List.append_nil] at pp'
      unfold newL at pp'
      split at pp'
      · have ex' := (e1.trans ex).unlock (l := w.lock) lk
        have rs' := rs.unlock w.lock
        refine pp' _ _ (ex'.adopt nD0) (rs'.adopt nDb' hD pa za) _ ?_
        rw [RV]
        refine ⟨Da, rfl, ?_⟩
        rw [← rs'.len]
        simp
      · exact pp'.elim
theorem s_comp (hc : X.calm = true) (hN : X.N.Nodup) (hi : PI X tg iter (tEvI X.K F E it)) (ok : BlkOk X.N X.env.scope scope own)
    (hg : ∀ (s : Shared) (H : Hp) (C : Addr) (cl : List (Str × Addr)) (fp : List Addr), PG (X.blk s H scope (compEnvC scope cl C X.env) fp) tg (gOf X.K t))
    (ht : ∀ (s : Shared) (H : Hp) (C : Addr) (cl : List (Str × Addr)) (fp : List Addr), PTs (X.blk s H scope (compEnvC scope cl C X.env) fp) ifs (tEvT X.K F noX ic))
    (he : ∀ (s : Shared) (H : Hp) (C : Addr) (cl : List (Str × Addr)) (fp : List Addr), PE (X.blk s H scope (compEnvC scope cl C X.env) fp) elt (tEv X.K F noX ie))
    (hs : ∀ x, foldedSetIterable iter X.env x = pure x) (hown : own.map (·.2) = t.ixs) : PE X (.ListComp elt [⟨tg, iter, ifs, 0⟩] scope pos) (tEv X.K F E (.comp ie t it ic)) :=
  (pe_lc hc hN hi ok hg ht he hs).monoE (comp_read hown)
end
end Ev
set_option Elab.async false
set_option linter.all false
set_option maxRecDepth 100000
/-! Eng12: statements. -/
namespace Ev
open PySem L2

def SPost (K : PySem.W.Frag) (E : XW) (β : List Addr) (S : Store) (H : Hp) (o : SOut) (N : Ends) : Prop :=
  match o with
  | .nx ρ' S' => ∀ σ' β' H', Ext β S H β' S' H' → RS K β' S' H' → Sim K β' H' σ' ρ' → N.nx σ' H'
  | .rt d S' => ∀ v β' H', Ext β S H β' S' H' → RS K β' S' H' → RV K β' H' d v → N.rt v H'
  | .exc c ρ' S' => ∀ σ' β' H', Ext β S H β' S' H' → RS K β' S' H' → Sim K β' H' σ' ρ' → E c σ' H'
  | .bad => False
def tEx (K : PySem.W.Frag) (F : FS) (E : XW) (s : Sm) : TS := fun N σ H => ∃ ρ S β, Sim K β H σ ρ ∧ RS K β S H ∧ SPost K E β S H (ex F s ρ S) N
def tExs (K : PySem.W.Frag) (F : FS) (E : XW) (s : Sms) : TS := fun N σ H => ∃ ρ S β, Sim K β H σ ρ ∧ RS K β S H ∧ SPost K E β S H (exs F s ρ S) N
section
variable {K : PySem.W.Frag} {F : FS} {E : XW} {β β' : List Addr} {S S' : Store} {H H' : Hp} {σ : L2.St} {ρ : Env} {N : Ends}
theorem SPost.from {o : SOut} (e : Ext β S H β' S' H') (h : SPost K E β S H o N) : SPost K E β' S' H' o N := by
  cases o with
  | nx ρ1 S1 => intro σ1 β1 H1 e1 r1 s1; exact h σ1 β1 H1 (e.trans e1) r1 s1
  | rt d S1 => intro v β1 H1 e1 r1 s1; exact h v β1 H1 (e.trans e1) r1 s1
  | exc c ρ1 S1 => intro σ1 β1 H1 e1 r1 s1; exact h σ1 β1 H1 (e.trans e1) r1 s1
  | bad => exact h
theorem gc_out {β1 : List Addr} {S1 : Store} {H1 : Hp} {d : D} {v : V} (r : RS K β S H) (e : Ext β S H β1 S1 H1) (r1 : RS K β1 S1 H1) (hv : RV K β1 H1 d v) :
    ∃ d' S2 β2, gc S.length d S1 = .ok d' S2 ∧ RS K β2 S2 H1 ∧ Ext β S H β2 S2 H1 ∧ RV K β2 H1 d' v := by
  obtain ⟨d', S2, eg⟩ := gc_ok S.length d S1
  refine gc_post (E := fun _ _ _ _ => True) (Q := fun v0 H0 => ∃ d' S2 β2, gc S.length d S1 = .ok d' S2 ∧ RS K β2 S2 H0 ∧ Ext β S H β2 S2 H0 ∧ RV K β2 H0 d' v0) r ?_ e r1 v hv
  rw [eg]
  intro β2 H2 e2 r2 v2 h2
  exact ⟨d', S2, β2, rfl, r2, e2, h2⟩
/-- an expression, then a statement's rest -/
theorem seqS {a : Ex} {k : D → Store → SOut} {Q : VK} (sim : Sim K β H σ ρ) (r : RS K β S H) (p : SPost K E β S H ((ev F a ρ S).thn ρ k) N)
    (h : ∀ d S1 β1 H1 v, Ext β S H β1 S1 H1 → Sim K β1 H1 σ ρ → RS K β1 S1 H1 → RV K β1 H1 d v → SPost K E β S H (k d S1) N → Q v H1) : tEv K F E a σ H Q := by
  refine ⟨ρ, S, β, sim, r, ?_⟩
  cases eo : ev F a ρ S with
  | ok d S1 =>
    rw [eo] at p
    exact fun β1 H1 e1 r1 v hv => h d S1 β1 H1 v e1 (sim.mono r e1) r1 hv p
  | exc c S1 =>
    rw [eo] at p
    exact fun β1 H1 e1 r1 => p σ β1 H1 e1 r1 (sim.mono r e1)
  | bad => rw [eo] at p; exact p.elim
/-- .. from an earlier store's wish -/
theorem seqB {βo : List Addr} {So : Store} {Ho : Hp} {a : Ex} {k : D → Store → SOut} {Q : VK} (sim : Sim K β H σ ρ) (r : RS K β S H) (eo : Ext βo So Ho β S H) (p : SPost K E βo So Ho ((ev F a ρ S).thn ρ k) N)
    (h : ∀ d S1 β1 H1 v, Ext β S H β1 S1 H1 → Sim K β1 H1 σ ρ → RS K β1 S1 H1 → RV K β1 H1 d v → SPost K E βo So Ho (k d S1) N → Q v H1) : tEv K F E a σ H Q := by
  refine ⟨ρ, S, β, sim, r, ?_⟩
  cases eq : ev F a ρ S with
  | ok d S1 =>
    rw [eq] at p
    exact fun β1 H1 e1 r1 v hv => h d S1 β1 H1 v e1 (sim.mono r e1) r1 hv p
  | exc c S1 =>
    rw [eq] at p
    exact fun β1 H1 e1 r1 => p σ β1 H1 (eo.trans e1) r1 (sim.mono r e1)
  | bad => rw [eq] at p; exact p.elim
theorem seqSg {a : Ex} {k : D → Store → SOut} {Q : VK} (sim : Sim K β H σ ρ) (r : RS K β S H) (p : SPost K E β S H ((gcO S.length (ev F a ρ S)).thn ρ k) N)
    (h : ∀ d S1 β1 H1 v, Ext β S H β1 S1 H1 → Sim K β1 H1 σ ρ → RS K β1 S1 H1 → RV K β1 H1 d v → SPost K E β S H (k d S1) N → Q v H1) : tEv K F E a σ H Q := by
  refine ⟨ρ, S, β, sim, r, ?_⟩
  cases eo : ev F a ρ S with
  | ok d S1 =>
    rw [eo] at p
    intro β1 H1 e1 r1 v hv
    obtain ⟨d', S2, β2, eg, r2, e2, h2⟩ := gc_out r e1 r1 hv
    dsimp only [gcO] at p
    rw [eg] at p
    exact h d' S2 β2 H1 v e2 (sim.mono r e2) r2 h2 p
  | exc c S1 =>
    rw [eo] at p
    exact fun β1 H1 e1 r1 => p σ β1 H1 e1 r1 (sim.mono r e1)
  | bad => rw [eo] at p; exact p.elim
end
theorem key_eq (t s : List Nat) : decide ((Sum.inr (sA t) : Key) = Sum.inr (sA s)) = eqD (.str t) (.str s) := by
  rw [eqD]
  by_cases q : t = s
  · subst q; simp
  · have ne : ¬ (Sum.inr (sA t) : Key) = Sum.inr (sA s) := fun z => q (by
      have := congrArg TL.tl (Sum.inr.inj z)
      simpa [TL.tl] using this)
    rw [decide_eq_false ne]
    exact (beq_eq_false_iff_ne.mpr q).symm
theorem RKs.any {K : PySem.W.Frag} {β : List Addr} {H : Hp} {t : List Nat} : ∀ {kvs : List (D × D)} {gs : List (Key × V)}, RKs K β H kvs gs → (gs.any fun kv => decide (kv.1 = .inr (sA t))) = kvs.any fun kv => eqD kv.1 (.str t)
  | [], gs, h => by rw [RKs] at h; subst h; rfl
  | (k, d) :: r, gs, h => by
    rw [RKs] at h
    obtain ⟨s, v, g, rfl, rfl, _, h2⟩ := h
    rw [List.any_cons, List.any_cons, RKs.any h2, key_eq]
theorem RKs.maps {K : PySem.W.Frag} {β : List Addr} {H : Hp} {t : List Nat} {d' : D} {v' : V} (hv : RV K β H d' v') : ∀ {kvs : List (D × D)} {gs : List (Key × V)}, RKs K β H kvs gs →
    RKs K β H (kvs.map fun kv => if eqD kv.1 (.str t) then (kv.1, d') else kv) (gs.map fun kv => if kv.1 = .inr (sA t) then (kv.1, v') else kv)
  | [], gs, h => by rw [RKs] at h; subst h; rw [List.map_nil, RKs]; rfl
  | (k, d) :: r, gs, h => by
    rw [RKs] at h
    obtain ⟨s, v, g, rfl, rfl, h1, h2⟩ := h
    have ke := key_eq s t
    have ih := RKs.maps (t := t) hv h2
    rw [List.map_cons, List.map_cons]
    by_cases q : (Sum.inr (sA s) : Key) = Sum.inr (sA t)
    · have q' : eqD (.str s) (.str t) = true := by rw [← ke]; exact decide_eq_true q
      dsimp only
      rw [if_pos q', if_pos q, RKs]
      exact ⟨s, v', _, rfl, rfl, hv, ih⟩
    · have q' : eqD (.str s) (.str t) = false := by rw [← ke]; exact decide_eq_false q
      dsimp only
      rw [if_neg (by rw [q']; exact Bool.false_ne_true), if_neg q, RKs]
      exact ⟨s, v, _, rfl, rfl, h1, ih⟩
theorem RKs.snoc {K : PySem.W.Frag} {β : List Addr} {H : Hp} {t : List Nat} {d' : D} {v' : V} (hv : RV K β H d' v') : ∀ {kvs : List (D × D)} {gs : List (Key × V)}, RKs K β H kvs gs → RKs K β H (kvs ++ [(.str t, d')]) (gs ++ [(.inr (sA t), v')])
  | [], gs, h => by rw [RKs] at h; subst h; rw [List.nil_append, List.nil_append, RKs]; exact ⟨t, v', [], rfl, rfl, hv, by rw [RKs]⟩
  | (k, d) :: r, gs, h => by
    rw [RKs] at h
    obtain ⟨s, v, g, rfl, rfl, h1, h2⟩ := h
    rw [List.cons_append, List.cons_append, RKs]
    exact ⟨s, v, _, rfl, rfl, h1, RKs.snoc hv h2⟩
theorem RKs.put {K : PySem.W.Frag} {β : List Addr} {H : Hp} {t : List Nat} {d' : D} {v' : V} {kvs : List (D × D)} {gs : List (Key × V)} (h : RKs K β H kvs gs) (hv : RV K β H d' v') : RKs K β H (Ev.putK (.str t) d' kvs) (L2.putK gs (.inr (sA t)) v') := by
  unfold Ev.putK L2.putK
  rw [h.any]
  split
  · exact h.maps hv
  · exact h.snoc hv
section
variable {X : Cx} {F : FS} {E : XW} {pos : Pos} {a b c : Expr} {ia ib ic : Ex}
theorem ss_nil : PSs X [] (tExs X.K F E .nil) := by
  refine pss_nil.monoE fun N σ H h => ?_
  obtain ⟨ρ, S, β, sim, r, p⟩ := h
  rw [exs] at p
  exact p σ β H .refl r sim
theorem ss_cons {st : Stmt} {sts : List Stmt} {is : Sm} {iss : Sms} (h1 : PS X st (tEx X.K F E is)) (h2 : PSs X sts (tExs X.K F E iss)) : PSs X (st :: sts) (tExs X.K F E (.cons is iss)) := by
  refine (pss_cons h1 h2).monoE fun N σ H h => ?_
  obtain ⟨ρ, S, β, sim, r, p⟩ := h
  rw [exs] at p
  refine ⟨ρ, S, β, sim, r, ?_⟩
  revert p
  cases ex F is ρ S with
  | nx ρ1 S1 => intro p σ1 β1 H1 e1 r1 s1; exact ⟨ρ1, S1, β1, s1, r1, p.from e1⟩
  | rt d S1 => exact id
  | exc c ρ1 S1 => exact id
  | bad => exact id
theorem ss_pass : PS X (.Pass pos) (tEx X.K F E .pass) := by
  refine ps_pass.monoE fun N σ H h => ?_
  obtain ⟨ρ, S, β, sim, r, p⟩ := h
  rw [ex] at p
  exact p σ β H .refl r sim
/-- the value, then the name's store -/
theorem asg_read {i : Nat} {te : TE} (hte : ∀ σ H Q, tEv X.K F E ia σ H Q → te σ H Q) {N : Ends} {σ : L2.St} {H : Hp} (h : tEx X.K F E (.asg i ia) N σ H) : tAsg te (gName i) N σ H := by
  obtain ⟨ρ, S, β, sim, r, p⟩ := h
  rw [ex] at p
  refine hte _ _ _ (seqSg sim r p fun d S1 β1 H1 v e1 sim1 r1 hv p1 => ?_)
  split at p1
  · exact p1 _ β1 H1 e1 r1 (sim1.set hv)
  · exact p1.elim
theorem ss_asg {i : Nat} {x : Str} {pos' : Pos} (hN : X.N.Nodup) (hi : X.N[i]? = some x) (hx : Loc X.env.scope x) (he : PE X a (tEv X.K F E ia)) (hs : swapsWith a (some (.Name x pos')) pos.line X.env = pure false)
    (hf : X.fn x = true ∨ X.env.scope.names.lookup x = some .local) : PS X (.Assign [.Name x pos'] a pos) (tEx X.K F E (.asg i ia)) :=
  (ps_set hN hi hx he hs hf).monoE fun _ _ _ h => asg_read (fun _ _ _ h => h) h
theorem ss_asgT {is : List Nat} {es : List Expr} {k : Nat} {p2 : Pos} (hg : PG X (.Tuple es k p2) (gOf X.K (.many is))) (he : PE X a (tEv X.K F E ia)) (hs : swapsWithSole [.Tuple es k p2] a pos.line X.env = pure false) (hw : swappedStores [.Tuple es k p2] a X.env = pure none) :
    PS X (.Assign [.Tuple es k p2] a pos) (tEx X.K F E (.asgT is ia)) := by
  refine (ps_asg he hg hs hw rfl).monoE fun N σ H h => ?_
  obtain ⟨ρ, S, β, sim, r, p⟩ := h
  rw [ex] at p
  refine seqSg sim r p fun d S1 β1 H1 v e1 sim1 r1 hv p1 => ?_
  split at p1
  · rename_i ds
    split at p1
    · rename_i ρ' es'
      exact gOf_ok (p := fun _ => False) hv es' sim1.P fun σ' s' _ => p1 σ' β1 H1 e1 r1 (s'.all fun _ z => z.1)
    · exact p1.elim
  · exact p1.elim
theorem ss_expr (he : PE X a (tEv X.K F E ia)) (hs : swapsWith a none pos.line X.env = pure false) : PS X (.Expr a pos) (tEx X.K F E (.expr ia)) := by
  refine (ps_expr he hs).monoE fun N σ H h => ?_
  obtain ⟨ρ, S, β, sim, r, p⟩ := h
  rw [ex] at p
  refine ⟨ρ, S, β, sim, r, ?_⟩
  cases eo : ev F ia ρ S with
  | ok d S1 =>
    rw [eo] at p
    intro β1 H1 e1 r1 v hv
    obtain ⟨d', S2, β2, eg, r2, e2, h2⟩ := gc_out (d := .non) (v := .non) r e1 r1 (by rw [RV])
    dsimp only [gcO, Out.bind] at p
    rw [eg] at p
    exact p σ β2 H1 e2 r2 (sim.mono r e2)
  | exc c S1 =>
    rw [eo] at p
    exact fun β1 H1 e1 r1 => p σ β1 H1 e1 r1 (sim.mono r e1)
  | bad => rw [eo] at p; exact p.elim
theorem ss_ret (he : PE X a (tEv X.K F E ia)) : PS X (.Return (some a) pos) (tEx X.K F E (.ret ia)) := by
  refine (ps_ret he).monoE fun N σ H h => ?_
  obtain ⟨ρ, S, β, sim, r, p⟩ := h
  rw [ex] at p
  exact seqS sim r p fun d S1 β1 H1 v e1 sim1 r1 hv p1 => p1 v β1 H1 e1 r1 hv
theorem ss_if {as bs : List Stmt} {sa sb : Sms} (hc : PT X c (tEvT X.K F E ic)) (ha : PSs X as (tExs X.K F E sa)) (hb : PSs X bs (tExs X.K F E sb)) : PS X (.If c as bs pos) (tEx X.K F E (.ife ic sa sb)) := by
  refine (ps_if hc ha hb).monoE fun N σ H h => ?_
  obtain ⟨ρ, S, β, sim, r, p⟩ := h
  rw [ex] at p
  refine ⟨ρ, S, β, sim, r, ?_⟩
  cases eo : ev F ic ρ S with
  | exc c S1 =>
    rw [eo] at p
    exact fun β1 H1 e1 r1 => p σ β1 H1 e1 r1 (sim.mono r e1)
  | bad => rw [eo] at p; exact p.elim
  | ok d S1 =>
    rw [eo] at p
    dsimp only [Out.thn, Out.bind] at p ⊢
    cases et : truth S1 d with
    | none => rw [et] at p; exact p.elim
    | some t =>
      rw [et] at p
      intro β1 H1 e1 r1
      obtain ⟨d', S2, β2, eg, r2, e2, h2⟩ := gc_out (d := .non) (v := .non) r e1 r1 (by rw [RV])
      cases t with
      | true =>
        rw [if_pos rfl]
        dsimp only at p
        rw [eg] at p
        exact ⟨ρ, S2, β2, sim.mono r e2, r2, SPost.from e2 p⟩
      | false =>
        rw [if_neg Bool.false_ne_true]
        dsimp only at p
        rw [eg] at p
        exact ⟨ρ, S2, β2, sim.mono r e2, r2, SPost.from e2 p⟩
/-- d[k] = v -/
theorem ss_setIx {k : Nat} {p2 : Pos} (hr : Room k X.A) (ha : PE X a (tEv X.K F E ia)) (hb : PE X b (tEv X.K F E ib)) (hc : PE X c (tEv X.K F E ic)) (hs : swapsWith c (some (.Subscript a b p2)) pos.line X.env = pure false) :
    PS X (.Assign [.Subscript a b p2] c pos) (tEx X.K F E (.setIx ia ib ic)) := by
  refine (ps_dput (hu_of hr) ha hb hc hs).monoE fun N σ H h => ?_
  obtain ⟨ρ, S, β, sim, r, p⟩ := h
  rw [ex] at p
  refine seqS sim r p fun dv S1 β1 H1 v e1 sim1 r1 hv p1 => ?_
  refine seqB sim1 r1 e1 p1 fun da S2 β2 H2 va e2 sim2 r2 hva p2 => ?_
  refine seqB sim2 r2 (e1.trans e2) p2 fun di S3 β3 H3 vi e3 sim3 r3 hvi p3 => ?_
  have hv3 := (hv.mono r1 e2).mono r2 e3
  have hva3 := hva.mono r2 e3
  unfold setIxD at p3
  split at p3
  · rename_i n
    split at p3
    · rename_i kvs t g
      split at p3
      · rename_i hcc
        rw [Bool.and_eq_true] at hcc
        simp only [RV] at hva3 hvi
        obtain ⟨pa, rfl, ha3⟩ := hva3
        subst hvi
        obtain ⟨a', ha', gs, e', z⟩ := r3.at g
        rw [ha3] at ha'; cases ha'
        have kl : gs.length = kvs.length := by
          obtain ⟨ks, k1, k2⟩ := z.keys
          have l1 := congrArg List.length k1
          have l2 := congrArg List.length k2
          simp at l1 l2
          omega
        refine ⟨pa, _, rfl, DPut.k (k := .inr (sA t)) e' (by rw [kl]; exact of_decide_eq_true hcc.2), ?_⟩
        -- the new pairs
        have zp := z.put (t := t) hv3
        have zz : RKs X.K β3 (upd H3 pa (.dK (L2.putK gs (.inr (sA t)) v))) (Ev.putK (.str t) dv kvs) (L2.putK gs (.inr (sA t)) v) := by
          refine RKs.of_keep (fun d v' h => RV.of_keep (fun b xs q => ?_) (fun b o u q => ?_) (fun _ _ q => q) d v' h) _ _ zp
          · have : b ≠ pa := fun zz => by rw [zz, e'] at q; cases q
            rw [upd_ne this]; exact q
          · have : b ≠ pa := fun zz => by rw [zz, e'] at q; cases q
            rw [upd_ne this]; exact q
        obtain ⟨r4, e4⟩ := r3.put (o := .dic (Ev.putK (.str t) dv kvs)) (u := .dK (L2.putK gs (.inr (sA t)) v)) ha3 (fun t => by rw [g]; exact (fun z => nomatch z)) (fun t => by rw [g]; exact (fun z => nomatch z)) ⟨_, upd_same, zz⟩
        obtain ⟨d', S5, β5, eg, r5, e5, h5⟩ := gc_out (d := .non) (v := .non) r (((e1.trans e2).trans e3).trans e4) r4 (by rw [RV])
        dsimp only [gcO] at p3
        rw [eg] at p3
        exact p3 σ β5 _ e5 r5 (sim.mono r e5)
      · exact p3.elim
    · exact p3.elim
  · exact p3.elim
end
end Ev
set_option Elab.async false
set_option linter.all false
set_option maxRecDepth 100000
/-! Eng13: loops, assignments of several names. -/
namespace Ev
open PySem L2

section
variable {X : Cx} {F : FS} {E : XW} {pos : Pos}
/-- names together -/
theorem ss_par2 {i j : Nat} {x y : Str} {a b : Expr} {ies : Exs} {px py pt : Pos} {kt k2 : Nat} {pt2 : Pos} (hc : X.calm = true) (hN : X.N.Nodup) (hi : X.N[i]? = some x) (hj : X.N[j]? = some y) (hij : i ≠ j)
    (hx : X.env.scope.names.lookup x = some .local) (hy : X.env.scope.names.lookup y = some .local) (ha : PA X [a, b] (tEvs X.K F E ies))
    (hw : swappedStores [.Tuple [.Name x px, .Name y py] kt pt] (.Tuple [a, b] k2 pt2) X.env = pure (some [x, y])) (hl : ies.len = 2) :
    PS X (.Assign [.Tuple [.Name x px, .Name y py] kt pt] (.Tuple [a, b] k2 pt2) pos) (tEx X.K F E (.par [i, j] ies)) := by
  refine (ps_par hc hN hi hj hij hx hy ha hw).monoE fun N σ H h => ?_
  obtain ⟨ρ, S, β, sim, r, p⟩ := h
  rw [ex] at p
  refine ⟨ρ, S, β, sim, r, ?_⟩
  cases eo : evs F ies ρ S with
  | exc c S1 =>
    rw [eo] at p
    exact fun β1 H1 e1 r1 => p σ β1 H1 e1 r1 (sim.mono r e1)
  | bad => rw [eo] at p; exact p.elim
  | ok ds S1 =>
    have hd := evs_len ies eo
    rw [eo] at p
    dsimp only [Out.thn] at p
    intro β1 H1 e1 r1 vs hv
    match ds, hd with
    | [d1, d2], _ =>
      obtain ⟨v, w, rfl, h1, h2⟩ := hv.two_of
      refine ⟨v, w, rfl, ?_⟩
      simp only [setAll] at p
      by_cases c1 : i < ρ.length
      · rw [if_pos c1] at p
        by_cases c2 : j < (ρ.set i (some d1)).length
        · rw [if_pos c2] at p
          exact p _ β1 H1 e1 r1 (((sim.mono r e1).set h1).set h2)
        · rw [if_neg c2] at p; exact p.elim
      · rw [if_neg c1] at p; exact p.elim
    | [], h => exact absurd h (by rw [hl]; decide)
    | [_], h => exact absurd h (by rw [hl]; simp)
    | _ :: _ :: _ :: _, h => exact absurd h (by rw [hl]; simp)
theorem ss_par3 {i j l : Nat} {x y z : Str} {a b c : Expr} {ies : Exs} {px py pz pt : Pos} {kt k2 : Nat} {pt2 : Pos} (hc : X.calm = true) (hN : X.N.Nodup) (hi : X.N[i]? = some x) (hj : X.N[j]? = some y) (hl' : X.N[l]? = some z) (hij : i ≠ j) (hil : i ≠ l) (hjl : j ≠ l)
    (hx : X.env.scope.names.lookup x = some .local) (hy : X.env.scope.names.lookup y = some .local) (hz : X.env.scope.names.lookup z = some .local) (ha : PA X [a, b, c] (tEvs X.K F E ies))
    (hw : swappedStores [.Tuple [.Name x px, .Name y py, .Name z pz] kt pt] (.Tuple [a, b, c] k2 pt2) X.env = pure (some [x, y, z])) (hl : ies.len = 3) :
    PS X (.Assign [.Tuple [.Name x px, .Name y py, .Name z pz] kt pt] (.Tuple [a, b, c] k2 pt2) pos) (tEx X.K F E (.par [i, j, l] ies)) := by
  refine (ps_par3 hc hN hi hj hl' hij hil hjl hx hy hz ha hw).monoE fun N σ H h => ?_
  obtain ⟨ρ, S, β, sim, r, p⟩ := h
  rw [ex] at p
  refine ⟨ρ, S, β, sim, r, ?_⟩
  cases eo : evs F ies ρ S with
  | exc c S1 =>
    rw [eo] at p
    exact fun β1 H1 e1 r1 => p σ β1 H1 e1 r1 (sim.mono r e1)
  | bad => rw [eo] at p; exact p.elim
  | ok ds S1 =>
    have hd := evs_len ies eo
    rw [eo] at p
    dsimp only [Out.thn] at p
    intro β1 H1 e1 r1 vs hv
    match ds, hd with
    | [d1, d2, d3], _ =>
      rw [RVs] at hv
      obtain ⟨u, t, rfl, h1, hv2⟩ := hv
      obtain ⟨v, w, rfl, h2, h3⟩ := hv2.two_of
      refine ⟨u, v, w, rfl, ?_⟩
      simp only [setAll] at p
      by_cases c1 : i < ρ.length
      · rw [if_pos c1] at p
        by_cases c2 : j < (ρ.set i (some d1)).length
        · rw [if_pos c2] at p
          by_cases c3 : l < ((ρ.set i (some d1)).set j (some d2)).length
          · rw [if_pos c3] at p
            exact p _ β1 H1 e1 r1 ((((sim.mono r e1).set h1).set h2).set h3)
          · rw [if_neg c3] at p; exact p.elim
        · rw [if_neg c2] at p; exact p.elim
      · rw [if_neg c1] at p; exact p.elim
    | [], h => exact absurd h (by rw [hl]; decide)
    | [_], h => exact absurd h (by rw [hl]; simp)
    | [_, _], h => exact absurd h (by rw [hl]; simp)
    | _ :: _ :: _ :: _ :: _, h => exact absurd h (by rw [hl]; simp)
/-- slots forgotten, objects forgotten -/
theorem Sim.kill {K : PySem.W.Frag} {β β' : List Addr} {H : Hp} {σ : L2.St} {ρ : Env} {n : Nat} (s : Sim K β' H σ ρ) (hb : ∀ (m : Nat) a, m < n → β'[m]? = some a → β[m]? = some a) : Sim K β H σ (killE n ρ) := by
  refine ⟨by rw [killE, List.length_map]; exact s.len, fun i d e => ?_⟩
  rw [killE, List.getElem?_map] at e
  obtain ⟨o, e1, e2⟩ := Option.map_eq_some_iff.mp e
  cases o with
  | none => cases e2
  | some d0 =>
    dsimp only at e2
    split at e2
    · rename_i hl
      cases e2
      obtain ⟨v, h1, h2⟩ := s.rel i d e1
      exact ⟨v, h1, RV.lowB hb d v hl h2⟩
    · cases e2
def bodyOf (F : FS) (t : Tg) (sb : Sms) (sc : Bool) (x : D) (ρ : Env) (S : Store) : SOut := match putTg ρ t x with
  | some ρ' => if sc then scopeEnd S.length (exs F sb ρ' S) else exs F sb ρ' S
  | none => .bad
theorem ss_for {tg iter : Expr} {body : List Stmt} {it : It} {t : Tg} {sb : Sms} {sc : Bool} (hp : PassesOwn (model X.prog X.w) X.A X.env X.xe) (hc : X.calm = true) (hi : PI X tg iter (tEvI X.K F E it)) (hg : PG X tg (gOf X.K t)) (hb : PSs X body (tExs X.K F E sb))
    (hs : ∀ x, foldedSetIterable iter X.env x = pure x) : PS X (.For tg iter body [] pos) (tEx X.K F E (.loop t it sb sc)) := by
  refine (ps_for hp hc hi hg hb hs).monoE fun N σ H h => ?_
  obtain ⟨ρ, S, β, sim, r, p⟩ := h
  rw [ex] at p
  refine ⟨ρ, S, β, sim, r, ?_⟩
  cases eo : evIt F it ρ S with
  | exc c S1 =>
    rw [eo] at p
    exact fun β1 H1 e1 r1 => p σ β1 H1 e1 r1 (sim.mono r e1)
  | bad => rw [eo] at p; exact p.elim
  | ok w S1 =>
    rw [eo] at p
    intro β1 H1 e1 r1 J wk lk
    have p0 : SPost X.K E β S H (lockEndS w.lock (forLoop (bodyOf F t sb sc) w.xs ρ S1)) N := p
    refine ⟨fun i m σi Hi => ∃ ρi Si βi, i ≤ w.xs.length ∧ m = w.xs.length - i ∧ Sim X.K βi Hi σi ρi ∧ RS X.K βi Si Hi ∧ Ext β1 S1 H1 βi Si Hi ∧ SPost X.K E β S H (lockEndS w.lock (forLoop (bodyOf F t sb sc) (w.xs.drop i) ρi Si)) N,
      ⟨w.xs.length, ρ, S1, β1, Nat.zero_le _, rfl, sim.mono r e1, r1, .refl, p0⟩, fun i m σi Hi hW => ?_⟩
    obtain ⟨ρi, Si, βi, hil, hm, si, ri, ei, pi⟩ := hW
    by_cases hi' : i < w.xs.length
    · right
      have hd : w.xs[i]? = some w.xs[i] := List.getElem?_eq_getElem hi'
      obtain ⟨go, yl⟩ := wk.go βi Si Hi ei ri i _ hd
      have hdrop : w.xs.drop i = w.xs[i] :: w.xs.drop (i + 1) := List.drop_eq_getElem_cons hi'
      rw [hdrop, forLoop] at pi
      refine ⟨go, fun σ' H' => ∃ ρi Si βi, i + 1 ≤ w.xs.length ∧ w.xs.length - (i + 1) = w.xs.length - (i + 1) ∧ Sim X.K βi H' σ' ρi ∧ RS X.K βi Si H' ∧ Ext β1 S1 H1 βi Si H' ∧ SPost X.K E β S H (lockEndS w.lock (forLoop (bodyOf F t sb sc) (w.xs.drop (i + 1)) ρi Si)) N,
        fun σ' H' hN => ⟨_, by omega, hN⟩, fun x H' y => ?_⟩
      obtain ⟨r2, e2, hx⟩ := yl x H' y
      unfold bodyOf at pi
      cases ep : putTg ρi t w.xs[i] with
      | none => rw [ep] at pi; exact pi.elim
      | some ρ' =>
        rw [ep] at pi
        dsimp only at pi
        refine gOf_ok (p := fun _ => False) hx ep (si.mono ri e2).P fun σ2 s2 _ => ?_
        have sim2 : Sim X.K βi H' σ2 ρ' := s2.all fun _ z => z.1
        refine ⟨ρ', Si, βi, sim2, r2, ?_⟩
        have eb : Ext β S H βi Si H' := (e1.trans ei).trans e2
        cases ex4 : exs F sb ρ' Si with
        | bad =>
          rw [ex4] at pi
          cases sc <;> exact pi.elim
        | rt d S3 =>
          rw [ex4] at pi
          intro v β3 H3 e3 r3 hv
          have e3' := (eb.trans e3).unlock (l := w.lock) lk
          have r3' := r3.unlock w.lock
          cases sc <;> exact pi v β3 H3 e3' r3' hv
        | exc c ρ3 S3 =>
          rw [ex4] at pi
          intro σ3 β3 H3 e3 r3 s3
          have e3' := (eb.trans e3).unlock (l := w.lock) lk
          have r3' := r3.unlock w.lock
          cases sc <;> exact pi σ3 β3 H3 e3' r3' s3
        | nx ρ3 S3 =>
          rw [ex4] at pi
          intro σ3 β3 H3 e3 r3 s3
          cases sc with
          | false => exact ⟨ρ3, S3, β3, hi', rfl, s3, r3, (ei.trans e2).trans e3, pi⟩
          | true =>
            rw [if_pos rfl] at pi
            simp only [scopeEnd] at pi
            by_cases hcl : closedS Si.length (S3.take Si.length) = true
            · rw [if_pos hcl] at pi
              obtain ⟨r4, e4⟩ := Ext.cut r2 e3 r3 hcl
              obtain ⟨new, ebn, _⟩ := e3.pre
              refine ⟨_, _, βi, hi', rfl, s3.kill fun m a hm q => ?_, r4, (ei.trans e2).trans e4, pi⟩
              rw [ebn, List.getElem?_append_left (by rw [ri.len]; exact hm)] at q
              exact q
            · rw [if_neg hcl] at pi
              exact ⟨ρ3, S3, β3, hi', rfl, s3, r3, (ei.trans e2).trans e3, pi⟩
    · left
      have hil' : i = w.xs.length := by omega
      refine ⟨wk.stop βi Si Hi ei ri i (by omega), ?_⟩
      rw [hil', List.drop_length, forLoop] at pi
      exact pi σi βi Hi ((e1.trans ei).unlock lk) (ri.unlock _) si
end
end Ev
set_option Elab.async false
set_option linter.all false
set_option maxRecDepth 100000
/-! Eng13a: ranges with a step, lists turned round. -/
namespace Ev
open PySem L2
section
variable {K : PySem.W.Frag} {β : List Addr} {S : Store} {H : Hp} {l : Option Nat}
theorem stepFrom_get : ∀ (n : Nat) (lo c : Int) (i : Nat), (stepFrom lo c n)[i]? = if i < n then some (.int (lo + (i : Nat) * c)) else none
  | 0, lo, c, i => by rw [stepFrom]; simp
  | n + 1, lo, c, i => by
    rw [stepFrom]
    cases i with
    | zero => simp
    | succ i =>
      rw [List.getElem?_cons_succ, stepFrom_get n (lo + c) c i]
      by_cases h : i < n
      · rw [if_pos h, if_pos (by omega)]
        congr 2
        rw [Int.natCast_add, Int.add_mul]
        omega
      · rw [if_neg h, if_neg (by omega)]
theorem stepFrom_len (c : Int) : ∀ (n : Nat) (lo : Int), (stepFrom lo c n).length = n
  | 0, _ => rfl
  | n + 1, lo => by rw [stepFrom, List.length_cons, stepFrom_len c n]
theorem walk_rangeC (lo c : Int) (n : Nat) : WalkOk K ⟨stepFrom lo c n, l⟩ β S H (Itc lo c n) := by
  refine ⟨fun β1 S1 H1 e1 r1 i d hd => ?_, fun β1 S1 H1 e1 r1 i hi => ?_⟩
  · rw [stepFrom_get] at hd
    split at hd
    · rename_i hi
      cases hd
      refine ⟨hi, fun x H' y => ?_⟩
      obtain ⟨rfl, rfl⟩ := y
      exact ⟨r1, .refl, by rw [RV]⟩
    · cases hd
  · rw [stepFrom_len] at hi; exact hi
end
theorem sm30_of {i : Int} (h : sm30 i = true) : -1073741824 < i ∧ i < 1073741824 := by
  unfold sm30 at h
  rw [Bool.and_eq_true] at h
  exact ⟨of_decide_eq_true h.1, of_decide_eq_true h.2⟩
theorem rgN_nn {i j c : Int} (hc : c ≠ 0) : 0 ≤ rgN i j c ∧ rgN i j c ≤ 4294967296 ∨ ¬ (-1073741824 < i ∧ i < 1073741824 ∧ -1073741824 < j ∧ j < 1073741824) := by
  by_cases hh : (-1073741824 < i ∧ i < 1073741824 ∧ -1073741824 < j ∧ j < 1073741824)
  · left
    unfold rgN
    split
    · rename_i h0
      split
      · have h1 : 0 ≤ (j - i - 1) / c := Int.ediv_nonneg (by omega) (by omega)
        have h2 : (j - i - 1) / c ≤ j - i - 1 := Int.ediv_le_self _ (by omega)
        omega
      · omega
    · split
      · have h1 : 0 ≤ (i - j - 1) / (-c) := Int.ediv_nonneg (by omega) (by omega)
        have h2 : (i - j - 1) / (-c) ≤ i - j - 1 := Int.ediv_le_self _ (by omega)
        omega
      · omega
  · exact .inr hh
theorem fits_of {i : Int} (h : -4294967297 ≤ i ∧ i ≤ 4294967297) : Builtin.Range.rangeFitsLong i = true := by
  unfold Builtin.Range.rangeFitsLong
  rw [Bool.and_eq_true]
  constructor <;> apply decide_eq_true <;> omega
theorem rgC_of {i j c : Int} (hi : sm30 i = true) (hj : sm30 j = true) (hc : sm30 c = true) (h0 : c ≠ 0) : RgC i j c (rgN i j c).toNat := by
  have a := sm30_of hi
  have b := sm30_of hj
  have d := sm30_of hc
  have e : Builtin.Range.rangeSize i j c = rgN i j c := rfl
  have g := rgN_nn (i := i) (j := j) h0
  have g : 0 ≤ rgN i j c ∧ rgN i j c ≤ 4294967296 := g.resolve_right fun z => z ⟨a.1, a.2, b.1, b.2⟩
  refine ⟨h0, by omega, ?_, by rw [e]; omega⟩
  unfold Builtin.Range.small
  rw [e, fits_of (by omega), fits_of (by omega), fits_of (by omega), fits_of (by omega), Bool.true_and, Bool.true_and, Bool.true_and, Bool.true_and, Bool.or_eq_true]
  right
  split <;> exact fits_of (by omega)
section
variable {X : Cx} {F : FS} {E : XW} {tg a b c : Expr} {ia ib ic : Ex} {pos p : Pos}
theorem i_range3 (hg : Gl X "range") (hm : X.mg "range" = none) (ha : PE X a (tEv X.K F E ia)) (hb : PE X b (tEv X.K F E ib)) (hc : PE X c (tEv X.K F E ic)) (hst : notStar a = true) (hst2 : notStar b = true) (hst3 : notStar c = true) :
    PI X tg (.Call (.Name "range" p) [a, b, c] [] pos) (tEvI X.K F E (.range3 ia ib ic)) := by
  refine (pi_range3 hg hm (pa_cons ha (pa_cons hb (pa_cons hc pa_nil (star_cons hst3)) (star_cons hst2)) (star_cons hst)) (star_cons hst) (star_any (by simp [hst2, hst3]))).monoE fun σ H R h => ?_
  obtain ⟨ρ, S, β, sim, r, p⟩ := h
  rw [evIt] at p
  refine seqE sim r p fun d S1 β1 H1 v e1 sim1 r1 hv p1 => ?_
  refine seqE sim1 r1 p1 fun d2 S2 β2 H2 v2 e2 sim2 r2 hv2 p2 => ?_
  refine seqE sim2 r2 p2 fun d3 S3 β3 H3 v3 e3 sim3 r3 hv3 p3 => ?_
  unfold range3D at p3
  split at p3
  · split at p3
    · rename_i i j k hj
      rw [Bool.and_eq_true, Bool.and_eq_true, Bool.and_eq_true] at hj
      rw [RV] at hv hv2 hv3
      exact ⟨i, j, k, _, by rw [hv, hv2, hv3], rgC_of hj.1.1 hj.1.2 hj.2.1 (of_decide_eq_true hj.2.2), p3 β3 H3 .refl r3 _ (walk_rangeC i k _) (fun _ h => nomatch h)⟩
    · exact p3.elim
  · exact p3.elim
theorem RVs.rev {K : PySem.W.Frag} {β : List Addr} {H : Hp} : ∀ {ds : List D} {vs : List V}, RVs K β H ds vs → RVs K β H ds.reverse vs.reverse
  | [], vs, h => by rw [RVs] at h; subst h; exact RVs.nil
  | d :: ds, vs, h => by
    rw [RVs] at h
    obtain ⟨v, r, rfl, h1, h2⟩ := h
    rw [List.reverse_cons, List.reverse_cons]
    exact RVs.append (RVs.rev h2) (RVs.one h1)
/-- xs[::-1] -/
theorem s_rev {k : Nat} {p1 p2 p3 : Pos} (ha : PE X a (tEv X.K F E ia)) : PE X (.Subscript a (.Slice none none (some (.UnaryOp .USub (.Constant (.int 1) k p1) p2)) p3) pos) (tEv X.K F E (.rev ia)) := by
  refine (pe_revL ha).monoE fun σ H Q h => ?_
  obtain ⟨ρ, S, β, sim, r, p⟩ := h
  rw [PV, ev] at p
  refine seqE sim r p fun d S1 β1 H1 v e1 sim1 r1 hv p1 => ?_
  unfold revD at p1
  split at p1
  · rename_i xs hl
    obtain ⟨a', vs, rfl, sq, z⟩ := r1.list hv hl
    exact ⟨a', vs, rfl, sq, fun q hq => PV.newList (σ := σ) r1 p1 z.rev hq⟩
  · exact p1.elim
end
end Ev
set_option Elab.async false
set_option linter.all false
set_option maxRecDepth 100000
/-! Eng14: from Python's syntax to the small language. -/
namespace Ev
open PySem L2

structure CC where
  N : List Str
  sc : Scope
  fns : List (Str × Nat × Nat)
  dats : List (Str × D)
  blts : List Str
  lines : List Nat

def ixOf (x : Str) : List Str → Option Nat
  | [] => none
  | y :: r => if y = x then some 0 else (ixOf x r).map (· + 1)
def okName (x : Str) : Bool := decide (x ≠ "__debug__") && decide (x ≠ "__classdict__") && decide (x ≠ "__name__")
def isLoc (sc : Scope) (x : Str) : Bool := match sc.names.lookup x with
  | some .local => true | some .cell => true
  | _ => false
def isVis (sc : Scope) (x : Str) : Bool := match sc.names.lookup x with
  | some .local => true | some .cell => true | some .free => true
  | _ => false
def isGl (sc : Scope) (x : Str) : Bool := match sc.names.lookup x with
  | some .globalImplicit => true
  | _ => false
def cName (c : CC) (x : Str) : Option Ex :=
  if okName x then
    (if isVis c.sc x then (ixOf x c.N).map .var
     else if isGl c.sc x then (c.dats.lookup x).map .dat else none)
  else none
def cConst : Const → Option D
  | .int i => some (.int i)
  | .bool b => some (.bl b)
  | .none => some .non
  | .str s => some (.str s.cps.toList)
  | _ => none
abbrev CE := Expr → Option Ex
def noIf : Expr → Bool
  | .IfExp .. => false
  | _ => true
/-- a test -/
def cT (f : CE) (e : Expr) : Option Ex := if noIf e then f e else none
def cUn (f : CE) (op : UnaryOp) (a : Expr) : Option Ex := match op with
  | .Not => (cT f a).map .not
  | .USub => (match a with
    | .Constant (.int i) _ _ => some (.dat (.int (-i)))
    | _ => none)
  | _ => none
def cList (f : CE) : List Expr → Option Exs
  | [] => some .nil
  | e :: es => if notStar e then (match f e, cList f es with
    | some a, some b => some (.cons a b)
    | _, _ => none) else none
def bopI : Operator → Option Bop
  | .Add => some .add | .Sub => some .sub | .Mult => some .mul | .Mod => some .mod | .FloorDiv => some .fdiv
  | _ => none
def copI : CmpOp → Option Cop
  | .Eq => some .eq | .NotEq => some .ne | .Lt => some .lt | .LtE => some .le | .Gt => some .gt | .GtE => some .ge
  | .In => some .isin | .NotIn => some .notin | .Is => some .is | .IsNot => some .isnot
def cBool (f : CE) (op : BoolOp) : List Expr → Option Ex
  | [] => none
  | [a] => cT f a
  | a :: b :: r => match cT f a, cBool f op (b :: r) with
    | some x, some y => some (match op with | .And => .and x y | .Or => .or x y)
    | _, _ => none
def notSet : Expr → Bool
  | .Set .. => false
  | _ => true
def cCmp (f : CE) (a : Expr) : List CmpOp → List Expr → Option Ex
  | [op], [b] => (match copI op, f a, f b with
    | some o, some x, some y => if notSet b then some (.cmp o x y) else none
    | _, _, _ => none)
  | [o1, o2], [b, d] => (match copI o1, copI o2, f a, f b, f d with
    | some p, some q, some x, some y, some z => if notSet d then some (.chain p q x y z) else none
    | _, _, _, _, _ => none)
  | _, _ => none
def cPart (f : CE) : Option Expr → Option Ex
  | none => some (.dat .non)
  | some e => f e
def cSub (f : CE) (a i : Expr) : Option Ex := match i with
  | .Slice lo hi none _ => (match f a, cPart f lo, cPart f hi with
    | some x, some l, some h => some (.slc x l h)
    | _, _, _ => none)
  | .Slice none none (some (.UnaryOp .USub (.Constant (.int 1) _ _) _)) _ => (f a).map .rev
  | .Slice _ _ (some _) _ => none
  | i => (match f a, f i with
    | some x, some y => some (.idx x y)
    | _, _ => none)
def biOf (x : Str) (n : Nat) : Option Bi :=
  if x = "len" then some .len else if x = "tuple" then some .tuple else if x = "list" then some .list else if x = "sorted" then some .sorted else if x = "all" then some .all
  else if x = "min" then (if n = 2 then some .min2 else none) else if x = "max" then (if n = 2 then some .max2 else none) else none
def tyOf (x : Str) : Option Ty :=
  if x = "tuple" then some .tTuple else if x = "str" then some .tStr else if x = "int" then some .tInt else if x = "bool" then some .tBool else if x = "list" then some .tList else none
def isB (c : CC) (x : Str) : Bool := okName x && isGl c.sc x && c.blts.contains x
/-- isinstance(a, T) -/
def cIsi (c : CC) (f : CE) : List Expr → Option Ex
  | [a, .Name n _] => if notStar a && isB c n then (match f a, tyOf n with
    | some x, some t => some (.isi x [t])
    | _, _ => none) else none
  | [a, .Tuple [.Name n _, .Name m _] _ _] => if notStar a && isB c n && isB c m then (match f a, tyOf n, tyOf m with
    | some x, some t, some u => some (.isi x [t, u])
    | _, _, _ => none) else none
  | _ => none
def cCallN (c : CC) (f : CE) (x : Str) (args : List Expr) : Option Ex :=
  if okName x && isGl c.sc x then (match c.fns.lookup x with
    | some (fid, ar) => (match cList f args with
      | some ies => if ies.len = ar then some (.call fid ies) else none
      | none => none)
    | none => if c.blts.contains x then (if x = "isinstance" then cIsi c f args else if args.isEmpty then none else match biOf x args.length, cList f args with
      | some b, some ies => some (.bi b ies)
      | _, _ => none) else none)
  else none
def meOf (x : Str) : Option Me :=
  if x = "split" then some .split else if x = "join" then some .join else if x = "endswith" then some .endswith else if x = "startswith" then some .startswith
  else if x = "append" then some .append else if x = "extend" then some .extend else none
def cMeth (f : CE) (o : Expr) (m : Str) (apos pos : Pos) (args : List Expr) : Option Ex :=
  if notCall o && (apos.endLine == pos.line) then (match args with
    | [e] => if notStar e then (match meOf m, f o, f e with
      | some me, some x, some y => some (.meth me x (.cons y .nil))
      | _, _, _ => none) else none
    | [e, g] => if notStar e && notStar g && decide (m = "get") then (match f o, f e, f g with
      | some x, some y, some z => some (.meth .get x (.cons y (.cons z .nil)))
      | _, _, _ => none) else none
    | _ => none) else none
def cCall (c : CC) (f : CE) (g : Expr) (args : List Expr) (kws : List Keyword) (pos : Pos) : Option Ex := match g, kws with
  | .Name x _, [] => cCallN c f x args
  | .Attribute o m apos, [] => cMeth f o m apos pos args
  | _, _ => none
/-- targets -/
def cNames (c : CC) (sc : Scope) : List Expr → Option (List (Str × Nat))
  | [] => some []
  | .Name x _ :: r => if isLoc sc x then (match ixOf x c.N, cNames c sc r with
    | some i, some is => some ((x, i) :: is)
    | _, _ => none) else none
  | _ :: _ => none
def cTg (c : CC) (sc : Scope) : Expr → Option (List (Str × Nat) × Tg)
  | .Name x _ => if isLoc sc x then (ixOf x c.N).map fun i => ([(x, i)], .one i) else none
  | .Tuple es _ _ => (cNames c sc es).map fun ns => (ns, .many (ns.map (·.2)))
  | _ => none
def isTupE : Expr → Bool
  | .Tuple .. => true
  | _ => false
def cIter (c : CC) (f : CE) (tg iter : Expr) : Option It := match iter with
  | .Call (.Name x p) [a] [] pos => if decide (x = "range") && isB c x && notStar a then (f a).map .range1 else if decide (x = "enumerate") && isB c x && notStar a && isTupE tg then (f a).map .enum else (f (.Call (.Name x p) [a] [] pos)).map .of
  | .Call (.Name x p) [a, b] [] pos => if decide (x = "range") && isB c x && notStar a && notStar b then (match f a, f b with
      | some u, some v => some (.range2 u v)
      | _, _ => none)
    else if decide (x = "zip") && isB c x && notStar a && notStar b && isTupE tg then (match f a, f b with
      | some u, some v => some (.zip u v)
      | _, _ => none)
    else (f (.Call (.Name x p) [a, b] [] pos)).map .of
  | .Call (.Name x p) [a, b, d] [] pos => if decide (x = "range") && isB c x && notStar a && notStar b && notStar d then (match f a, f b, f d with
      | some u, some v, some w => some (.range3 u v w)
      | _, _, _ => none)
    else (f (.Call (.Name x p) [a, b, d] [] pos)).map .of
  | e => if notSet e then (f e).map .of else none
def cIfs (f : CE) : List Expr → Option Ex
  | [] => some (.dat (.bl true))
  | [e] => cT f e
  | _ => none
def cComp (c : CC) (F : CC → CE) (elt : Expr) (gs : List Comprehension) (scope : Scope) : Option Ex := match gs with
  | [⟨tg, iter, ifs, 0⟩] => (match cTg c scope tg, cIter c (F c) tg iter with
    | some (own, t), some it => if blkC c.N c.sc scope own then (match F { c with sc := relS scope c.sc } elt, cIfs (F { c with sc := relS scope c.sc }) ifs with
      | some ie, some ic => some (.comp ie t it ic)
      | _, _ => none) else none
    | _, _ => none)
  | _ => none
def cExpr : Nat → CC → CE
  | 0, _, _ => none
  | n + 1, c, .Name x _ => cName c x
  | n + 1, c, .Constant v _ _ => (cConst v).map .dat
  | n + 1, c, .UnaryOp op a _ => cUn (cExpr n c) op a
  | n + 1, c, .Tuple es _ _ => (cList (cExpr n c) es).map .tup
  | n + 1, c, .List es _ => (cList (cExpr n c) es).map .lst
  | n + 1, c, .Dict ks vs _ => if ks.isEmpty && vs.isEmpty then some .dnew else none
  | n + 1, c, .BinOp a op b _ => (match bopI op, cExpr n c a, cExpr n c b with
    | some o, some x, some y => some (.bin o x y)
    | _, _, _ => none)
  | n + 1, c, .BoolOp op es _ => cBool (cExpr n c) op es
  | n + 1, c, .IfExp t a b _ => (match cT (cExpr n c) t, cExpr n c a, cExpr n c b with
    | some x, some y, some z => some (.ife x y z)
    | _, _, _ => none)
  | n + 1, c, .Compare a ops bs _ => cCmp (cExpr n c) a ops bs
  | n + 1, c, .Subscript a i _ => cSub (cExpr n c) a i
  | n + 1, c, .Call g args kws pos => cCall c (cExpr n c) g args kws pos
  | n + 1, c, .ListComp elt gs scope _ => cComp c (cExpr n) elt gs scope
  | _ + 1, _, _ => none
def isComp : Expr → Bool
  | .ListComp .. => true | .SetComp .. => true | .DictComp .. => true
  | _ => false
/-- [y = a comprehension]: whether its store is exchanged -/
def swB (sc : Scope) (y : Str) (py : Pos) : Expr → Option Bool
  | .ListComp _ _ s pos => some (decide (sc.names.lookup y = some .local) && (py.line == pos.line) && !(s.names.any fun (n, k) => n == y && (k == .local || k == .cell)))
  | e => if isComp e then none else some false
/-- a, b = x, y: stored from the right -/
def swapB (sc : Scope) (ts vs : List Expr) : Bool :=
  let line := (ts.head?.map (·.pos.line)).getD 0
  let names := ts.filterMap fun
    | .Name id pos => if sc.names.lookup id == some .local && pos.line == line then some id else none
    | _ => none
  (ts.length == 2 || ts.length == 3) && (vs.length == ts.length) && vs.all notStar && (names.length == ts.length) && (names.eraseDups.length == names.length) && !(vs.all (foldedForSure 8)) && !(vs.all (constantsAlone 8))
/-- .. and where they are not -/
def noSwapB (sc : Scope) (ts vs : List Expr) : Bool :=
  let line := (ts.head?.map (·.pos.line)).getD 0
  let names := ts.filterMap fun
    | .Name id pos => if sc.names.lookup id == some .local && pos.line == line then some id else none
    | _ => none
  vs.all (foldedForSure 8) || names.length != ts.length
def isL (sc : Scope) (x : Str) : Bool := decide (sc.names.lookup x = some .local)
def cPar (c : CC) (f : CE) (ts vs : List Expr) : Option Sm := match ts, vs with
  | [.Name x px, .Name y py], [a, b] => if swapB c.sc [.Name x px, .Name y py] [a, b] && isL c.sc x && isL c.sc y && (py.line == px.line) then (match ixOf x c.N, ixOf y c.N, cList f [a, b] with
    | some i, some j, some ies => if i = j then none else some (.par [i, j] ies)
    | _, _, _ => none) else none
  | [.Name x px, .Name y py, .Name z pz], [a, b, d] => if swapB c.sc [.Name x px, .Name y py, .Name z pz] [a, b, d] && isL c.sc x && isL c.sc y && isL c.sc z && (py.line == px.line) && (pz.line == px.line) then (match ixOf x c.N, ixOf y c.N, ixOf z c.N, cList f [a, b, d] with
    | some i, some j, some l, some ies => if i = j ∨ i = l ∨ j = l then none else some (.par [i, j, l] ies)
    | _, _, _, _ => none) else none
  | _, _ => none
def cAsg (c : CC) (f : CE) (t e : Expr) : Option Sm := match t with
  | .Name x p => if isLoc c.sc x then (match ixOf x c.N, f e, swB c.sc x p e with
    | some i, some ie, some _ => some (.asg i ie)
    | _, _, _ => none) else none
  | .Tuple ts _ _ => (match e with
    | .Tuple vs j p => if noSwapB c.sc ts vs then (match cNames c c.sc ts with
      | some ns => (f (.Tuple vs j p)).map (.asgT (ns.map (·.2)))
      | none => none) else cPar c f ts vs
    | e => if isComp e then none else (match cNames c c.sc ts with
      | some ns => (f e).map (.asgT (ns.map (·.2)))
      | none => none))
  | .Subscript a i _ => if isComp e then none else (match f a, f i, f e with
    | some x, some y, some z => some (.setIx x y z)
    | _, _, _ => none)
  | _ => none
def cStmts (f : Stmt → Option Sm) : List Stmt → Option Sms
  | [] => some .nil
  | s :: r => match f s, cStmts f r with
    | some a, some b => some (.cons a b)
    | _, _ => none
def cStmt : Nat → CC → Stmt → Option Sm
  | 0, _, _ => none
  | n + 1, c, .Assign [t] e _ => cAsg c (cExpr n c) t e
  | n + 1, c, .Expr e _ => if isComp e then none else (cExpr n c e).map .expr
  | n + 1, c, .Return (some e) _ => (cExpr n c e).map .ret
  | n + 1, c, .If t a b _ => (match cT (cExpr n c) t, cStmts (cStmt n c) a, cStmts (cStmt n c) b with
    | some x, some y, some z => some (.ife x y z)
    | _, _, _ => none)
  | n + 1, c, .For tg iter body [] pos => (match cTg c c.sc tg, cIter c (cExpr n c) tg iter, cStmts (cStmt n c) body with
    | some (_, t), some it, some sb => some (.loop t it sb (c.lines.contains pos.line))
    | _, _, _ => none)
  | n + 1, _, .Pass _ => some .pass
  | _ + 1, _, _ => none
end Ev
set_option Elab.async false
set_option linter.all false
set_option maxRecDepth 100000
/-! Eng15: the translation is sound: expressions. -/
namespace Ev
open PySem L2

structure CtxOk (k : Nat) (F : FS) (cA : Nat → Addr) (c : CC) (X : Cx) (E : XW) : Prop where
  N : X.N = c.N
  sc : X.env.scope = c.sc
  nd : X.N.Nodup
  kind : c.sc.kind = .function
  calm : X.calm = true
  room : Room k X.A
  own : PassesOwn (model X.prog X.w) X.A X.env X.xe
  tk : Takes X (wOf cA E)
  fns : ∀ x fid ar, c.fns.lookup x = some (fid, ar) → ∃ f fd ps, X.mg x = some (.ref f) ∧ PySem.W.keepIn X.K (.ref f) = true ∧ Binds X.K fd ps [] ∧ FnOk X.prog X.w X.K X.mg X.base (L2.CX X.prog X.w) k f fd ps (spF X.K cA F ar fid)
  dats : ∀ x d, c.dats.lookup x = some d → ∃ u v, X.mg x = some u ∧ RelV v u ∧ ∀ β H, RV X.K β H d v
  blts : ∀ x, c.blts.contains x = true → X.mg x = none

theorem ixOf_get {x : Str} : ∀ {N : List Str} {i : Nat}, ixOf x N = some i → N[i]? = some x
  | [], i, h => by cases h
  | y :: r, i, h => by
    rw [ixOf] at h
    split at h
    · rename_i e
      cases h
      rw [e]; rfl
    · obtain ⟨j, e, rfl⟩ := Option.map_eq_some_iff.mp h
      simpa using ixOf_get e
theorem okName_of {x : Str} (h : okName x = true) : (x == ("__debug__" : Str)) = false ∧ (x == ("__classdict__" : Str)) = false ∧ x ≠ "__name__" := by
  unfold okName at h
  rw [Bool.and_eq_true, Bool.and_eq_true] at h
  exact ⟨beq_eq_false_iff_ne.mpr (of_decide_eq_true h.1.1), beq_eq_false_iff_ne.mpr (of_decide_eq_true h.1.2), of_decide_eq_true h.2⟩
theorem isVis_of {sc : Scope} {x : Str} (h : isVis sc x = true) : Vis sc x := by
  unfold isVis at h
  split at h
  · rename_i e; exact .inl e
  · rename_i e; exact .inr (.inl e)
  · rename_i e; exact .inr (.inr e)
  · cases h
theorem isLoc_of {sc : Scope} {x : Str} (h : isLoc sc x = true) : sc.names.lookup x = some .local ∨ sc.names.lookup x = some .cell := by
  unfold isLoc at h
  split at h
  · rename_i e; exact .inl e
  · rename_i e; exact .inr e
  · cases h
theorem isGl_of {sc : Scope} {x : Str} (h : isGl sc x = true) : sc.names.lookup x = some .globalImplicit := by
  unfold isGl at h
  split at h
  · assumption
  · cases h
section
variable {k : Nat} {F : FS} {cA : Nat → Addr} {c : CC} {X : Cx} {E : XW} {pos : Pos}
theorem CtxOk.gl (o : CtxOk k F cA c X E) {x : Str} (h : isGl c.sc x = true) : Gl X x := by
  show X.env.scope.names.lookup x = _
  rw [o.sc]
  exact isGl_of h
theorem isB_of (o : CtxOk k F cA c X E) {x : Str} (h : isB c x = true) : Gl X x ∧ X.mg x = none ∧ (x == ("__debug__" : Str)) = false ∧ x ≠ "__name__" := by
  unfold isB at h
  rw [Bool.and_eq_true, Bool.and_eq_true] at h
  obtain ⟨h1, h2, h3⟩ := okName_of h.1.1
  exact ⟨o.gl h.1.2, o.blts x h.2, h1, h3⟩
theorem name_ok (o : CtxOk k F cA c X E) {x : Str} {ie : Ex} (h : cName c x = some ie) : PE X (.Name x pos) (tEv X.K F E ie) := by
  unfold cName at h
  split at h
  · rename_i hn
    obtain ⟨h1, h2, h3⟩ := okName_of hn
    split at h
    · rename_i hv
      obtain ⟨i, e, rfl⟩ := Option.map_eq_some_iff.mp h
      exact s_var (by rw [o.N]; exact ixOf_get e) (by rw [o.sc]; exact isVis_of hv) h1 h2
    · split at h
      · rename_i hg
        obtain ⟨d, e, rfl⟩ := Option.map_eq_some_iff.mp h
        obtain ⟨u, v, m, rv, hr⟩ := o.dats x d e
        exact s_dat (pe_glob (o.gl hg) m rv h1) hr
      · cases h
  · cases h
theorem const_ok {v : Const} {j : Nat} {d : D} (h : cConst v = some d) : PE X (.Constant v j pos) (tEv X.K F E (.dat d)) := by
  unfold cConst at h
  split at h
  · cases h; exact s_dat pe_int fun _ _ => by rw [RV]
  · cases h; exact s_dat pe_bl fun _ _ => by rw [RV]
  · cases h; exact s_dat pe_non fun _ _ => by rw [RV]
  · cases h; exact s_dat pe_str fun _ _ => by rw [RV]
  · cases h
/-- what is known of the operands -/
abbrev Ok1 (X : Cx) (F : FS) (E : XW) (f : CE) : Prop := ∀ e ie, f e = some ie → PE X e (tEv X.K F E ie) ∧ (noIf e = true → PT X e (tEvT X.K F E ie))
theorem cT_ok {f : CE} (o : Ok1 X F E f) {e : Expr} {ie : Ex} (h : cT f e = some ie) : PT X e (tEvT X.K F E ie) := by
  unfold cT at h
  split at h
  · rename_i hn; exact (o e ie h).2 hn
  · cases h
theorem cT_val {f : CE} {e : Expr} {ie : Ex} (h : cT f e = some ie) : f e = some ie := by
  unfold cT at h
  split at h
  · exact h
  · cases h
theorem list_ok {f : CE} (o : Ok1 X F E f) : ∀ {es : List Expr} {ies : Exs}, cList f es = some ies → PA X es (tEvs X.K F E ies) ∧ es.all notStar = true
  | [], ies, h => by cases h; exact ⟨s_nil, rfl⟩
  | e :: es, ies, h => by
    rw [cList] at h
    split at h
    · rename_i hs
      split at h
      · rename_i a b e1 e2
        cases h
        obtain ⟨h1, h2⟩ := list_ok o e2
        exact ⟨s_cons (o e a e1).1 h1 hs, by rw [List.all_cons, hs, h2]; rfl⟩
      · cases h
    · cases h
theorem un_ok {f : CE} (o : Ok1 X F E f) {op : UnaryOp} {a : Expr} {ie : Ex} (h : cUn f op a = some ie) : PE X (.UnaryOp op a pos) (tEv X.K F E ie) ∧ PT X (.UnaryOp op a pos) (tEvT X.K F E ie) := by
  unfold cUn at h
  split at h
  · obtain ⟨ia, e, rfl⟩ := Option.map_eq_some_iff.mp h
    exact ⟨s_not (o a ia (cT_val e)).1, t_not (cT_ok o e)⟩
  · split at h
    · rename_i i j p
      cases h
      have pe : PE X (.UnaryOp .USub (.Constant (.int i) j p) pos) (tC (.int (-i))) := (pe_un un_neg pe_int).monoE fun σ H Q q => ⟨i, rfl, q⟩
      have s : PE X (.UnaryOp .USub (.Constant (.int i) j p) pos) (tEv X.K F E (.dat (.int (-i)))) := s_dat pe fun _ _ => by rw [RV]
      refine ⟨s, ?_⟩
      refine (pt_truth s fun wh => rfl).monoE fun σ H Q h => ?_
      obtain ⟨ρ, S, β, sim, r, p⟩ := h
      refine seqE sim r p fun d1 S1 β1 H1 v1 e1 sim1 r1 h1 p1 => ?_
      cases ec : truth S1 d1 with
      | none => rw [ec] at p1; exact p1.elim
      | some t =>
        rw [ec] at p1
        exact ⟨t, truth_run r1 h1 ec, p1 β1 H1 .refl r1⟩
    · cases h
  · cases h
theorem bopI_of {op : Operator} {b : Bop} (h : bopI op = some b) : op = bopOf b := by
  cases op <;> cases h <;> rfl
theorem copI_of {op : CmpOp} {b : Cop} (h : copI op = some b) : op = copOf b := by
  cases op <;> cases h <;> rfl
theorem bool_ok {f : CE} (o : Ok1 X F E f) {op : BoolOp} : ∀ {es : List Expr} {ie : Ex}, cBool f op es = some ie → PE X (.BoolOp op es pos) (tEv X.K F E ie) ∧ PW X (.BoolOp op es pos) (tEvT X.K F E ie)
  | [], ie, h => by cases h
  | [a], ie, h => by
    rw [cBool] at h
    exact ⟨pe_one (o a ie (cT_val h)).1, t_and1 (cT_ok o h)⟩
  | a :: b :: r, ie, h => by
    rw [cBool] at h
    split at h
    · rename_i x y e1 e2
      obtain ⟨h1, h2⟩ := bool_ok o e2
      cases op with
      | And => cases h; exact ⟨s_and (o a x (cT_val e1)).1 h1, t_and (cT_ok o e1) h2⟩
      | Or => cases h; exact ⟨s_or (o a x (cT_val e1)).1 h1, t_or (cT_ok o e1) h2⟩
    · cases h
theorem marks_of {op : CmpOp} {b : Expr} (h : notSet b = true) : behindInMarks op b = false := by
  cases b <;> first | rfl | (exact nomatch h)
theorem cmp_ok (hr : Room k X.A) {f : CE} (o : Ok1 X F E f) {a : Expr} {ops : List CmpOp} {bs : List Expr} {ie : Ex} (h : cCmp f a ops bs = some ie) : PE X (.Compare a ops bs pos) (tEv X.K F E ie) ∧ PT X (.Compare a ops bs pos) (tEvT X.K F E ie) := by
  unfold cCmp at h
  split at h
  · split at h
    · rename_i p x y e1 e2 e3
      split at h
      · rename_i hs
        cases h
        rw [copI_of e1]
        exact ⟨s_cmp hr p (o _ _ e2).1 (o _ _ e3).1 (marks_of hs), t_cmp hr p (o _ _ e2).1 (o _ _ e3).1 (marks_of hs)⟩
      · cases h
    · cases h
  · split at h
    · rename_i p q x y z e1 e2 e3 e4 e5
      split at h
      · rename_i hs
        cases h
        rw [copI_of e1, copI_of e2]
        exact ⟨s_chain hr p q (o _ _ e3).1 (o _ _ e4).1 (o _ _ e5).1 (marks_of hs), t_chain hr p q (o _ _ e3).1 (o _ _ e4).1 (o _ _ e5).1 (marks_of hs)⟩
      · cases h
    · cases h
  · cases h
theorem part_ok {f : CE} (o : Ok1 X F E f) {e : Option Expr} {ie : Ex} (h : cPart f e = some ie) : PO X e (tEvO X.K F E ie) := by
  unfold cPart at h
  split at h
  · cases h; exact o_none
  · exact o_some (o _ _ h).1
theorem sub_ok (hr : Room k X.A) {f : CE} (o : Ok1 X F E f) {a i : Expr} {ie : Ex} (h : cSub f a i = some ie) : PE X (.Subscript a i pos) (tEv X.K F E ie) := by
  unfold cSub at h
  split at h
  · split at h
    · rename_i x l h' e1 e2 e3
      cases h
      exact s_slc (o _ _ e1).1 (part_ok o e2) (part_ok o e3)
    · cases h
  · obtain ⟨ia, e1, rfl⟩ := Option.map_eq_some_iff.mp h
    exact s_rev (o _ _ e1).1
  · cases h
  · rename_i hn1 hn1' hn2
    split at h
    · rename_i x y e1 e2
      cases h
      refine s_idx hr (o _ _ e1).1 (o _ _ e2).1 ?_
      cases i with
      | Slice lo hi st p =>
        cases st with
        | none => exact absurd rfl (hn1 lo hi p)
        | some s => exact absurd rfl (hn2 lo hi s p)
      | _ => rfl
    · cases h
theorem bi_ok (o : CtxOk k F cA c X E) {x : Str} {n : Nat} {b : Bi} (hb : biOf x n = some b) {e : Expr} {es : List Expr} {ies : Exs} (hg : Gl X x) (hm : X.mg x = none) (hd : (x == ("__debug__" : Str)) = false) (hn : x ≠ "__name__") (ha : PA X (e :: es) (tEvs X.K F E ies))
    (hst : (e :: es).all notStar = true) {p : Pos} : PE X (.Call (.Name x p) (e :: es) [] pos) (tEv X.K F E (.bi b ies)) := by
  unfold biOf at hb
  split at hb
  · rename_i hx; subst hx; cases hb; exact s_biB cr_len hg hm (by decide +kernel) ha hn hd hst
  split at hb
  · rename_i hx; subst hx; cases hb; exact s_biT cr_tuple hg hm (by decide +kernel) ha hn hd hst
  split at hb
  · rename_i hx; subst hx; cases hb; exact s_biT cr_list hg hm (by decide +kernel) ha hn hd hst
  split at hb
  · rename_i hx; subst hx; cases hb; exact s_biB (cr_sortedE o.room o.calm) hg hm (by decide +kernel) ha hn hd hst
  split at hb
  · rename_i hx; subst hx; cases hb; exact s_biB (cr_allE o.calm) hg hm (by decide +kernel) ha hn hd hst
  split at hb
  · rename_i hx
    split at hb
    · subst hx; cases hb; exact s_biB (cr_min2 o.calm) hg hm (by decide +kernel) ha hn hd hst
    · cases hb
  split at hb
  · rename_i hx
    split at hb
    · subst hx; cases hb; exact s_biB (cr_max2 o.calm) hg hm (by decide +kernel) ha hn hd hst
    · cases hb
  · cases hb
theorem tyOf_of {x : Str} {t : Ty} (h : tyOf x = some t) : bootBuiltins x = some (.type (tyN t)) := by
  unfold tyOf at h
  split at h
  · rename_i hx; subst hx; cases h; decide +kernel
  split at h
  · rename_i hx; subst hx; cases h; decide +kernel
  split at h
  · rename_i hx; subst hx; cases h; decide +kernel
  split at h
  · rename_i hx; subst hx; cases h; decide +kernel
  split at h
  · rename_i hx; subst hx; cases h; decide +kernel
  · cases h
theorem isi_ok (o : CtxOk k F cA c X E) {f : CE} (of : Ok1 X F E f) (hg : Gl X "isinstance") (hm : X.mg "isinstance" = none) {args : List Expr} {ie : Ex} {p : Pos} (h : cIsi c f args = some ie) : PE X (.Call (.Name "isinstance" p) args [] pos) (tEv X.K F E ie) := by
  unfold cIsi at h
  split at h
  · split at h
    · rename_i hc
      rw [Bool.and_eq_true] at hc
      obtain ⟨g1, g2, g3, g4⟩ := isB_of o hc.2
      split at h
      · rename_i x t e1 e2
        cases h
        exact s_isi1 (of _ _ e1).1 hc.1 hg hm g1 g2 (tyOf_of e2) g4 g3
      · cases h
    · cases h
  · split at h
    · rename_i hc
      rw [Bool.and_eq_true, Bool.and_eq_true] at hc
      obtain ⟨g1, g2, g3, g4⟩ := isB_of o hc.1.2
      obtain ⟨k1, k2, k3, k4⟩ := isB_of o hc.2
      split at h
      · rename_i x t u e1 e2 e3
        cases h
        exact s_isi2 (of _ _ e1).1 hc.1.1 hg hm g1 g2 (tyOf_of e2) g4 g3 k1 k2 (tyOf_of e3) k4 k3
      · cases h
    · cases h
  · cases h
theorem callN_ok (o : CtxOk k F cA c X E) {f : CE} (of : Ok1 X F E f) {x : Str} {args : List Expr} {ie : Ex} {p : Pos} (h : cCallN c f x args = some ie) : PE X (.Call (.Name x p) args [] pos) (tEv X.K F E ie) := by
  unfold cCallN at h
  split at h
  · rename_i hc
    rw [Bool.and_eq_true] at hc
    obtain ⟨h1, h2, h3⟩ := okName_of hc.1
    have hg := o.gl hc.2
    split at h
    · rename_i fid ar el
      split at h
      · rename_i ies e1
        split at h
        · rename_i hl
          cases h
          obtain ⟨fa, fd, ps, m, kp, hb, G⟩ := o.fns x fid ar el
          obtain ⟨pa, hst⟩ := list_ok of e1
          cases args with
          | nil =>
            cases e1
            subst hl
            exact s_call0 G o.room hg m kp hb o.tk h1
          | cons e es => exact s_call G o.room hg m kp hb o.tk pa h1 hst hl
        · cases h
      · cases h
    · split at h
      · rename_i hb
        have hm := o.blts x hb
        split at h
        · rename_i hx
          subst hx
          exact isi_ok o of hg hm h
        · split at h
          · cases h
          · rename_i hne
            split at h
            · rename_i b ies e1 e2
              cases h
              obtain ⟨pa, hst⟩ := list_ok of e2
              cases args with
              | nil => exact absurd rfl hne
              | cons e es => exact bi_ok o e1 hg hm h1 h3 pa hst
            · cases h
      · cases h
  · cases h
theorem meth_ok (o : CtxOk k F cA c X E) {f : CE} (of : Ok1 X F E f) {ob : Expr} {m : Str} {apos : Pos} {args : List Expr} {ie : Ex} (h : cMeth f ob m apos pos args = some ie) : PE X (.Call (.Attribute ob m apos) args [] pos) (tEv X.K F E ie) := by
  unfold cMeth at h
  split at h
  · rename_i hc
    rw [Bool.and_eq_true] at hc
    split at h
    · split at h
      · rename_i hs
        split at h
        · rename_i me x y e1 e2 e3
          cases h
          have ho := (of _ _ e2).1
          have he := (of _ _ e3).1
          unfold meOf at e1
          split at e1
          · rename_i hx; subst hx; cases e1
            exact s_m1 PySem.F.plainAttrs_str PySem.F.slot_str_split PySem.F.type_str_split mt_splitE (fun _ => rfl) (ty_str fun _ _ => rfl) ho he hc.1 hc.2 hs
          split at e1
          · rename_i hx; subst hx; cases e1
            exact s_m1 PySem.F.plainAttrs_str PySem.F.slot_str_join PySem.F.type_str_join mt_joinE (fun _ => rfl) (ty_str fun _ _ => rfl) ho he hc.1 hc.2 hs
          split at e1
          · rename_i hx; subst hx; cases e1
            exact s_m1 PySem.F.plainAttrs_str PySem.F.slot_str_endswith PySem.F.type_str_endswith mt_endsE (fun _ => rfl) (ty_str fun _ _ => rfl) ho he hc.1 hc.2 hs
          split at e1
          · rename_i hx; subst hx; cases e1
            exact s_m1 PySem.F.plainAttrs_str PySem.F.slot_str_startswith PySem.F.type_str_startswith mt_startsE (fun _ => rfl) (ty_str fun _ _ => rfl) ho he hc.1 hc.2 hs
          split at e1
          · rename_i hx; subst hx; cases e1
            exact s_m1 PySem.F.plainAttrs_list PySem.F.slot_list_append PySem.F.type_list_append mt_appendE (fun _ => rfl) (ty_list fun _ _ => rfl) ho he hc.1 hc.2 hs
          split at e1
          · rename_i hx; subst hx; cases e1
            exact s_m1 PySem.F.plainAttrs_list PySem.F.slot_list_extend PySem.F.type_list_extend mt_extendE (fun _ => rfl) (ty_list fun _ _ => rfl) ho he hc.1 hc.2 hs
          · cases e1
        · cases h
      · cases h
    · split at h
      · rename_i hs
        rw [Bool.and_eq_true, Bool.and_eq_true] at hs
        have hx := of_decide_eq_true hs.2
        subst hx
        split at h
        · rename_i x y z e1 e2 e3
          cases h
          exact s_m2 PySem.F.plainAttrs_dict PySem.F.slot_dict_get PySem.F.type_dict_get (mt_getE o.room) (fun _ => rfl) (ty_dict fun _ _ => rfl) (of _ _ e1).1 (of _ _ e2).1 (of _ _ e3).1 hc.1 hc.2 hs.1.1 hs.1.2
        · cases h
      · cases h
    · cases h
  · cases h
theorem call_ok (o : CtxOk k F cA c X E) {f : CE} (of : Ok1 X F E f) {g : Expr} {args : List Expr} {kws : List Keyword} {ie : Ex} (h : cCall c f g args kws pos = some ie) : PE X (.Call g args kws pos) (tEv X.K F E ie) := by
  unfold cCall at h
  split at h
  · exact callN_ok o of h
  · exact meth_ok o of h
  · cases h
end
end Ev
set_option Elab.async false
set_option linter.all false
set_option maxRecDepth 100000
/-! Eng16: the translation is sound: targets, walks, comprehensions; expressions in all. -/
namespace Ev
open PySem L2

section
variable {k : Nat} {F : FS} {cA : Nat → Addr} {c : CC} {X : Cx} {E : XW} {pos : Pos}
/-- names that may be stored -/
abbrev Stores (X : Cx) (sc : Scope) : Prop := ∀ x, isLoc sc x = true → Loc X.env.scope x ∧ (X.fn x = true ∨ X.env.scope.names.lookup x = some .local)
theorem names_ok {sc : Scope} (hN : X.N = c.N) (nd : X.N.Nodup) (hl : Stores X sc) : ∀ {es : List Expr} {ns : List (Str × Nat)}, cNames c sc es = some ns →
    PGs X es (gNames (ns.map (·.2))) ∧ (assignEach es X.env).length = ns.length ∧ (assignEach es X.env).findIdx? (·.1) = none
  | [], ns, h => by cases h; exact ⟨pgs_nil, rfl, rfl⟩
  | e :: es, ns, h => by
    cases e with
    | Name x p =>
      rw [cNames] at h
      split at h
      · rename_i hx
        split at h
        · rename_i i is e1 e2
          cases h
          obtain ⟨h1, h2, h3⟩ := names_ok hN nd hl e2
          obtain ⟨l1, l2⟩ := hl x hx
          refine ⟨pgs_cons (pg_name (i := i) nd (by rw [hN]; exact ixOf_get e1) l1 l2) h1 rfl, ?_, ?_⟩
          · show (assignEach es X.env).length + 1 = _
            rw [h2]; rfl
          · show ((false, assign (.Name x p) X.env) :: assignEach es X.env).findIdx? (·.1) = none
            rw [List.findIdx?_cons, h3]
            rfl
        · cases h
      · cases h
    | _ => exact nomatch h
theorem tg_ok {sc : Scope} (hN : X.N = c.N) (nd : X.N.Nodup) (hc : X.calm = true) (hl : Stores X sc) {e : Expr} {own : List (Str × Nat)} {t : Tg} (h : cTg c sc e = some (own, t)) : PG X e (gOf X.K t) ∧ own.map (·.2) = t.ixs := by
  unfold cTg at h
  split at h
  · split at h
    · rename_i x p hx
      obtain ⟨i, e1, e2⟩ := Option.map_eq_some_iff.mp h
      cases e2
      obtain ⟨l1, l2⟩ := hl x hx
      exact ⟨pg_name (i := i) nd (by rw [hN]; exact ixOf_get e1) l1 l2, rfl⟩
    · cases h
  · obtain ⟨ns, e1, e2⟩ := Option.map_eq_some_iff.mp h
    cases e2
    obtain ⟨h1, h2, h3⟩ := names_ok hN nd hl e1
    exact ⟨pg_tup hc h1 (by rw [h2, List.length_map]) h3, rfl⟩
  · cases h
theorem tg_own {sc : Scope} {e : Expr} {own : List (Str × Nat)} {t : Tg} (h : cTg c sc e = some (own, t)) : own.map (·.2) = t.ixs := by
  unfold cTg at h
  split at h
  · split at h
    · obtain ⟨i, e1, e2⟩ := Option.map_eq_some_iff.mp h
      cases e2
      rfl
    · cases h
  · obtain ⟨ns, e1, e2⟩ := Option.map_eq_some_iff.mp h
    cases e2
    rfl
  · cases h
theorem folded_of {e : Expr} {env : PySem.Env} (h : notSet e = true) (x : Value) : foldedSetIterable e env x = pure x := by
  cases e <;> first | rfl | (exact nomatch h)
theorem iter_ok (o : CtxOk k F cA c X E) {f : CE} (of : Ok1 X F E f) {tg iter : Expr} {it : It} (h : cIter c f tg iter = some it) : PI X tg iter (tEvI X.K F E it) ∧ ∀ x, foldedSetIterable iter X.env x = pure x := by
  unfold cIter at h
  split at h
  · refine ⟨?_, fun x => rfl⟩
    split at h
    · rename_i hc
      rw [Bool.and_eq_true, Bool.and_eq_true] at hc
      obtain ⟨ia, e1, rfl⟩ := Option.map_eq_some_iff.mp h
      have hx := of_decide_eq_true hc.1.1
      subst hx
      obtain ⟨g1, g2, _, _⟩ := isB_of o hc.1.2
      exact i_range1 g1 g2 (of _ _ e1).1 hc.2
    · split at h
      · rename_i hc
        rw [Bool.and_eq_true, Bool.and_eq_true, Bool.and_eq_true] at hc
        obtain ⟨ia, e1, rfl⟩ := Option.map_eq_some_iff.mp h
        have hx := of_decide_eq_true hc.1.1.1
        subst hx
        obtain ⟨g1, g2, _, _⟩ := isB_of o hc.1.1.2
        cases tg with
        | Tuple elts kk tpos => exact i_enum g1 g2 (of _ _ e1).1 hc.1.2
        | _ => exact nomatch hc.2
      obtain ⟨ia, e1, rfl⟩ := Option.map_eq_some_iff.mp h
      exact i_of (of _ _ e1).1
  · refine ⟨?_, fun x => rfl⟩
    split at h
    · rename_i hc
      rw [Bool.and_eq_true, Bool.and_eq_true, Bool.and_eq_true] at hc
      split at h
      · rename_i u v e1 e2
        cases h
        have hx := of_decide_eq_true hc.1.1.1
        subst hx
        obtain ⟨g1, g2, _, _⟩ := isB_of o hc.1.1.2
        exact i_range2 g1 g2 (of _ _ e1).1 (of _ _ e2).1 hc.1.2 hc.2
      · cases h
    · split at h
      · rename_i hc
        rw [Bool.and_eq_true, Bool.and_eq_true, Bool.and_eq_true, Bool.and_eq_true] at hc
        split at h
        · rename_i u v e1 e2
          cases h
          have hx := of_decide_eq_true hc.1.1.1.1
          subst hx
          obtain ⟨g1, g2, _, _⟩ := isB_of o hc.1.1.1.2
          cases tg with
          | Tuple elts kk tpos => exact i_zip g1 g2 (of _ _ e1).1 (of _ _ e2).1 hc.1.1.2 hc.1.2
          | _ => exact nomatch hc.2
        · cases h
      · obtain ⟨ia, e1, rfl⟩ := Option.map_eq_some_iff.mp h
        exact i_of (of _ _ e1).1
  · refine ⟨?_, fun x => rfl⟩
    split at h
    · rename_i hc
      rw [Bool.and_eq_true, Bool.and_eq_true, Bool.and_eq_true, Bool.and_eq_true] at hc
      split at h
      · rename_i u v w e1 e2 e3
        cases h
        have hx := of_decide_eq_true hc.1.1.1.1
        subst hx
        obtain ⟨g1, g2, _, _⟩ := isB_of o hc.1.1.1.2
        exact i_range3 g1 g2 (of _ _ e1).1 (of _ _ e2).1 (of _ _ e3).1 hc.1.1.2 hc.1.2 hc.2
      · cases h
    · obtain ⟨ia, e1, rfl⟩ := Option.map_eq_some_iff.mp h
      exact i_of (of _ _ e1).1
  · split at h
    · rename_i hs
      obtain ⟨ia, e1, rfl⟩ := Option.map_eq_some_iff.mp h
      exact ⟨i_of (of _ _ e1).1, folded_of hs⟩
    · cases h
theorem ifs_ok {f : CE} (of : Ok1 X F E f) {ifs : List Expr} {ic : Ex} (h : cIfs f ifs = some ic) : PTs X ifs (tEvT X.K F E ic) := by
  unfold cIfs at h
  split at h
  · cases h
    refine ⟨fun pins s σ H Q I q => pts_nil.run pins s σ H Q I ?_⟩
    obtain ⟨ρ, S, β, sim, r, p⟩ := q
    rw [ev] at p
    exact p β H .refl r
  · exact pts_one (cT_ok of h)
  · cases h
theorem relabel_relS (scope : Scope) (env : PySem.Env) : relabel scope env = relS scope env.scope := rfl
/-- a comprehension's block is a context as well -/
theorem CtxOk.blk (o : CtxOk k F cA c X E) {scope : Scope} (hk : scope.kind = .function) (s : Shared) (H : Hp) (C : Addr) (cl : List (Str × Addr)) (fp : List Addr) :
    CtxOk k F cA { c with sc := relS scope c.sc } (X.blk s H scope (compEnvC scope cl C X.env) fp) noX where
  N := o.N
  sc := by
    show relabel scope X.env = relS scope c.sc
    rw [relabel_relS, o.sc]
  nd := o.nd
  kind := hk
  calm := o.calm
  room := o.room
  own := PassesOwn.never
  tk := takes0.imp fun _ _ _ _ ⟨_, _, _, h⟩ => h
  fns := o.fns
  dats := o.dats
  blts := o.blts
theorem blk_stores {scope : Scope} (s : Shared) (H : Hp) (C : Addr) (cl : List (Str × Addr)) (fp : List Addr) : Stores (X.blk s H scope (compEnvC scope cl C X.env) fp) scope := by
  intro x hx
  rcases isLoc_of hx with h | h
  · have h' : (relS scope X.env.scope).names.lookup x = some .local := lookup_relS_keep (by decide) h
    exact ⟨.inl h', .inr h'⟩
  · have h' : (relS scope X.env.scope).names.lookup x = some .cell := lookup_relS_keep (by decide) h
    refine ⟨.inr h', .inl ?_⟩
    show (scope.names.lookup x == some .cell) = true
    rw [h]; rfl
theorem comp_ok {n : Nat} (o : CtxOk k F cA c X E) (ih : ∀ c X E, CtxOk k F cA c X E → Ok1 X F E (cExpr n c)) {elt : Expr} {gs : List Comprehension} {scope : Scope} {ie : Ex} (h : cComp c (cExpr n) elt gs scope = some ie) :
    PE X (.ListComp elt gs scope pos) (tEv X.K F E ie) ∧ ∀ (i : Nat) (y : Str) (py spos : Pos), X.N[i]? = some y → X.env.scope.names.lookup y = some .local → swapsWith (.ListComp elt gs scope pos) (some (.Name y py)) spos.line X.env = pure true →
      PS X (.Assign [.Name y py] (.ListComp elt gs scope pos) spos) (tEx X.K F E (.asg i ie)) := by
  unfold cComp at h
  split at h
  · split at h
    · rename_i own t it e1 e2
      split at h
      · rename_i hb
        split at h
        · rename_i ie' ic e3 e4
          cases h
          have ok : BlkOk X.N X.env.scope scope own := by
            rw [o.N, o.sc]
            exact blkOk_by hb
          obtain ⟨hi, hs⟩ := iter_ok o (ih c X E o) e2
          have ob := fun s H C cl fp => o.blk ok.kind s H C cl fp
          have hg := fun (s : Shared) (H : Hp) (C : Addr) (cl : List (Str × Addr)) (fp : List Addr) => tg_ok (c := c) (X := X.blk s H scope (compEnvC scope cl C X.env) fp) o.N o.nd o.calm (blk_stores s H C cl fp) e1
          have hown : own.map (·.2) = t.ixs := tg_own e1
          have ht := fun (s : Shared) (H : Hp) (C : Addr) (cl : List (Str × Addr)) (fp : List Addr) => ifs_ok (ih _ _ _ (ob s H C cl fp)) e4
          have he := fun (s : Shared) (H : Hp) (C : Addr) (cl : List (Str × Addr)) (fp : List Addr) => (ih _ _ _ (ob s H C cl fp) _ _ e3).1
          refine ⟨s_comp o.calm o.nd hi ok (fun s H C cl fp => (hg s H C cl fp).1) ht he hs hown, fun i y py spos hy hyl hsw => ?_⟩
          exact (ps_setLc o.calm o.nd hy hyl hsw hi ok (fun s H C cl fp => (hg s H C cl fp).1) ht he hs).monoE fun N σ H h => asg_read (comp_read hown) h
        · cases h
      · cases h
    · cases h
  · cases h
end
theorem expr_ok {k : Nat} {F : FS} {cA : Nat → Addr} : ∀ n c X E, CtxOk k F cA c X E → Ok1 X F E (cExpr n c)
  | 0, c, X, E, o, e, ie, h => by cases h
  | n + 1, c, X, E, o, e, ie, h => by
    have ih := expr_ok (k := k) (F := F) (cA := cA) n
    have of := ih c X E o
    have plain : plainT e = true → PE X e (tEv X.K F E ie) → PE X e (tEv X.K F E ie) ∧ (noIf e = true → PT X e (tEvT X.K F E ie)) := fun hp he => ⟨he, fun _ => t_plain he hp⟩
    cases e with
    | Name x p => exact plain rfl (name_ok o h)
    | Constant v j p =>
      obtain ⟨d, e1, rfl⟩ := Option.map_eq_some_iff.mp h
      exact plain rfl (const_ok e1)
    | UnaryOp op a p => exact ⟨(un_ok of h).1, fun _ => (un_ok of h).2⟩
    | Tuple es j p =>
      obtain ⟨ies, e1, rfl⟩ := Option.map_eq_some_iff.mp h
      exact plain rfl (s_tup (list_ok of e1).1)
    | List es p =>
      obtain ⟨ies, e1, rfl⟩ := Option.map_eq_some_iff.mp h
      exact plain rfl (s_lst (list_ok of e1).1)
    | Dict ks vs p =>
      rw [cExpr] at h
      split at h
      · rename_i hc
        rw [Bool.and_eq_true] at hc
        cases h
        cases ks with
        | cons _ _ => exact nomatch hc.1
        | nil =>
          cases vs with
          | cons _ _ => exact nomatch hc.2
          | nil => exact plain rfl s_dnew
      · cases h
    | BinOp a op b p =>
      rw [cExpr] at h
      split at h
      · rename_i bo x y e1 e2 e3
        cases h
        rw [bopI_of e1]
        exact ⟨s_bin bo (of _ _ e2).1 (of _ _ e3).1, fun _ => t_plain (s_bin bo (of _ _ e2).1 (of _ _ e3).1) rfl⟩
      · cases h
    | BoolOp op es p => exact ⟨(bool_ok of h).1, fun _ => (bool_ok of h).2.pt⟩
    | IfExp t a b p =>
      rw [cExpr] at h
      split at h
      · rename_i x y z e1 e2 e3
        cases h
        exact ⟨s_ife (cT_ok of e1) (of _ _ e2).1 (of _ _ e3).1, fun hn => nomatch hn⟩
      · cases h
    | Compare a ops bs p => exact ⟨(cmp_ok o.room of h).1, fun _ => (cmp_ok o.room of h).2⟩
    | Subscript a i p => exact plain rfl (sub_ok o.room of h)
    | Call g args kws p => exact plain rfl (call_ok o of h)
    | ListComp elt gs scope p => exact plain rfl (comp_ok o ih h).1
    | _ => exact nomatch h
end Ev
set_option Elab.async false
set_option linter.all false
set_option maxRecDepth 100000
/-! Eng17: the translation is sound: statements, defs. -/
namespace Ev
open PySem L2

section
variable {k : Nat} {F : FS} {cA : Nat → Addr} {c : CC} {X : Cx} {E : XW} {pos : Pos}
theorem noswap {e : Expr} {t : Option Expr} {l : Nat} {env : PySem.Env} (h : isComp e = false) : swapsWith e t l env = pure false := by
  cases e <;> first | rfl | (exact nomatch h)
theorem noswapS {e t : Expr} {l : Nat} {env : PySem.Env} (h : isComp e = false) : swapsWithSole [t] e l env = pure false := noswap h
theorem sw_eq {elt : Expr} {gs : List Comprehension} {s : Scope} {p py : Pos} {y : Str} {l : Nat} {env : PySem.Env} (hk : env.scope.kind = .function) :
    swapsWith (.ListComp elt gs s p) (some (.Name y py)) l env = pure (decide (env.scope.names.lookup y = some .local) && (py.line == p.line) && !(s.names.any fun (n, k) => n == y && (k == .local || k == .cell))) := by
  have hb : env.blockKind = .function := by
    unfold PySem.Env.blockKind
    rw [hk]; rfl
  show (pure (env.blockKind == .function && env.kindOf y == some .local && py.line == p.line && !(s.names.any fun (n, k) => n == y && (k == .local || k == .cell))) : Sem Bool) = _
  rw [hb]
  have e1 : (env.kindOf y == some .local) = decide (env.scope.names.lookup y = some .local) := by
    unfold PySem.Env.kindOf
    by_cases h : env.scope.names.lookup y = some .local
    · rw [h]; rfl
    · rw [decide_eq_false h]; exact beq_eq_false_iff_ne.mpr h
  rw [e1]
  rfl
theorem notTup_swapped {ts : List Expr} {j : Nat} {p : Pos} {e : Expr} {env : PySem.Env} (h : isTupE e = false) : swappedStores [.Tuple ts j p] e env = pure none := by
  cases e <;> first | rfl | (exact nomatch h)
theorem starred_any : ∀ {vs : List Expr}, vs.all notStar = true → (vs.any fun | .Starred .. => true | _ => false) = false
  | [], _ => rfl
  | v :: vs, h => by
    rw [List.all_cons, Bool.and_eq_true] at h
    rw [List.any_cons, starred_any h.2]
    cases v <;> first | rfl | (exact nomatch h.1)
theorem swapped_eq {ts vs : List Expr} {j j2 : Nat} {p p2 : Pos} {env : PySem.Env} (hk : env.scope.kind = .function) (h : swapB env.scope ts vs = true) :
    swappedStores [.Tuple ts j p] (.Tuple vs j2 p2) env = pure (some (ts.filterMap fun
      | .Name id pos => if env.kindOf id == some .local && pos.line == (ts.head?.map (·.pos.line)).getD 0 then some id else none
      | _ => none)) := by
  have hb : env.blockKind = .function := by
    unfold PySem.Env.blockKind
    rw [hk]; rfl
  unfold swapB at h
  obtain ⟨h, h7⟩ := Bool.and_eq_true_iff.mp h
  obtain ⟨h, h6⟩ := Bool.and_eq_true_iff.mp h
  obtain ⟨h, h5⟩ := Bool.and_eq_true_iff.mp h
  obtain ⟨h, h4⟩ := Bool.and_eq_true_iff.mp h
  obtain ⟨h, h3⟩ := Bool.and_eq_true_iff.mp h
  obtain ⟨h1, h2⟩ := Bool.and_eq_true_iff.mp h
  unfold swappedStores
  have hs := starred_any h3
  have c1 : (!(ts.length == 2 || ts.length == 3) || vs.length != ts.length || env.blockKind != .function) = false := by
    rw [h1, hb]
    have : (vs.length != ts.length) = false := by simp only [bne, h2]; rfl
    rw [this]; rfl
  have c4 : ∀ l : List Str, (l.length == ts.length) = true → (l.eraseDups.length == l.length) = true → (l.length != ts.length || l.eraseDups.length != l.length) = false := fun l a b => by
    simp only [bne, a, b]; rfl
  have h6' : vs.all (foldedForSure 8) = false := by simpa using h6
  have h7' : vs.all (constantsAlone 8) = false := by simpa using h7
  dsimp only
  rw [if_neg (fun z => Bool.false_ne_true (c1.symm.trans z))]
  refine (congrArg (fun x => x) (if_neg (fun z => Bool.false_ne_true (hs.symm.trans z)))).trans ?_
  refine (congrArg (fun x => x) (if_neg (fun z => Bool.false_ne_true ((c4 _ h4 h5).symm.trans z)))).trans ?_
  refine (congrArg (fun x => x) (if_neg (fun z => Bool.false_ne_true (h6'.symm.trans z)))).trans ?_
  refine (congrArg (fun x => x) (if_neg (fun z => Bool.false_ne_true (h7'.symm.trans z)))).trans ?_
  rfl
theorem folded_swapped {ts vs : List Expr} {j j2 : Nat} {p p2 : Pos} {env : PySem.Env} (h : noSwapB env.scope ts vs = true) : swappedStores [.Tuple ts j p] (.Tuple vs j2 p2) env = pure none := by
  unfold noSwapB at h
  dsimp only at h
  rw [Bool.or_eq_true] at h
  unfold swappedStores
  rcases h with h | h
  · simp only [h, if_true]
    split
    · rfl
    · split
      · rfl
      · split <;> rfl
  · dsimp only
    split
    · rfl
    · split
      · rfl
      · refine (congrArg (fun x => x) (if_pos ?_)).trans rfl
        exact Bool.or_eq_true_iff.mpr (.inl h)
end
end Ev
set_option Elab.async false
set_option linter.all false
set_option maxRecDepth 100000
/-! Eng18: the translation is sound: statements, defs. -/
namespace Ev
open PySem L2

section
variable {k : Nat} {F : FS} {cA : Nat → Addr} {c : CC} {X : Cx} {E : XW} {pos : Pos}
theorem isComp_none {n : Nat} {e : Expr} {ie : Ex} (h : cExpr n c e = some ie) (hc : isComp e = true) : ∃ m elt gs scope p, n = m + 1 ∧ e = .ListComp elt gs scope p ∧ cComp c (cExpr m) elt gs scope = some ie := by
  cases n with
  | zero => cases h
  | succ m =>
    cases e with
    | ListComp elt gs scope p => exact ⟨m, elt, gs, scope, p, rfl, rfl, h⟩
    | SetComp => exact nomatch h
    | DictComp => exact nomatch h
    | _ => exact nomatch hc
theorem clen {f : CE} : ∀ {es : List Expr} {ies : Exs}, cList f es = some ies → ies.len = es.length
  | [], ies, h => by cases h; rfl
  | e :: es, ies, h => by
    rw [cList] at h
    split at h
    · split at h
      · rename_i a b e1 e2
        cases h
        rw [Exs.len, clen e2, List.length_cons]
      · cases h
    · cases h
theorem par_ok (o : CtxOk k F cA c X E) {f : CE} (of : Ok1 X F E f) {ts vs : List Expr} {j j2 : Nat} {p p2 : Pos} {s : Sm} (h : cPar c f ts vs = some s) : PS X (.Assign [.Tuple ts j p] (.Tuple vs j2 p2) pos) (tEx X.K F E s) := by
  have loc : ∀ x, isL c.sc x = true → X.env.scope.names.lookup x = some .local := fun x hx => by rw [o.sc]; exact of_decide_eq_true hx
  have kin : ∀ x, isL c.sc x = true → (X.env.kindOf x == some .local) = true := fun x hx => by unfold PySem.Env.kindOf; rw [loc x hx]; rfl
  have hk : X.env.scope.kind = .function := by rw [o.sc]; exact o.kind
  unfold cPar at h
  split at h
  · rename_i x px y py a b
    split at h
    · rename_i hc
      obtain ⟨hc, l2⟩ := Bool.and_eq_true_iff.mp hc
      obtain ⟨hc, hy⟩ := Bool.and_eq_true_iff.mp hc
      obtain ⟨hc, hx⟩ := Bool.and_eq_true_iff.mp hc
      split at h
      · rename_i i i2 ies e1 e2 el
        split at h
        · cases h
        · rename_i hij
          cases h
          refine ss_par2 o.calm o.nd (by rw [o.N]; exact ixOf_get e1) (by rw [o.N]; exact ixOf_get e2) hij (loc _ hx) (loc _ hy) (list_ok of el).1 ?_ (clen el)
          rw [swapped_eq hk (by rw [o.sc]; exact hc)]
          have l1 : (Expr.Name x px).pos.line = px.line := rfl
          simp only [List.filterMap_cons, List.filterMap_nil, kin x hx, kin y hy, l1, l2, List.head?_cons, Option.map_some, Option.getD_some, beq_self_eq_true, Bool.true_and, if_true]
      · cases h
    · cases h
  · rename_i x px y py z pz a b d
    split at h
    · rename_i hc
      obtain ⟨hc, l3⟩ := Bool.and_eq_true_iff.mp hc
      obtain ⟨hc, l2⟩ := Bool.and_eq_true_iff.mp hc
      obtain ⟨hc, hz⟩ := Bool.and_eq_true_iff.mp hc
      obtain ⟨hc, hy⟩ := Bool.and_eq_true_iff.mp hc
      obtain ⟨hc, hx⟩ := Bool.and_eq_true_iff.mp hc
      split at h
      · rename_i i i2 i3 ies e1 e2 e3 el
        split at h
        · cases h
        · rename_i hij
          cases h
          refine ss_par3 o.calm o.nd (by rw [o.N]; exact ixOf_get e1) (by rw [o.N]; exact ixOf_get e2) (by rw [o.N]; exact ixOf_get e3) (fun z => hij (.inl z)) (fun z => hij (.inr (.inl z))) (fun z => hij (.inr (.inr z))) (loc _ hx) (loc _ hy) (loc _ hz) (list_ok of el).1 ?_ (clen el)
          rw [swapped_eq hk (by rw [o.sc]; exact hc)]
          have l1 : (Expr.Name x px).pos.line = px.line := rfl
          simp only [List.filterMap_cons, List.filterMap_nil, kin x hx, kin y hy, kin z hz, l1, l2, l3, List.head?_cons, Option.map_some, Option.getD_some, beq_self_eq_true, Bool.true_and, if_true]
      · cases h
    · cases h
  · cases h
theorem asg_ok (o : CtxOk k F cA c X E) (st : Stores X c.sc) {n : Nat} {t e : Expr} {s : Sm} (h : cAsg c (cExpr n c) t e = some s) : PS X (.Assign [t] e pos) (tEx X.K F E s) := by
  have of := expr_ok n c X E o
  unfold cAsg at h
  split at h
  · rename_i x p
    split at h
    · rename_i hx
      split at h
      · rename_i i ie b e1 e2 e3
        cases h
        obtain ⟨l1, l2⟩ := st x hx
        have hN : X.N[i]? = some x := by rw [o.N]; exact ixOf_get e1
        cases hcmp : isComp e with
        | false => exact ss_asg o.nd hN l1 (of _ _ e2).1 (noswap hcmp) l2
        | true =>
          obtain ⟨m, elt, gs, scope, p2, rfl, rfl, hh⟩ := isComp_none e2 hcmp
          have hsw := sw_eq (elt := elt) (gs := gs) (s := scope) (p := p2) (py := p) (y := x) (l := pos.line) (env := X.env) (by rw [o.sc]; exact o.kind)
          rw [o.sc] at hsw
          simp only [swB] at e3
          have hb := Option.some.inj e3
          rw [hb] at hsw
          cases b with
          | false => exact ss_asg o.nd hN l1 (of _ _ e2).1 hsw l2
          | true =>
            obtain ⟨hb1, _⟩ := Bool.and_eq_true_iff.mp hb
            obtain ⟨hb1, _⟩ := Bool.and_eq_true_iff.mp hb1
            exact (comp_ok o (fun c X E o => expr_ok m c X E o) hh).2 i x p pos hN (by rw [o.sc]; exact of_decide_eq_true hb1) hsw
      · cases h
    · cases h
  · rename_i ts j p
    split at h
    · split at h
      · rename_i hfold
        split at h
        · rename_i ns en
          obtain ⟨g1, g2, g3⟩ := names_ok o.N o.nd st en
          obtain ⟨ie, e1, rfl⟩ := Option.map_eq_some_iff.mp h
          exact ss_asgT (pg_tup o.calm g1 (by rw [g2, List.length_map]) g3) (of _ _ e1).1 (noswapS rfl) (folded_swapped (by rw [o.sc]; exact hfold))
        · cases h
      · exact par_ok o of h
    · rename_i hnt
      split at h
      · cases h
      · rename_i hcmp
        split at h
        · rename_i ns en
          obtain ⟨g1, g2, g3⟩ := names_ok o.N o.nd st en
          obtain ⟨ie, e1, rfl⟩ := Option.map_eq_some_iff.mp h
          have hcmp' : isComp e = false := by simpa using hcmp
          have hnt' : isTupE e = false := by
            cases e with
            | Tuple vs j2 p2 => exact absurd rfl (hnt vs j2 p2)
            | _ => rfl
          exact ss_asgT (pg_tup o.calm g1 (by rw [g2, List.length_map]) g3) (of _ _ e1).1 (noswapS hcmp') (notTup_swapped hnt')
        · cases h
  · split at h
    · cases h
    · rename_i hcmp
      split at h
      · rename_i x y z e1 e2 e3
        cases h
        exact ss_setIx o.room (of _ _ e1).1 (of _ _ e2).1 (of _ _ e3).1 (noswap (by simpa using hcmp))
      · cases h
  · cases h
theorem stmts_ok {f : Stmt → Option Sm} (hf : ∀ st s, f st = some s → PS X st (tEx X.K F E s)) : ∀ {sts : List Stmt} {ss : Sms}, cStmts f sts = some ss → PSs X sts (tExs X.K F E ss)
  | [], ss, h => by cases h; exact ss_nil
  | st :: sts, ss, h => by
    rw [cStmts] at h
    split at h
    · rename_i a b e1 e2
      cases h
      exact ss_cons (hf _ _ e1) (stmts_ok hf e2)
    · cases h
theorem stmt_ok (o : CtxOk k F cA c X E) (sto : Stores X c.sc) : ∀ n st s, cStmt n c st = some s → PS X st (tEx X.K F E s) := by
  intro n
  induction n with
  | zero => intro st s h; cases h
  | succ n ih =>
    intro st s h
    have of := expr_ok n c X E o
    cases st with
    | Assign ts e pos =>
      match ts, h with
      | [t], h => exact asg_ok o sto h
    | Expr e pos =>
      rw [cStmt] at h
      split at h
      · cases h
      · rename_i hcmp
        obtain ⟨ie, e1, rfl⟩ := Option.map_eq_some_iff.mp h
        exact ss_expr (of _ _ e1).1 (noswap (by simpa using hcmp))
    | Return e pos =>
      match e, h with
      | some e, h =>
        rw [cStmt] at h
        obtain ⟨ie, e1, rfl⟩ := Option.map_eq_some_iff.mp h
        exact ss_ret (of _ _ e1).1
    | If t a b pos =>
      rw [cStmt] at h
      split at h
      · rename_i x y z e1 e2 e3
        cases h
        exact ss_if (cT_ok of e1) (stmts_ok ih e2) (stmts_ok ih e3)
      · cases h
    | For tg iter body els pos =>
      match els, h with
      | [], h =>
        rw [cStmt] at h
        split at h
        · rename_i w t it sb e1 e2 e3
          cases h
          obtain ⟨q1, q2⟩ := iter_ok o of e2
          exact ss_for o.own o.calm q1 (tg_ok o.N o.nd o.calm sto e1).1 (stmts_ok ih e3) q2
        · cases h
    | Pass pos => cases h; exact ss_pass
    | _ => exact nomatch h
end
end Ev
set_option Elab.async false
set_option linter.all false
set_option maxRecDepth 100000
/-! Eng19: defs, the head. -/
namespace Ev
open PySem L2 PySem.Spec PyProof.Rows

/-- one def -/
structure DE where
  id : Nat
  x : Str
  par : Arguments
  body : List Stmt
  sc : Scope
  N : List Str
  ps : List Str
  lines : List Nat
  sm : Sms
def fnsOf (tab : List DE) : List (Str × Nat × Nat) := tab.map fun d => (d.x, d.id, d.ps.length)
theorem fnsOf_get {x : Str} {fid ar : Nat} : ∀ {tab : List DE}, (fnsOf tab).lookup x = some (fid, ar) → ∃ d, d ∈ tab ∧ d.x = x ∧ d.id = fid ∧ d.ps.length = ar
  | [], h => by cases h
  | d :: r, h => by
    rw [fnsOf, List.map_cons, List.lookup_cons] at h
    cases e : (x == d.x) with
    | true =>
      rw [e] at h
      cases h
      exact ⟨d, List.mem_cons_self, (eq_of_beq e).symm, rfl, rfl⟩
    | false =>
      rw [e] at h
      obtain ⟨d', h1, h2⟩ := fnsOf_get (tab := r) h
      exact ⟨d', List.mem_cons_of_mem _ h1, h2⟩
def ccOf (fns : List (Str × Nat × Nat)) (dats : List (Str × D)) (blts : List Str) (d : DE) : CC := ⟨d.N, d.sc, fns, dats, blts, d.lines⟩
/-- what is to be checked of a def -/
structure DEOk (fns : List (Str × Nat × Nat)) (dats : List (Str × D)) (blts : List Str) (d : DE) : Prop where
  sc : FnScope d.N d.ps d.sc
  bnd : ∀ (kV doc pm : Value) (an : Option Addr) (cdv ct : Value) (us : List Value), us.length = d.ps.length → bindArgs (PySem.W.fnOf d.x d.x d.par d.body d.sc .none kV doc pm an cdv ct) ⟨us, []⟩ = pure (d.ps.zip us)
  ir : cStmts (cStmt 40 (ccOf fns dats blts d)) d.body = some d.sm

section
variable {P : Program} {w : World} {K : PySem.W.Frag} {mg : Str → Option Value} {base : Heap} {cA : Nat → Addr}
theorem sim_start {N : List Str} {ds : List D} {vs : List V} {β : List Addr} {H : Hp} (h : RVs K β H ds vs) (hl : ds.length ≤ N.length) : Sim K β H (start N vs) (start0 N.length ds) := by
  have e := h.length
  unfold L2.start start0
  refine ⟨by simp [e], fun i d q => ?_⟩
  by_cases hi : i < ds.length
  · rw [List.getElem?_append_left (by simpa using hi), List.getElem?_map] at q
    obtain ⟨d', q1, q2⟩ := Option.map_eq_some_iff.mp q
    cases q2
    obtain ⟨v, g1, g2⟩ := h.get q1
    exact ⟨v, by rw [List.getElem?_append_left (by simpa [e] using hi), List.getElem?_map, g1]; rfl, g2⟩
  · rw [List.getElem?_append_right (by simpa using hi), List.getElem?_replicate] at q
    split at q <;> cases q
def tabOk (PG : Nat → Option FD) (tab : List DE) (dats : List (Str × D)) (blts : List Str) : Prop := ∀ d ∈ tab, DEOk (fnsOf tab) dats blts d ∧ PG d.id = some ⟨d.ps.length, d.N.length, d.sm⟩
/-- what the head tells -/
structure HeadOk (K : PySem.W.Frag) (mg : Str → Option Value) (tab : List DE) (dats : List (Str × D)) (blts : List Str) : Prop where
  def_ : ∀ d ∈ tab, ∃ f fd, mg d.x = some (.ref f) ∧ FunD K d.x d.x d.par d.body d.sc [] [] f fd
  dats : ∀ x d, dats.lookup x = some d → ∃ u v, mg x = some u ∧ RelV v u ∧ ∀ β H, RV K β H d v
  blts : ∀ x, blts.contains x = true → mg x = none
theorem all_ok {PG : Nat → Option FD} {tab : List DE} {dats : List (Str × D)} {blts : List Str} (hk : HeadOk K mg tab dats blts) (ht : tabOk PG tab dats blts) : ∀ (k : Nat) (d : DE), d ∈ tab → ∀ f fd, FunD K d.x d.x d.par d.body d.sc [] [] f fd →
    FnOk P w K mg base (L2.CX P w) k f fd d.ps (spF K cA (run PG k) d.ps.length d.id) := by
  intro k
  induction k with
  | zero =>
    intro d hm f fd g2
    exact ⟨fun vs H Q E h => h.1, fun A outer s H args us vs Q E _ _ _ _ h => by
      obtain ⟨_, ds, S, β, _, _, p⟩ := h
      exact p.elim⟩
  | succ k ih =>
    intro d hm f fd g2
    obtain ⟨o, hP⟩ := ht d hm
    refine g2.ok o.sc (fun vs H Q E h => h.1) fun cdv A outer s H vs Q E' hr h => ?_
    obtain ⟨hl, ds, S, β, rv, rs, p⟩ := h
    have hN : d.ps.length ≤ d.N.length := by
      have := congrArg List.length o.sc.pre
      rw [List.length_take] at this
      omega
    have hdl : ds.length = d.ps.length := rv.length.symm.trans hl
    let E : XW := fun c σ H' => E' (.ref (cA c)) none H'
    have ctx : CtxOk k (run PG k) cA (ccOf (fnsOf tab) dats blts d) (cxOf (L2.CX P w) P w K mg base d.N d.x d.sc f cdv A outer s H E') E :=
      { N := rfl, sc := rfl, nd := o.sc.nd, kind := o.sc.kind, calm := rfl, room := hr, own := passes_of rfl,
        tk := (takes_of rfl rfl rfl rfl).imp fun c d σ H ⟨c', e1, e2, e3⟩ => by subst e1; subst e2; exact e3,
        fns := fun x fid ar hx => by
          obtain ⟨d, h2, rfl, rfl, rfl⟩ := fnsOf_get hx
          obtain ⟨f, fd, g1, g2⟩ := hk.def_ d h2
          exact ⟨f, fd, d.ps, g1, g2.kp, g2.bindsN (ht d h2).1.bnd, ih d h2 f fd g2⟩
        dats := hk.dats, blts := hk.blts }
    refine ⟨tExs K (run PG k) E d.sm, stmts_ok (fun st s hs => stmt_ok ctx (fun x hx => ⟨isLoc_of hx, .inl rfl⟩) 40 st s hs) o.ir, start0 d.N.length ds, S, β, sim_start rv (by omega), rs, ?_⟩
    rw [run, hP] at p
    dsimp only at p
    rw [if_pos hdl] at p
    cases e : exs (run PG k) d.sm (start0 d.N.length ds) S with
    | nx ρ' S' =>
      rw [e] at p
      exact fun σ' β' H' x1 x2 x3 => p β' H' x1 x2 .non (by rw [RV])
    | rt d' S' =>
      rw [e] at p
      exact fun v β' H' x1 x2 x3 => p β' H' x1 x2 v x3
    | exc c ρ' S' =>
      rw [e] at p
      exact fun σ' β' H' x1 x2 x3 => p β' H' x1 x2
    | bad =>
      rw [e] at p
      exact p.elim
end
/-! ### data of the module -/
mutual
def datB (K : PySem.W.Frag) : D → Value → Bool
  | .non, .none => true
  | .bl b, .bool c => b == c
  | .int i, .int j _ => decide (i = j)
  | .str s, .str y _ => decide ((⟨s.toArray⟩ : Str) = y)
  | .tup ds, .ref a => (match K.lookup a with
    | some ⟨.type c, _, .seq its _, _⟩ => decide (c = "tuple") && (decide (its.size ≤ sizeLine) && datsB K ds its.toList)
    | _ => false)
  | .lit ds, .ref a => (match K.lookup a with
    | some ⟨.type c, none, .seq its _, _⟩ => decide (c = "list") && (decide (its.size ≤ sizeLine) && datsB K ds its.toList)
    | _ => false)
  | _, _ => false
def datsB (K : PySem.W.Frag) : List D → List Value → Bool
  | [], [] => true
  | d :: ds, u :: us => datB K d u && datsB K ds us
  | _, _ => false
end
mutual
theorem datB_ok {K : PySem.W.Frag} : ∀ {d : D} {u : Value}, datB K d u = true → ∃ v, RelV v u ∧ ∀ β H, RV K β H d v
  | .non, u, h => by
    cases u with
    | none => exact ⟨.non, rfl, fun _ _ => by rw [RV]⟩
    | _ => exact nomatch h
  | .bl b, u, h => by
    cases u with
    | bool c =>
      rw [datB] at h
      exact ⟨.bl b, by rw [eq_of_beq h]; rfl, fun _ _ => by rw [RV]⟩
    | _ => exact nomatch h
  | .int i, u, h => by
    cases u with
    | int j t =>
      rw [datB] at h
      exact ⟨.int i, ⟨t, by rw [of_decide_eq_true h]⟩, fun _ _ => by rw [RV]⟩
    | _ => exact nomatch h
  | .str s, u, h => by
    cases u with
    | str j t =>
      rw [datB] at h
      exact ⟨.str ⟨s.toArray⟩, ⟨t, by rw [of_decide_eq_true h]⟩, fun _ _ => by rw [RV]⟩
    | _ => exact nomatch h
  | .tup ds, u, h => by
    cases u with
    | ref a =>
      rw [datB] at h
      cases q : K.lookup a with
      | none => rw [q] at h; cases h
      | some o =>
        obtain ⟨oc, od, dt, osl⟩ := o
        rw [q] at h
        cases oc with
        | type c =>
          cases dt with
          | seq its n =>
            obtain ⟨h1, h2⟩ := Bool.and_eq_true_iff.mp h
            obtain ⟨h3, h4⟩ := Bool.and_eq_true_iff.mp h2
            obtain ⟨vs, r1, r2⟩ := datsB_ok h4
            exact ⟨.ref a, rfl, fun β H => by
              rw [RV]
              exact ⟨a, vs, rfl, .inr ⟨_, its, n, q, congrArg Value.type (of_decide_eq_true h1), rfl, of_decide_eq_true h3, r1⟩, r2 β H⟩⟩
          | _ => cases h
        | _ => cases dt <;> cases h
    | _ => exact nomatch h
  | .lit ds, u, h => by
    cases u with
    | ref a =>
      rw [datB] at h
      cases q : K.lookup a with
      | none => rw [q] at h; cases h
      | some o =>
        obtain ⟨oc, od, dt, osl⟩ := o
        rw [q] at h
        cases oc with
        | type c =>
          cases od with
          | none =>
            cases dt with
            | seq its n =>
              obtain ⟨h1, h2⟩ := Bool.and_eq_true_iff.mp h
              obtain ⟨h3, h4⟩ := Bool.and_eq_true_iff.mp h2
              obtain ⟨vs, r1, r2⟩ := datsB_ok h4
              exact ⟨.ref a, rfl, fun β H => by
                rw [RV]
                exact ⟨a, vs, rfl, .inr ⟨_, its, n, q, congrArg Value.type (of_decide_eq_true h1), rfl, rfl, of_decide_eq_true h3, r1⟩, r2 β H⟩⟩
            | _ => cases h
          | some z => cases dt <;> cases h
        | _ => cases od <;> cases dt <;> cases h
    | _ => exact nomatch h
  | .loc n, u, h => by cases u <;> exact nomatch h
theorem datsB_ok {K : PySem.W.Frag} : ∀ {ds : List D} {us : List Value}, datsB K ds us = true → ∃ vs, Vals vs us ∧ ∀ β H, RVs K β H ds vs
  | [], [], _ => ⟨[], .nil, fun _ _ => by rw [RVs]⟩
  | [], _ :: _, h => by exact nomatch h
  | _ :: _, [], h => by exact nomatch h
  | d :: ds, u :: us, h => by
    rw [datsB] at h
    obtain ⟨h1, h2⟩ := Bool.and_eq_true_iff.mp h
    obtain ⟨v, r1, r2⟩ := datB_ok h1
    obtain ⟨vs, s1, s2⟩ := datsB_ok h2
    exact ⟨v :: vs, .cons r1 s1, fun β H => by rw [RVs]; exact ⟨v, vs, rfl, r2 β H, s2 β H⟩⟩
end
/-! ### the Hook -/
def exB (dats : List (Str × D)) (K : PySem.W.Frag) : Bool := dats.all fun p => match PySem.W.nsIn K mainGlobals p.1 with
  | some (some u) => datB K p.2 u
  | _ => false
def deD (d : DE) : He.DefD := ⟨(d.x, none), d.x, d.x, d.par, d.body, d.sc, [], []⟩
def faOf (tab : List DE) (blts : List Str) : List He.Fa := (tab.map fun d => He.Fa.glo d.x) ++ blts.map He.Fa.free
abbrev AlE : Type := He.AlD × Bool
def obsE (tab : List DE) (dats : List (Str × D)) (blts : List Str) (K : PySem.W.Frag) : AlE := (He.obsD (faOf tab blts) (tab.map deD) K, exB dats K)
def valE (tab : List DE) : AlE := (He.valD (tab.map deD), true)
def obsEG (n : Nat) (tab : List DE) (dats : List (Str × D)) (blts : List Str) (g : Addr → Option Obj) : AlE := obsE tab dats blts (He.frG g (He.asD g n))
def hookE (n : Nat) (tab : List DE) (dats : List (Str × D)) (blts : List Str) : PySem.W.Hook where
  α := AlE
  obs := fun s => obsEG n tab dats blts s.heap.get?
  val := fun _ => valE tab
  says := fun _ h => ∃ K : PySem.W.Frag, K.In h ∧ obsE tab dats blts K = valE tab
  of := fun _ _ e => ⟨_, He.frG_in, e⟩
  keeps := fun _ _ _ ⟨K, hK, c⟩ k => ⟨K, PySem.W.Frag.In.keeps hK k, c⟩
theorem obsEG_eq {n : Nat} {tab : List DE} {dats : List (Str × D)} {blts : List Str} {g : Addr → Option Obj} {s : Shared} (h : ∀ a, g a = s.heap.get? a) : obsEG n tab dats blts g = (hookE n tab dats blts).obs s := by
  have e : g = s.heap.get? := funext h
  rw [e] <;> rfl
section
variable {K : PySem.W.Frag} {mg : Str → Option Value} {h : Heap} {tab : List DE} {dats : List (Str × D)} {blts : List Str}
theorem lookup_memS {α : Type} {x : Str} {d : α} : ∀ {l : List (Str × α)}, l.lookup x = some d → (x, d) ∈ l
  | [], h => by cases h
  | (y, u) :: r, h => by
    rw [List.lookup_cons] at h
    cases e : (x == y) with
    | true => rw [e] at h; cases h; rw [eq_of_beq e]; exact List.mem_cons_self
    | false => rw [e] at h; exact List.mem_cons_of_mem _ (lookup_memS h)
theorem headOk (X : K.In h) (G : h.Ns mainGlobals mg) (c : obsE tab dats blts K = valE tab) : HeadOk K mg tab dats blts := by
  have c1 : He.SaysD (faOf tab blts) (tab.map deD) K := congrArg (fun z : AlE => z.1) c
  have c2 : exB dats K = true := congrArg (fun z : AlE => z.2) c
  refine ⟨fun d hd => ?_, fun x d hx => ?_, fun x hx => ?_⟩
  · obtain ⟨fd, F⟩ := c1.defs (List.mem_map_of_mem hd)
    exact ⟨_, fd, He.glo_ok X G (c1.facts (List.mem_append_left _ (List.mem_map_of_mem hd))), F⟩
  · have := List.all_eq_true.mp c2 _ (lookup_memS hx)
    dsimp only at this
    cases e : PySem.W.nsIn K mainGlobals x with
    | none => rw [e] at this; cases this
    | some o =>
      cases o with
      | none => rw [e] at this; cases this
      | some u =>
        rw [e] at this
        obtain ⟨v, r1, r2⟩ := datB_ok this
        exact ⟨u, v, PySem.W.mg_of X G e, r1, r2⟩
  · exact He.free_ok X G (c1.facts (List.mem_append_right _ (List.mem_map_of_mem (List.mem_of_elem_eq_true hx))))
end
section
variable {tab : List DE} {dats : List (Str × D)} {blts : List Str} {P : Program} {w : World} {K : PySem.W.Frag} {mg : Str → Option Value} {h : Heap} {fa : Addr}
theorem rvs_ints {β : List Addr} {H : Hp} : ∀ ns : List Int, RVs K β H (ns.map D.int) (ns.map V.int)
  | [] => by rw [List.map_nil, RVs, List.map_nil]
  | n :: ns => by
    rw [List.map_cons, List.map_cons, RVs]
    exact ⟨_, _, rfl, by rw [RV], rvs_ints ns⟩
/-- what a def lets out, whatever the program -/
def CXA : CXT := fun outer H s E e s' => ∃ P w, L2.CX P w outer H s E e s'
theorem fn_cxa {base : Heap} {k : Nat} {f : Addr} {fd : FuncData} {ps : List Str} {sp : Sp} (F : FnOk P w K mg base (L2.CX P w) k f fd ps sp) : FnOk P w K mg base CXA k f fd ps sp :=
  ⟨F.len, fun A outer s H args us vs Q E h1 h2 h3 h4 h5 => codeAny_mono (F.run A outer s H args us vs Q E h1 h2 h3 h4 h5) fun r s' q => by
    cases r with
    | error e => exact ⟨P, w, q⟩
    | ok fl => cases fl <;> exact q⟩
theorem cxa_no (H : Hp) (s : Shared) (e : Value) (s' : Shared) (z : CXA [] H s (fun _ _ _ => False) e s') : False := by
  obtain ⟨P, w, a, B, H', cls, d, _, _, _, _, _, _, _, f⟩ := z
  exact f
/-- a law, from the plain fact -/
theorem law_of {PG : Nat → Option FD} {k m : Nat} (X : K.In h) (G : h.Ns mainGlobals mg) (hmg : mg ("law" : Str) = some (.ref fa)) (c : obsE tab dats blts K = valE tab) (ht : tabOk PG tab dats blts) {d : DE} (hm : d ∈ tab) (hx : d.x = "law") (hp : d.ps = (["script"] : List Str))
    (fact : ∀ ns : List Int, ns.length ≤ m → ∃ S', run PG k d.id [.lit (ns.map .int)] [] = .ok (.bl true) S') :
    ∃ (K : PySem.W.Frag) (fd : FuncData) (sp : Sp), K.In h ∧ (∀ (s : Shared) (u : Value), BindsTo s fd ⟨[u], []⟩ [("script", u)]) ∧
        (∀ (H : Hp) (a : Addr) (ns : List Int), ns.length ≤ m → Only H → SqL K H a (ns.map V.int) → sp [.ref a] H (fun v _ => v = .bl true) fun _ _ _ => False) ∧
        ∀ base : Heap, K.In base → base.Ns mainGlobals mg → FnOk P w K mg base CXA k fa fd ["script"] sp := by
  have hk := headOk X G c
  obtain ⟨f, fd, g1, g2⟩ := hk.def_ d hm
  rw [hx, hmg] at g1
  cases g1
  have o := (ht d hm).1
  refine ⟨K, fd, spF K (fun _ => 0) (run PG k) 1 d.id, X, fun s u => ?_, fun H a ns hn hO hS => ?_, fun base _ _ => ?_⟩
  · have := FunD.bindsA g2 o.bnd s [u] (by rw [hp]; rfl)
    rw [hp] at this
    exact this
  · refine ⟨rfl, [.lit (ns.map .int)], [], [], ?_, RS.nil H, ?_⟩
    · rw [RVs]
      refine ⟨_, _, rfl, ?_, by rw [RVs]⟩
      rw [RV]
      refine ⟨a, _, rfl, ?_, rvs_ints ns⟩
      rcases hS with q | q
      · rcases q with q | q
        · rcases hO a with z | ⟨o', xs, z⟩
          · rw [q] at z; cases z
          · rw [q] at z; cases z
        · exact .inl q
      · exact .inr q
    · obtain ⟨S', e⟩ := fact ns hn
      rw [e]
      exact fun β' H' _ _ v hv => by rw [RV] at hv; exact hv
  · have := all_ok (P := P) (w := w) (base := base) (cA := fun _ => 0) hk ht k d hm _ fd g2
    rw [hp] at this
    exact fn_cxa this
end
end Ev
set_option Elab.async false
set_option linter.all false
set_option maxRecDepth 100000
namespace Lw
open Ev
def sm_is_below : Sms := Sms.cons (Sm.ret (Ex.meth Me.endswith (Ex.var 0) (Exs.cons (Ex.bin Bop.add (Ex.dat (D.str [46])) (Ex.var 1)) Exs.nil))) Sms.nil
def fd_is_below : FD := ⟨2, 2, sm_is_below⟩
def sm_site : Sms := Sms.cons (Sm.ret (Ex.meth Me.join (Ex.dat (D.str [46])) (Exs.cons (Ex.slc (Ex.meth Me.split (Ex.var 0) (Exs.cons (Ex.dat (D.str [46])) Exs.nil)) (Ex.dat (D.int (-2))) (Ex.dat D.non)) Exs.nil))) Sms.nil
def fd_site : FD := ⟨1, 1, sm_site⟩
def sm_steps : Sms := Sms.cons (Sm.ife (Ex.cmp Cop.eq (Ex.var 0) (Ex.dat (D.str [47]))) (Sms.cons (Sm.ret (Ex.tup Exs.nil)) Sms.nil) Sms.nil) (Sms.cons (Sm.ret (Ex.bi Bi.tuple (Exs.cons (Ex.meth Me.split (Ex.slc (Ex.var 0) (Ex.dat (D.int 1)) (Ex.dat D.non)) (Exs.cons (Ex.dat (D.str [47])) Exs.nil)) Exs.nil))) Sms.nil)
def fd_steps : FD := ⟨1, 1, sm_steps⟩
def sm_all_rules : Sms := Sms.cons (Sm.asg 0 (Ex.lst (Exs.cons (Ex.tup Exs.nil) Exs.nil))) (Sms.cons (Sm.loop (Tg.one 1) (It.of (Ex.bin Bop.add (Ex.dat (D.tup [D.tup [D.str [115, 105, 103, 110, 115], D.str [115, 116, 101, 112, 115]], D.tup [D.str [97, 108, 119, 97, 121, 115], D.str [110, 101, 118, 101, 114], D.str [116, 111, 108, 100]], D.tup [D.str [117, 110, 116, 105, 108], D.str [119, 105, 116, 104]]])) (Ex.dat (D.tup [D.tup [D.str [102, 114, 101, 101], D.str [109, 117, 115, 116]], D.tup [D.str [107, 101, 101, 112], D.str [108, 111, 111, 115, 101], D.str [110, 111, 110, 101]], D.tup [D.str [108, 111, 110, 103], D.str [110, 97, 109, 101, 115], D.str [111, 108, 100]]])))) (Sms.cons (Sm.asg 2 (Ex.lst Exs.nil)) (Sms.cons (Sm.loop (Tg.one 3) (It.of (Ex.var 0)) (Sms.cons (Sm.expr (Ex.meth Me.extend (Ex.var 2) (Exs.cons (Ex.comp (Ex.bin Bop.add (Ex.var 3) (Ex.tup (Exs.cons (Ex.var 4) Exs.nil))) (Tg.one 4) (It.of (Ex.var 1)) (Ex.dat (D.bl true))) Exs.nil))) Sms.nil) false) (Sms.cons (Sm.asg 0 (Ex.var 2)) Sms.nil))) false) (Sms.cons (Sm.ret (Ex.bi Bi.tuple (Exs.cons (Ex.bi Bi.sorted (Exs.cons (Ex.var 0) Exs.nil)) Exs.nil))) Sms.nil))
def fd_all_rules : FD := ⟨0, 5, sm_all_rules⟩
def sm_may_put : Sms := Sms.cons (Sm.ife (Ex.and (Ex.idx (Ex.var 0) (Ex.dat (D.int 3))) (Ex.cmp Cop.notin (Ex.dat (D.str [46])) (Ex.idx (Ex.var 0) (Ex.dat (D.int 2))))) (Sms.cons (Sm.ret (Ex.dat (D.bl false))) Sms.nil) Sms.nil) (Sms.cons (Sm.ret (Ex.or (Ex.cmp Cop.eq (Ex.var 1) (Ex.idx (Ex.var 0) (Ex.dat (D.int 2)))) (Ex.call 1 (Exs.cons (Ex.var 1) (Exs.cons (Ex.idx (Ex.var 0) (Ex.dat (D.int 2))) Exs.nil))))) Sms.nil)
def fd_may_put : FD := ⟨2, 2, sm_may_put⟩
def sm_by_site : Sms := Sms.cons (Sm.asg 1 Ex.dnew) (Sms.cons (Sm.loop (Tg.one 2) (It.of (Ex.var 0)) (Sms.cons (Sm.setIx (Ex.var 1) (Ex.call 2 (Exs.cons (Ex.idx (Ex.var 2) (Ex.dat (D.int 2))) Exs.nil)) (Ex.bin Bop.add (Ex.meth Me.get (Ex.var 1) (Exs.cons (Ex.call 2 (Exs.cons (Ex.idx (Ex.var 2) (Ex.dat (D.int 2))) Exs.nil)) (Exs.cons (Ex.dat (D.int 0)) Exs.nil))) (Ex.dat (D.int 1)))) Sms.nil) false) (Sms.cons (Sm.ret (Ex.bi Bi.tuple (Exs.cons (Ex.comp (Ex.tup (Exs.cons (Ex.var 3) (Exs.cons (Ex.idx (Ex.var 1) (Ex.var 3)) Exs.nil))) (Tg.one 3) (It.of (Ex.bi Bi.sorted (Exs.cons (Ex.var 1) Exs.nil))) (Ex.dat (D.bl true))) Exs.nil))) Sms.nil))
def fd_by_site : FD := ⟨1, 4, sm_by_site⟩
def sm__law_cell : Sms := Sms.cons (Sm.ife (Ex.cmp Cop.lt (Ex.var 1) (Ex.bi Bi.len (Exs.cons (Ex.var 0) Exs.nil))) (Sms.cons (Sm.ret (Ex.idx (Ex.var 0) (Ex.var 1))) Sms.nil) Sms.nil) (Sms.cons (Sm.ret (Ex.dat (D.int 0))) Sms.nil)
def fd__law_cell : FD := ⟨2, 2, sm__law_cell⟩
def sm__law_mix : Sms := Sms.cons (Sm.asg 3 (Ex.bin Bop.mod (Ex.bin Bop.mul (Ex.var 0) (Ex.dat (D.int 48271))) (Ex.var 1))) (Sms.cons (Sm.ret (Ex.bin Bop.mod (Ex.bin Bop.mod (Ex.bin Bop.mul (Ex.var 3) (Ex.bin Bop.add (Ex.var 3) (Ex.dat (D.int 7)))) (Ex.var 1)) (Ex.var 2))) Sms.nil)
def fd__law_mix : FD := ⟨3, 4, sm__law_mix⟩
def sm__law_same : Sms := Sms.cons (Sm.ife (Ex.isi (Ex.var 1) [Ty.tTuple]) (Sms.cons (Sm.ife (Ex.or (Ex.not (Ex.isi (Ex.var 0) [Ty.tTuple])) (Ex.cmp Cop.ne (Ex.bi Bi.len (Exs.cons (Ex.var 0) Exs.nil)) (Ex.bi Bi.len (Exs.cons (Ex.var 1) Exs.nil)))) (Sms.cons (Sm.ret (Ex.dat (D.bl false))) Sms.nil) Sms.nil) (Sms.cons (Sm.ret (Ex.bi Bi.all (Exs.cons (Ex.comp (Ex.call 9 (Exs.cons (Ex.var 2) (Exs.cons (Ex.var 3) Exs.nil))) (Tg.many [2, 3]) (It.zip (Ex.var 0) (Ex.var 1)) (Ex.dat (D.bl true))) Exs.nil))) Sms.nil)) Sms.nil) (Sms.cons (Sm.ife (Ex.cmp Cop.is (Ex.var 1) (Ex.dat D.non)) (Sms.cons (Sm.ret (Ex.cmp Cop.is (Ex.var 0) (Ex.dat D.non))) Sms.nil) Sms.nil) (Sms.cons (Sm.ife (Ex.or (Ex.isi (Ex.var 1) [Ty.tBool]) (Ex.isi (Ex.var 0) [Ty.tBool])) (Sms.cons (Sm.ret (Ex.and (Ex.isi (Ex.var 1) [Ty.tBool]) (Ex.and (Ex.isi (Ex.var 0) [Ty.tBool]) (Ex.cmp Cop.eq (Ex.var 0) (Ex.var 1))))) Sms.nil) Sms.nil) (Sms.cons (Sm.ret (Ex.and (Ex.isi (Ex.var 0) [Ty.tInt, Ty.tStr]) (Ex.cmp Cop.eq (Ex.var 0) (Ex.var 1)))) Sms.nil)))
def fd__law_same : FD := ⟨2, 4, sm__law_same⟩
def sm__law_host : Sms := Sms.cons (Sm.asg 1 (Ex.comp (Ex.idx (Ex.tup (Exs.cons (Ex.dat (D.str [97])) (Exs.cons (Ex.dat (D.str [98])) (Exs.cons (Ex.dat (D.str [97, 98])) (Exs.cons (Ex.dat (D.str [120])) (Exs.cons (Ex.dat (D.str [99])) Exs.nil)))))) (Ex.call 8 (Exs.cons (Ex.bin Bop.add (Ex.var 0) (Ex.bin Bop.mul (Ex.dat (D.int 7)) (Ex.var 2))) (Exs.cons (Ex.dat (D.int 9973)) (Exs.cons (Ex.dat (D.int 5)) Exs.nil))))) (Tg.one 2) (It.range1 (Ex.bin Bop.add (Ex.dat (D.int 1)) (Ex.call 8 (Exs.cons (Ex.var 0) (Exs.cons (Ex.dat (D.int 9967)) (Exs.cons (Ex.dat (D.int 3)) Exs.nil)))))) (Ex.dat (D.bl true)))) (Sms.cons (Sm.ret (Ex.meth Me.join (Ex.dat (D.str [46])) (Exs.cons (Ex.var 1) Exs.nil))) Sms.nil)
def fd__law_host : FD := ⟨1, 3, sm__law_host⟩
def sm__law_path : Sms := Sms.cons (Sm.asg 1 (Ex.comp (Ex.idx (Ex.tup (Exs.cons (Ex.dat (D.str [97])) (Exs.cons (Ex.dat (D.str [98])) (Exs.cons (Ex.dat (D.str [97, 98])) (Exs.cons (Ex.dat (D.str [98, 97])) Exs.nil))))) (Ex.call 8 (Exs.cons (Ex.bin Bop.add (Ex.var 0) (Ex.bin Bop.mul (Ex.dat (D.int 11)) (Ex.var 2))) (Exs.cons (Ex.dat (D.int 9949)) (Exs.cons (Ex.dat (D.int 4)) Exs.nil))))) (Tg.one 2) (It.range1 (Ex.call 8 (Exs.cons (Ex.var 0) (Exs.cons (Ex.dat (D.int 9941)) (Exs.cons (Ex.dat (D.int 4)) Exs.nil))))) (Ex.dat (D.bl true)))) (Sms.cons (Sm.ret (Ex.bin Bop.add (Ex.dat (D.str [47])) (Ex.meth Me.join (Ex.dat (D.str [47])) (Exs.cons (Ex.var 1) Exs.nil)))) Sms.nil)
def fd__law_path : FD := ⟨1, 3, sm__law_path⟩
def sm__law_note : Sms := Sms.cons (Sm.asg 1 (Ex.ife (Ex.cmp Cop.eq (Ex.call 8 (Exs.cons (Ex.var 0) (Exs.cons (Ex.dat (D.int 9931)) (Exs.cons (Ex.dat (D.int 3)) Exs.nil)))) (Ex.dat (D.int 0))) (Ex.dat D.non) (Ex.idx (Ex.tup (Exs.cons (Ex.dat (D.int 0)) (Exs.cons (Ex.dat (D.int 1)) (Exs.cons (Ex.dat (D.int 5)) (Exs.cons (Ex.dat (D.int 9)) (Exs.cons (Ex.dat (D.int 10)) (Exs.cons (Ex.dat (D.int 98)) (Exs.cons (Ex.dat (D.int 99)) Exs.nil)))))))) (Ex.call 8 (Exs.cons (Ex.var 0) (Exs.cons (Ex.dat (D.int 9929)) (Exs.cons (Ex.dat (D.int 7)) Exs.nil))))))) (Sms.cons (Sm.asg 2 (Ex.tup (Exs.cons (Ex.idx (Ex.tup (Exs.cons (Ex.dat (D.str [110])) (Exs.cons (Ex.dat (D.str [107])) (Exs.cons (Ex.dat (D.str [109])) Exs.nil)))) (Ex.call 8 (Exs.cons (Ex.var 0) (Exs.cons (Ex.dat (D.int 9923)) (Exs.cons (Ex.dat (D.int 3)) Exs.nil))))) (Exs.cons (Ex.idx (Ex.tup (Exs.cons (Ex.dat (D.str [])) (Exs.cons (Ex.dat (D.str [97])) (Exs.cons (Ex.dat (D.str [98])) Exs.nil)))) (Ex.call 8 (Exs.cons (Ex.var 0) (Exs.cons (Ex.dat (D.int 9907)) (Exs.cons (Ex.dat (D.int 3)) Exs.nil))))) (Exs.cons (Ex.call 10 (Exs.cons (Ex.bin Bop.add (Ex.var 0) (Ex.dat (D.int 1))) Exs.nil)) Exs.nil))))) (Sms.cons (Sm.asg 3 (Ex.tup (Exs.cons (Ex.cmp Cop.eq (Ex.call 8 (Exs.cons (Ex.var 0) (Exs.cons (Ex.dat (D.int 9901)) (Exs.cons (Ex.dat (D.int 2)) Exs.nil)))) (Ex.dat (D.int 0))) (Exs.cons (Ex.call 11 (Exs.cons (Ex.bin Bop.add (Ex.var 0) (Ex.dat (D.int 2))) Exs.nil)) (Exs.cons (Ex.var 1) (Exs.cons (Ex.cmp Cop.eq (Ex.call 8 (Exs.cons (Ex.var 0) (Exs.cons (Ex.dat (D.int 9887)) (Exs.cons (Ex.dat (D.int 3)) Exs.nil)))) (Ex.dat (D.int 0))) Exs.nil)))))) (Sms.cons (Sm.ret (Ex.bin Bop.add (Ex.bin Bop.add (Ex.var 2) (Ex.var 3)) (Ex.tup (Exs.cons (Ex.idx (Ex.tup (Exs.cons (Ex.dat (D.str [111, 119, 110])) (Exs.cons (Ex.dat (D.str [110, 101, 97, 114])) (Exs.cons (Ex.dat (D.str [97, 110, 121])) Exs.nil)))) (Ex.call 8 (Exs.cons (Ex.var 0) (Exs.cons (Ex.dat (D.int 9883)) (Exs.cons (Ex.dat (D.int 3)) Exs.nil))))) Exs.nil)))) Sms.nil)))
def fd__law_note : FD := ⟨1, 4, sm__law_note⟩
def sm__law_mark : Sms := Sms.cons (Sm.ret (Ex.tup (Exs.cons (Ex.idx (Ex.var 0) (Ex.dat (D.int 0))) (Exs.cons (Ex.idx (Ex.var 0) (Ex.dat (D.int 2))) (Exs.cons (Ex.idx (Ex.var 0) (Ex.dat (D.int 4))) Exs.nil))))) Sms.nil
def fd__law_mark : FD := ⟨1, 1, sm__law_mark⟩
def sm__law_notes : Sms := Sms.cons (Sm.asg 2 (Ex.lst Exs.nil)) (Sms.cons (Sm.loop (Tg.one 3) (It.range1 (Ex.call 8 (Exs.cons (Ex.var 0) (Exs.cons (Ex.dat (D.int 9871)) (Exs.cons (Ex.bin Bop.add (Ex.var 1) (Ex.dat (D.int 1))) Exs.nil))))) (Sms.cons (Sm.asg 4 (Ex.call 12 (Exs.cons (Ex.bin Bop.add (Ex.var 0) (Ex.bin Bop.mul (Ex.dat (D.int 97)) (Ex.var 3))) Exs.nil))) (Sms.cons (Sm.ife (Ex.and (Ex.cmp Cop.ne (Ex.var 2) (Ex.lst Exs.nil)) (Ex.cmp Cop.eq (Ex.call 8 (Exs.cons (Ex.bin Bop.add (Ex.var 0) (Ex.var 3)) (Exs.cons (Ex.dat (D.int 9859)) (Exs.cons (Ex.dat (D.int 2)) Exs.nil)))) (Ex.dat (D.int 0)))) (Sms.cons (Sm.asg 4 (Ex.bin Bop.add (Ex.bin Bop.add (Ex.slc (Ex.var 4) (Ex.dat D.non) (Ex.dat (D.int 2))) (Ex.tup (Exs.cons (Ex.idx (Ex.idx (Ex.var 2) (Ex.dat (D.int 0))) (Ex.dat (D.int 2))) Exs.nil))) (Ex.slc (Ex.var 4) (Ex.dat (D.int 3)) (Ex.dat D.non)))) Sms.nil) Sms.nil) (Sms.cons (Sm.ife (Ex.and (Ex.cmp Cop.ne (Ex.var 2) (Ex.lst Exs.nil)) (Ex.cmp Cop.eq (Ex.call 8 (Exs.cons (Ex.bin Bop.add (Ex.var 0) (Ex.var 3)) (Exs.cons (Ex.dat (D.int 9857)) (Exs.cons (Ex.dat (D.int 3)) Exs.nil)))) (Ex.dat (D.int 0)))) (Sms.cons (Sm.asg 4 (Ex.bin Bop.add (Ex.bin Bop.add (Ex.slc (Ex.var 4) (Ex.dat D.non) (Ex.dat (D.int 4))) (Ex.tup (Exs.cons (Ex.ife (Ex.cmp Cop.eq (Ex.idx (Ex.idx (Ex.var 2) (Ex.dat (D.int 0))) (Ex.dat (D.int 4))) (Ex.dat (D.str [47]))) (Ex.idx (Ex.idx (Ex.var 2) (Ex.dat (D.int 0))) (Ex.dat (D.int 4))) (Ex.bin Bop.add (Ex.idx (Ex.idx (Ex.var 2) (Ex.dat (D.int 0))) (Ex.dat (D.int 4))) (Ex.dat (D.str [47, 97])))) Exs.nil))) (Ex.slc (Ex.var 4) (Ex.dat (D.int 5)) (Ex.dat D.non)))) (Sms.cons (Sm.asg 4 (Ex.ife (Ex.cmp Cop.lt (Ex.bi Bi.len (Exs.cons (Ex.meth Me.split (Ex.idx (Ex.var 4) (Ex.dat (D.int 4))) (Exs.cons (Ex.dat (D.str [47])) Exs.nil)) Exs.nil)) (Ex.dat (D.int 5))) (Ex.var 4) (Ex.bin Bop.add (Ex.bin Bop.add (Ex.slc (Ex.var 4) (Ex.dat D.non) (Ex.dat (D.int 4))) (Ex.tup (Exs.cons (Ex.dat (D.str [47])) Exs.nil))) (Ex.slc (Ex.var 4) (Ex.dat (D.int 5)) (Ex.dat D.non))))) Sms.nil)) Sms.nil) (Sms.cons (Sm.ife (Ex.cmp Cop.notin (Ex.call 13 (Exs.cons (Ex.var 4) Exs.nil)) (Ex.comp (Ex.call 13 (Exs.cons (Ex.var 5) Exs.nil)) (Tg.one 5) (It.of (Ex.var 2)) (Ex.dat (D.bl true)))) (Sms.cons (Sm.expr (Ex.meth Me.append (Ex.var 2) (Exs.cons (Ex.var 4) Exs.nil))) Sms.nil) Sms.nil) Sms.nil)))) false) (Sms.cons (Sm.ret (Ex.bi Bi.tuple (Exs.cons (Ex.var 2) Exs.nil))) Sms.nil))
def fd__law_notes : FD := ⟨2, 6, sm__law_notes⟩
def sm__law_site : Sms := Sms.cons (Sm.asg 1 (Ex.meth Me.split (Ex.var 0) (Exs.cons (Ex.dat (D.str [46])) Exs.nil))) (Sms.cons (Sm.ret (Ex.bi Bi.tuple (Exs.cons (Ex.slc (Ex.var 1) (Ex.bi Bi.max2 (Exs.cons (Ex.dat (D.int 0)) (Exs.cons (Ex.bin Bop.sub (Ex.bi Bi.len (Exs.cons (Ex.var 1) Exs.nil)) (Ex.dat (D.int 2))) Exs.nil))) (Ex.dat D.non)) Exs.nil))) Sms.nil)
def fd__law_site : FD := ⟨1, 2, sm__law_site⟩
def sm__law_steps : Sms := Sms.cons (Sm.ret (Ex.comp (Ex.var 1) (Tg.one 1) (It.of (Ex.meth Me.split (Ex.var 0) (Exs.cons (Ex.dat (D.str [47])) Exs.nil))) (Ex.cmp Cop.ne (Ex.var 1) (Ex.dat (D.str []))))) Sms.nil
def fd__law_steps : FD := ⟨1, 2, sm__law_steps⟩
def sm_host_fits : Sms := Sms.cons (Sm.ife (Ex.cmp Cop.eq (Ex.var 2) (Ex.idx (Ex.var 1) (Ex.dat (D.int 2)))) (Sms.cons (Sm.ret (Ex.dat (D.bl true))) Sms.nil) Sms.nil) (Sms.cons (Sm.asg 3 (Ex.or (Ex.cmp Cop.eq (Ex.idx (Ex.var 0) (Ex.dat (D.int 1))) (Ex.dat (D.str [97, 108, 119, 97, 121, 115]))) (Ex.and (Ex.cmp Cop.eq (Ex.idx (Ex.var 0) (Ex.dat (D.int 1))) (Ex.dat (D.str [116, 111, 108, 100]))) (Ex.idx (Ex.var 1) (Ex.dat (D.int 3)))))) (Sms.cons (Sm.ret (Ex.and (Ex.var 3) (Ex.call 1 (Exs.cons (Ex.var 2) (Exs.cons (Ex.idx (Ex.var 1) (Ex.dat (D.int 2))) Exs.nil))))) Sms.nil))
def fd_host_fits : FD := ⟨3, 4, sm_host_fits⟩
def sm_path_fits : Sms := Sms.cons (Sm.ife (Ex.cmp Cop.eq (Ex.idx (Ex.var 0) (Ex.dat (D.int 0))) (Ex.dat (D.str [115, 105, 103, 110, 115]))) (Sms.cons (Sm.ret (Ex.meth Me.startswith (Ex.var 2) (Exs.cons (Ex.idx (Ex.var 1) (Ex.dat (D.int 4))) Exs.nil))) Sms.nil) Sms.nil) (Sms.cons (Sm.asg 3 (Ex.call 3 (Exs.cons (Ex.idx (Ex.var 1) (Ex.dat (D.int 4))) Exs.nil))) (Sms.cons (Sm.ret (Ex.cmp Cop.eq (Ex.slc (Ex.call 3 (Exs.cons (Ex.var 2) Exs.nil)) (Ex.dat D.non) (Ex.bi Bi.len (Exs.cons (Ex.var 3) Exs.nil))) (Ex.var 3))) Sms.nil))
def fd_path_fits : FD := ⟨3, 4, sm_path_fits⟩
def sm_has_ended : Sms := Sms.cons (Sm.ife (Ex.cmp Cop.is (Ex.idx (Ex.var 1) (Ex.dat (D.int 5))) (Ex.dat D.non)) (Sms.cons (Sm.ret (Ex.dat (D.bl false))) Sms.nil) Sms.nil) (Sms.cons (Sm.ife (Ex.cmp Cop.eq (Ex.idx (Ex.var 0) (Ex.dat (D.int 2))) (Ex.dat (D.str [117, 110, 116, 105, 108]))) (Sms.cons (Sm.ret (Ex.cmp Cop.ge (Ex.var 2) (Ex.idx (Ex.var 1) (Ex.dat (D.int 5))))) Sms.nil) Sms.nil) (Sms.cons (Sm.ret (Ex.cmp Cop.gt (Ex.var 2) (Ex.idx (Ex.var 1) (Ex.dat (D.int 5))))) Sms.nil))
def fd_has_ended : FD := ⟨3, 3, sm_has_ended⟩
def sm_safe_fits : Sms := Sms.cons (Sm.ret (Ex.or (Ex.not (Ex.idx (Ex.var 1) (Ex.dat (D.int 6)))) (Ex.or (Ex.idx (Ex.var 2) (Ex.dat (D.int 3))) (Ex.cmp Cop.eq (Ex.idx (Ex.var 0) (Ex.dat (D.int 3))) (Ex.dat (D.str [102, 114, 101, 101])))))) Sms.nil
def fd_safe_fits : FD := ⟨3, 3, sm_safe_fits⟩
def sm_side_fits : Sms := Sms.cons (Sm.ife (Ex.or (Ex.cmp Cop.is (Ex.idx (Ex.var 2) (Ex.dat (D.int 4))) (Ex.dat D.non)) (Ex.or (Ex.cmp Cop.eq (Ex.call 2 (Exs.cons (Ex.idx (Ex.var 2) (Ex.dat (D.int 4))) Exs.nil)) (Ex.call 2 (Exs.cons (Ex.idx (Ex.var 2) (Ex.dat (D.int 0))) Exs.nil))) (Ex.or (Ex.cmp Cop.eq (Ex.idx (Ex.var 0) (Ex.dat (D.int 4))) (Ex.dat (D.str [110, 111, 110, 101]))) (Ex.cmp Cop.eq (Ex.idx (Ex.var 1) (Ex.dat (D.int 7))) (Ex.dat (D.str [97, 110, 121])))))) (Sms.cons (Sm.ret (Ex.dat (D.bl true))) Sms.nil) Sms.nil) (Sms.cons (Sm.ret (Ex.and (Ex.idx (Ex.var 2) (Ex.dat (D.int 5))) (Ex.or (Ex.cmp Cop.eq (Ex.idx (Ex.var 1) (Ex.dat (D.int 7))) (Ex.dat (D.str [110, 101, 97, 114]))) (Ex.cmp Cop.eq (Ex.idx (Ex.var 0) (Ex.dat (D.int 4))) (Ex.dat (D.str [108, 111, 111, 115, 101])))))) Sms.nil)
def fd_side_fits : FD := ⟨3, 3, sm_side_fits⟩
def sm_why_not : Sms := Sms.cons (Sm.ife (Ex.not (Ex.call 17 (Exs.cons (Ex.var 0) (Exs.cons (Ex.var 1) (Exs.cons (Ex.idx (Ex.var 2) (Ex.dat (D.int 0))) Exs.nil))))) (Sms.cons (Sm.ret (Ex.dat (D.str [104, 111, 115, 116]))) Sms.nil) Sms.nil) (Sms.cons (Sm.ife (Ex.not (Ex.call 18 (Exs.cons (Ex.var 0) (Exs.cons (Ex.var 1) (Exs.cons (Ex.idx (Ex.var 2) (Ex.dat (D.int 1))) Exs.nil))))) (Sms.cons (Sm.ret (Ex.dat (D.str [112, 97, 116, 104]))) Sms.nil) Sms.nil) (Sms.cons (Sm.ife (Ex.call 19 (Exs.cons (Ex.var 0) (Exs.cons (Ex.var 1) (Exs.cons (Ex.idx (Ex.var 2) (Ex.dat (D.int 2))) Exs.nil)))) (Sms.cons (Sm.ret (Ex.dat (D.str [101, 110, 100]))) Sms.nil) Sms.nil) (Sms.cons (Sm.ife (Ex.not (Ex.call 20 (Exs.cons (Ex.var 0) (Exs.cons (Ex.var 1) (Exs.cons (Ex.var 2) Exs.nil))))) (Sms.cons (Sm.ret (Ex.dat (D.str [115, 97, 102, 101]))) Sms.nil) Sms.nil) (Sms.cons (Sm.ife (Ex.not (Ex.call 21 (Exs.cons (Ex.var 0) (Exs.cons (Ex.var 1) (Exs.cons (Ex.var 2) Exs.nil))))) (Sms.cons (Sm.ret (Ex.dat (D.str [115, 105, 100, 101]))) Sms.nil) Sms.nil) (Sms.cons (Sm.ret (Ex.dat D.non)) Sms.nil)))))
def fd_why_not : FD := ⟨3, 3, sm_why_not⟩
def sm_goes : Sms := Sms.cons (Sm.ret (Ex.cmp Cop.is (Ex.call 22 (Exs.cons (Ex.var 0) (Exs.cons (Ex.var 1) (Exs.cons (Ex.var 2) Exs.nil)))) (Ex.dat D.non))) Sms.nil
def fd_goes : FD := ⟨3, 3, sm_goes⟩
def sm__law_rules : Sms := Sms.cons (Sm.asg 1 (Ex.tup (Exs.cons (Ex.tup (Exs.cons (Ex.dat (D.str [115, 105, 103, 110, 115])) (Exs.cons (Ex.dat (D.str [115, 116, 101, 112, 115])) Exs.nil))) (Exs.cons (Ex.tup (Exs.cons (Ex.dat (D.str [97, 108, 119, 97, 121, 115])) (Exs.cons (Ex.dat (D.str [110, 101, 118, 101, 114])) (Exs.cons (Ex.dat (D.str [116, 111, 108, 100])) Exs.nil)))) (Exs.cons (Ex.tup (Exs.cons (Ex.dat (D.str [117, 110, 116, 105, 108])) (Exs.cons (Ex.dat (D.str [119, 105, 116, 104])) Exs.nil))) Exs.nil))))) (Sms.cons (Sm.asg 1 (Ex.bin Bop.add (Ex.var 1) (Ex.tup (Exs.cons (Ex.tup (Exs.cons (Ex.dat (D.str [102, 114, 101, 101])) (Exs.cons (Ex.dat (D.str [109, 117, 115, 116])) Exs.nil))) (Exs.cons (Ex.tup (Exs.cons (Ex.dat (D.str [107, 101, 101, 112])) (Exs.cons (Ex.dat (D.str [108, 111, 111, 115, 101])) (Exs.cons (Ex.dat (D.str [110, 111, 110, 101])) Exs.nil)))) Exs.nil))))) (Sms.cons (Sm.asg 2 (Ex.comp (Ex.idx (Ex.var 4) (Ex.call 8 (Exs.cons (Ex.bin Bop.add (Ex.var 0) (Ex.bin Bop.mul (Ex.dat (D.int 13)) (Ex.var 3))) (Exs.cons (Ex.dat (D.int 9851)) (Exs.cons (Ex.bi Bi.len (Exs.cons (Ex.var 4) Exs.nil)) Exs.nil))))) (Tg.many [3, 4]) (It.enum (Ex.var 1)) (Ex.dat (D.bl true)))) (Sms.cons (Sm.ret (Ex.bin Bop.add (Ex.bi Bi.tuple (Exs.cons (Ex.var 2) Exs.nil)) (Ex.tup (Exs.cons (Ex.idx (Ex.tup (Exs.cons (Ex.dat (D.str [108, 111, 110, 103])) (Exs.cons (Ex.dat (D.str [110, 97, 109, 101, 115])) (Exs.cons (Ex.dat (D.str [111, 108, 100])) Exs.nil)))) (Ex.call 8 (Exs.cons (Ex.var 0) (Exs.cons (Ex.dat (D.int 9839)) (Exs.cons (Ex.dat (D.int 3)) Exs.nil))))) Exs.nil)))) Sms.nil)))
def fd__law_rules : FD := ⟨1, 5, sm__law_rules⟩
def sm__law_ask : Sms := Sms.cons (Sm.par [4, 5] (Exs.cons (Ex.call 10 (Exs.cons (Ex.bin Bop.add (Ex.var 0) (Ex.dat (D.int 3))) Exs.nil)) (Exs.cons (Ex.call 11 (Exs.cons (Ex.bin Bop.add (Ex.var 0) (Ex.dat (D.int 4))) Exs.nil)) Exs.nil))) (Sms.cons (Sm.asg 2 (Ex.call 8 (Exs.cons (Ex.var 0) (Exs.cons (Ex.dat (D.int 9833)) (Exs.cons (Ex.dat (D.int 100)) Exs.nil))))) (Sms.cons (Sm.ife (Ex.and (Ex.cmp Cop.ne (Ex.var 1) (Ex.tup Exs.nil)) (Ex.cmp Cop.gt (Ex.call 8 (Exs.cons (Ex.var 0) (Exs.cons (Ex.dat (D.int 9829)) (Exs.cons (Ex.dat (D.int 5)) Exs.nil)))) (Ex.dat (D.int 0)))) (Sms.cons (Sm.par [7, 8] (Exs.cons (Ex.idx (Ex.var 1) (Ex.call 8 (Exs.cons (Ex.var 0) (Exs.cons (Ex.dat (D.int 9817)) (Exs.cons (Ex.bi Bi.len (Exs.cons (Ex.var 1) Exs.nil)) Exs.nil))))) (Exs.cons (Ex.idx (Ex.var 1) (Ex.call 8 (Exs.cons (Ex.var 0) (Exs.cons (Ex.dat (D.int 9811)) (Exs.cons (Ex.bi Bi.len (Exs.cons (Ex.var 1) Exs.nil)) Exs.nil))))) Exs.nil))) (Sms.cons (Sm.asg 4 (Ex.idx (Ex.tup (Exs.cons (Ex.idx (Ex.var 7) (Ex.dat (D.int 2))) (Exs.cons (Ex.idx (Ex.var 7) (Ex.dat (D.int 2))) (Exs.cons (Ex.bin Bop.add (Ex.dat (D.str [113, 46])) (Ex.idx (Ex.var 7) (Ex.dat (D.int 2)))) (Exs.cons (Ex.var 4) Exs.nil))))) (Ex.call 8 (Exs.cons (Ex.var 0) (Exs.cons (Ex.dat (D.int 9803)) (Exs.cons (Ex.dat (D.int 4)) Exs.nil)))))) (Sms.cons (Sm.asg 6 (Ex.ife (Ex.cmp Cop.eq (Ex.idx (Ex.var 8) (Ex.dat (D.int 4))) (Ex.dat (D.str [47]))) (Ex.dat (D.str [])) (Ex.idx (Ex.var 8) (Ex.dat (D.int 4))))) (Sms.cons (Sm.asg 5 (Ex.idx (Ex.tup (Exs.cons (Ex.idx (Ex.var 8) (Ex.dat (D.int 4))) (Exs.cons (Ex.bin Bop.add (Ex.var 6) (Ex.dat (D.str [47, 113]))) (Exs.cons (Ex.bin Bop.add (Ex.idx (Ex.var 8) (Ex.dat (D.int 4))) (Ex.dat (D.str [113]))) (Exs.cons (Ex.var 5) Exs.nil))))) (Ex.call 8 (Exs.cons (Ex.var 0) (Exs.cons (Ex.dat (D.int 9791)) (Exs.cons (Ex.dat (D.int 4)) Exs.nil)))))) (Sms.cons (Sm.ife (Ex.cmp Cop.isnot (Ex.idx (Ex.var 7) (Ex.dat (D.int 5))) (Ex.dat D.non)) (Sms.cons (Sm.asg 2 (Ex.bi Bi.max2 (Exs.cons (Ex.dat (D.int 0)) (Exs.cons (Ex.bi Bi.min2 (Exs.cons (Ex.dat (D.int 99)) (Exs.cons (Ex.bin Bop.sub (Ex.bin Bop.add (Ex.idx (Ex.var 7) (Ex.dat (D.int 5))) (Ex.call 8 (Exs.cons (Ex.var 0) (Exs.cons (Ex.dat (D.int 9787)) (Exs.cons (Ex.dat (D.int 3)) Exs.nil))))) (Ex.dat (D.int 1))) Exs.nil))) Exs.nil)))) Sms.nil) Sms.nil) Sms.nil))))) Sms.nil) (Sms.cons (Sm.asg 3 (Ex.idx (Ex.tup (Exs.cons (Ex.dat D.non) (Exs.cons (Ex.dat (D.str [113, 46, 113])) (Exs.cons (Ex.var 4) (Exs.cons (Ex.bin Bop.add (Ex.dat (D.str [113, 46])) (Ex.meth Me.join (Ex.dat (D.str [46])) (Exs.cons (Ex.slc (Ex.meth Me.split (Ex.var 4) (Exs.cons (Ex.dat (D.str [46])) Exs.nil)) (Ex.dat (D.int (-2))) (Ex.dat D.non)) Exs.nil))) (Exs.cons (Ex.dat (D.str [97])) Exs.nil)))))) (Ex.call 8 (Exs.cons (Ex.var 0) (Exs.cons (Ex.dat (D.int 9781)) (Exs.cons (Ex.dat (D.int 5)) Exs.nil)))))) (Sms.cons (Sm.ret (Ex.tup (Exs.cons (Ex.var 4) (Exs.cons (Ex.var 5) (Exs.cons (Ex.var 2) (Exs.cons (Ex.cmp Cop.eq (Ex.call 8 (Exs.cons (Ex.var 0) (Exs.cons (Ex.dat (D.int 9769)) (Exs.cons (Ex.dat (D.int 2)) Exs.nil)))) (Ex.dat (D.int 0))) (Exs.cons (Ex.var 3) (Exs.cons (Ex.cmp Cop.eq (Ex.call 8 (Exs.cons (Ex.var 0) (Exs.cons (Ex.dat (D.int 9767)) (Exs.cons (Ex.dat (D.int 2)) Exs.nil)))) (Ex.dat (D.int 0))) Exs.nil)))))))) Sms.nil))))
def fd__law_ask : FD := ⟨2, 9, sm__law_ask⟩
def sm__law_host_fits : Sms := Sms.cons (Sm.ife (Ex.cmp Cop.eq (Ex.var 2) (Ex.idx (Ex.var 1) (Ex.dat (D.int 2)))) (Sms.cons (Sm.ret (Ex.dat (D.bl true))) Sms.nil) Sms.nil) (Sms.cons (Sm.ife (Ex.or (Ex.cmp Cop.eq (Ex.idx (Ex.var 0) (Ex.dat (D.int 1))) (Ex.dat (D.str [110, 101, 118, 101, 114]))) (Ex.and (Ex.cmp Cop.eq (Ex.idx (Ex.var 0) (Ex.dat (D.int 1))) (Ex.dat (D.str [116, 111, 108, 100]))) (Ex.not (Ex.idx (Ex.var 1) (Ex.dat (D.int 3)))))) (Sms.cons (Sm.ret (Ex.dat (D.bl false))) Sms.nil) Sms.nil) (Sms.cons (Sm.par [3, 4] (Exs.cons (Ex.meth Me.split (Ex.var 2) (Exs.cons (Ex.dat (D.str [46])) Exs.nil)) (Exs.cons (Ex.meth Me.split (Ex.idx (Ex.var 1) (Ex.dat (D.int 2))) (Exs.cons (Ex.dat (D.str [46])) Exs.nil)) Exs.nil))) (Sms.cons (Sm.ret (Ex.and (Ex.cmp Cop.gt (Ex.bi Bi.len (Exs.cons (Ex.var 3) Exs.nil)) (Ex.bi Bi.len (Exs.cons (Ex.var 4) Exs.nil))) (Ex.cmp Cop.eq (Ex.slc (Ex.var 3) (Ex.bin Bop.sub (Ex.bi Bi.len (Exs.cons (Ex.var 3) Exs.nil)) (Ex.bi Bi.len (Exs.cons (Ex.var 4) Exs.nil))) (Ex.dat D.non)) (Ex.var 4)))) Sms.nil)))
def fd__law_host_fits : FD := ⟨3, 5, sm__law_host_fits⟩
def sm__law_path_fits : Sms := Sms.cons (Sm.ife (Ex.cmp Cop.eq (Ex.idx (Ex.var 0) (Ex.dat (D.int 0))) (Ex.dat (D.str [115, 105, 103, 110, 115]))) (Sms.cons (Sm.ret (Ex.cmp Cop.eq (Ex.slc (Ex.var 2) (Ex.dat D.non) (Ex.bi Bi.len (Exs.cons (Ex.idx (Ex.var 1) (Ex.dat (D.int 4))) Exs.nil))) (Ex.idx (Ex.var 1) (Ex.dat (D.int 4))))) Sms.nil) Sms.nil) (Sms.cons (Sm.par [3, 4] (Exs.cons (Ex.call 16 (Exs.cons (Ex.var 2) Exs.nil)) (Exs.cons (Ex.call 16 (Exs.cons (Ex.idx (Ex.var 1) (Ex.dat (D.int 4))) Exs.nil)) Exs.nil))) (Sms.cons (Sm.ret (Ex.cmp Cop.eq (Ex.slc (Ex.var 3) (Ex.dat D.non) (Ex.bi Bi.len (Exs.cons (Ex.var 4) Exs.nil))) (Ex.var 4))) Sms.nil))
def fd__law_path_fits : FD := ⟨3, 5, sm__law_path_fits⟩
def sm__law_ended : Sms := Sms.cons (Sm.ife (Ex.cmp Cop.is (Ex.idx (Ex.var 1) (Ex.dat (D.int 5))) (Ex.dat D.non)) (Sms.cons (Sm.ret (Ex.dat (D.bl false))) Sms.nil) Sms.nil) (Sms.cons (Sm.ret (Ex.or (Ex.cmp Cop.gt (Ex.var 2) (Ex.idx (Ex.var 1) (Ex.dat (D.int 5)))) (Ex.and (Ex.cmp Cop.eq (Ex.var 2) (Ex.idx (Ex.var 1) (Ex.dat (D.int 5)))) (Ex.cmp Cop.eq (Ex.idx (Ex.var 0) (Ex.dat (D.int 2))) (Ex.dat (D.str [117, 110, 116, 105, 108])))))) Sms.nil)
def fd__law_ended : FD := ⟨3, 3, sm__law_ended⟩
def sm__law_safe_fits : Sms := Sms.cons (Sm.ret (Ex.or (Ex.idx (Ex.var 2) (Ex.dat (D.int 3))) (Ex.or (Ex.not (Ex.idx (Ex.var 1) (Ex.dat (D.int 6)))) (Ex.cmp Cop.eq (Ex.idx (Ex.var 0) (Ex.dat (D.int 3))) (Ex.dat (D.str [102, 114, 101, 101])))))) Sms.nil
def fd__law_safe_fits : FD := ⟨3, 3, sm__law_safe_fits⟩
def sm__law_side_fits : Sms := Sms.cons (Sm.ife (Ex.or (Ex.cmp Cop.is (Ex.idx (Ex.var 2) (Ex.dat (D.int 4))) (Ex.dat D.non)) (Ex.cmp Cop.eq (Ex.call 15 (Exs.cons (Ex.idx (Ex.var 2) (Ex.dat (D.int 4))) Exs.nil)) (Ex.call 15 (Exs.cons (Ex.idx (Ex.var 2) (Ex.dat (D.int 0))) Exs.nil)))) (Sms.cons (Sm.ret (Ex.dat (D.bl true))) Sms.nil) Sms.nil) (Sms.cons (Sm.ife (Ex.or (Ex.cmp Cop.eq (Ex.idx (Ex.var 0) (Ex.dat (D.int 4))) (Ex.dat (D.str [110, 111, 110, 101]))) (Ex.cmp Cop.eq (Ex.idx (Ex.var 1) (Ex.dat (D.int 7))) (Ex.dat (D.str [97, 110, 121])))) (Sms.cons (Sm.ret (Ex.dat (D.bl true))) Sms.nil) Sms.nil) (Sms.cons (Sm.ret (Ex.and (Ex.idx (Ex.var 2) (Ex.dat (D.int 5))) (Ex.or (Ex.cmp Cop.eq (Ex.idx (Ex.var 1) (Ex.dat (D.int 7))) (Ex.dat (D.str [110, 101, 97, 114]))) (Ex.cmp Cop.eq (Ex.idx (Ex.var 0) (Ex.dat (D.int 4))) (Ex.dat (D.str [108, 111, 111, 115, 101])))))) Sms.nil))
def fd__law_side_fits : FD := ⟨3, 3, sm__law_side_fits⟩
def sm__law_why : Sms := Sms.cons (Sm.ife (Ex.not (Ex.call 26 (Exs.cons (Ex.var 0) (Exs.cons (Ex.var 1) (Exs.cons (Ex.idx (Ex.var 2) (Ex.dat (D.int 0))) Exs.nil))))) (Sms.cons (Sm.ret (Ex.dat (D.str [104, 111, 115, 116]))) Sms.nil) Sms.nil) (Sms.cons (Sm.ife (Ex.not (Ex.call 27 (Exs.cons (Ex.var 0) (Exs.cons (Ex.var 1) (Exs.cons (Ex.idx (Ex.var 2) (Ex.dat (D.int 1))) Exs.nil))))) (Sms.cons (Sm.ret (Ex.dat (D.str [112, 97, 116, 104]))) Sms.nil) Sms.nil) (Sms.cons (Sm.ife (Ex.call 28 (Exs.cons (Ex.var 0) (Exs.cons (Ex.var 1) (Exs.cons (Ex.idx (Ex.var 2) (Ex.dat (D.int 2))) Exs.nil)))) (Sms.cons (Sm.ret (Ex.dat (D.str [101, 110, 100]))) Sms.nil) Sms.nil) (Sms.cons (Sm.ife (Ex.not (Ex.call 29 (Exs.cons (Ex.var 0) (Exs.cons (Ex.var 1) (Exs.cons (Ex.var 2) Exs.nil))))) (Sms.cons (Sm.ret (Ex.dat (D.str [115, 97, 102, 101]))) Sms.nil) Sms.nil) (Sms.cons (Sm.ret (Ex.ife (Ex.call 30 (Exs.cons (Ex.var 0) (Exs.cons (Ex.var 1) (Exs.cons (Ex.var 2) Exs.nil)))) (Ex.dat D.non) (Ex.dat (D.str [115, 105, 100, 101])))) Sms.nil))))
def fd__law_why : FD := ⟨3, 3, sm__law_why⟩
def lb__law_is_narrow_1 : Sms := Sms.cons (Sm.asg 7 (Ex.bin Bop.add (Ex.bin Bop.add (Ex.slc (Ex.var 2) (Ex.dat D.non) (Ex.var 4)) (Ex.tup (Exs.cons (Ex.var 6) Exs.nil))) (Ex.slc (Ex.var 2) (Ex.bin Bop.add (Ex.var 4) (Ex.dat (D.int 1))) (Ex.dat D.non)))) (Sms.cons (Sm.ife (Ex.and (Ex.cmp Cop.eq (Ex.idx (Ex.var 2) (Ex.var 4)) (Ex.var 5)) (Ex.and (Ex.call 23 (Exs.cons (Ex.var 2) (Exs.cons (Ex.var 0) (Exs.cons (Ex.var 1) Exs.nil)))) (Ex.not (Ex.call 23 (Exs.cons (Ex.var 7) (Exs.cons (Ex.var 0) (Exs.cons (Ex.var 1) Exs.nil))))))) (Sms.cons (Sm.ret (Ex.dat (D.bl false))) Sms.nil) Sms.nil) Sms.nil)
def sm__law_is_narrow : Sms := Sms.cons (Sm.asg 3 (Ex.tup (Exs.cons (Ex.tup (Exs.cons (Ex.dat (D.int 0)) (Exs.cons (Ex.dat (D.str [115, 116, 101, 112, 115])) (Exs.cons (Ex.dat (D.str [115, 105, 103, 110, 115])) Exs.nil)))) (Exs.cons (Ex.tup (Exs.cons (Ex.dat (D.int 3)) (Exs.cons (Ex.dat (D.str [109, 117, 115, 116])) (Exs.cons (Ex.dat (D.str [102, 114, 101, 101])) Exs.nil)))) (Exs.cons (Ex.tup (Exs.cons (Ex.dat (D.int 2)) (Exs.cons (Ex.dat (D.str [117, 110, 116, 105, 108])) (Exs.cons (Ex.dat (D.str [119, 105, 116, 104])) Exs.nil)))) Exs.nil))))) (Sms.cons (Sm.asg 3 (Ex.bin Bop.add (Ex.var 3) (Ex.tup (Exs.cons (Ex.tup (Exs.cons (Ex.dat (D.int 1)) (Exs.cons (Ex.dat (D.str [110, 101, 118, 101, 114])) (Exs.cons (Ex.dat (D.str [116, 111, 108, 100])) Exs.nil)))) (Exs.cons (Ex.tup (Exs.cons (Ex.dat (D.int 1)) (Exs.cons (Ex.dat (D.str [116, 111, 108, 100])) (Exs.cons (Ex.dat (D.str [97, 108, 119, 97, 121, 115])) Exs.nil)))) Exs.nil))))) (Sms.cons (Sm.loop (Tg.many [4, 5, 6]) (It.of (Ex.bin Bop.add (Ex.var 3) (Ex.tup (Exs.cons (Ex.tup (Exs.cons (Ex.dat (D.int 4)) (Exs.cons (Ex.dat (D.str [107, 101, 101, 112])) (Exs.cons (Ex.dat (D.str [108, 111, 111, 115, 101])) Exs.nil)))) (Exs.cons (Ex.tup (Exs.cons (Ex.dat (D.int 4)) (Exs.cons (Ex.dat (D.str [108, 111, 111, 115, 101])) (Exs.cons (Ex.dat (D.str [110, 111, 110, 101])) Exs.nil)))) Exs.nil))))) lb__law_is_narrow_1 false) (Sms.cons (Sm.ret (Ex.dat (D.bl true))) Sms.nil)))
def fd__law_is_narrow : FD := ⟨3, 8, sm__law_is_narrow⟩
def ce__law_once_1 : Ex := Ex.call 19 (Exs.cons (Ex.var 6) (Exs.cons (Ex.var 3) (Exs.cons (Ex.var 12) Exs.nil)))
def lb__law_once_1 : Sms := Sms.cons (Sm.asg 6 (Ex.idx (Ex.var 1) (Ex.var 5))) (Sms.cons (Sm.asg 7 (Ex.and (Ex.call 17 (Exs.cons (Ex.var 6) (Exs.cons (Ex.var 3) (Exs.cons (Ex.idx (Ex.var 4) (Ex.dat (D.int 0))) Exs.nil)))) (Ex.call 18 (Exs.cons (Ex.var 6) (Exs.cons (Ex.var 3) (Exs.cons (Ex.idx (Ex.var 4) (Ex.dat (D.int 1))) Exs.nil)))))) (Sms.cons (Sm.asg 7 (Ex.and (Ex.var 7) (Ex.not (Ex.call 19 (Exs.cons (Ex.var 6) (Exs.cons (Ex.var 3) (Exs.cons (Ex.idx (Ex.var 4) (Ex.dat (D.int 2))) Exs.nil))))))) (Sms.cons (Sm.asg 7 (Ex.and (Ex.var 7) (Ex.and (Ex.call 20 (Exs.cons (Ex.var 6) (Exs.cons (Ex.var 3) (Exs.cons (Ex.var 4) Exs.nil)))) (Ex.call 21 (Exs.cons (Ex.var 6) (Exs.cons (Ex.var 3) (Exs.cons (Ex.var 4) Exs.nil))))))) (Sms.cons (Sm.ife (Ex.or (Ex.cmp Cop.ne (Ex.call 23 (Exs.cons (Ex.var 6) (Exs.cons (Ex.var 3) (Exs.cons (Ex.var 4) Exs.nil)))) (Ex.var 7)) (Ex.cmp Cop.ne (Ex.cmp Cop.is (Ex.call 22 (Exs.cons (Ex.var 6) (Exs.cons (Ex.var 3) (Exs.cons (Ex.var 4) Exs.nil)))) (Ex.dat D.non)) (Ex.var 7))) (Sms.cons (Sm.ret (Ex.dat (D.bl false))) Sms.nil) Sms.nil) (Sms.cons (Sm.ife (Ex.not (Ex.call 32 (Exs.cons (Ex.var 3) (Exs.cons (Ex.var 4) (Exs.cons (Ex.var 6) Exs.nil))))) (Sms.cons (Sm.ret (Ex.dat (D.bl false))) Sms.nil) Sms.nil) (Sms.cons (Sm.asg 8 (Ex.tup (Exs.cons (Ex.idx (Ex.var 3) (Ex.dat (D.int 2))) (Exs.cons (Ex.idx (Ex.var 3) (Ex.dat (D.int 4))) (Exs.cons (Ex.idx (Ex.var 4) (Ex.dat (D.int 2))) (Exs.cons (Ex.dat (D.bl true)) (Exs.cons (Ex.dat D.non) (Exs.cons (Ex.idx (Ex.var 4) (Ex.dat (D.int 5))) Exs.nil)))))))) (Sms.cons (Sm.ife (Ex.and (Ex.var 7) (Ex.not (Ex.call 23 (Exs.cons (Ex.var 6) (Exs.cons (Ex.var 3) (Exs.cons (Ex.var 8) Exs.nil)))))) (Sms.cons (Sm.ret (Ex.dat (D.bl false))) Sms.nil) Sms.nil) (Sms.cons (Sm.ife (Ex.and (Ex.var 7) (Ex.not (Ex.call 23 (Exs.cons (Ex.var 6) (Exs.cons (Ex.var 3) (Exs.cons (Ex.bin Bop.add (Ex.slc (Ex.var 4) (Ex.dat D.non) (Ex.dat (D.int 3))) (Ex.tup (Exs.cons (Ex.dat (D.bl true)) (Exs.cons (Ex.dat D.non) (Exs.cons (Ex.idx (Ex.var 4) (Ex.dat (D.int 5))) Exs.nil))))) Exs.nil)))))) (Sms.cons (Sm.ret (Ex.dat (D.bl false))) Sms.nil) Sms.nil) (Sms.cons (Sm.asg 9 (Ex.comp ce__law_once_1 (Tg.one 12) (It.range1 (Ex.dat (D.int 100))) (Ex.dat (D.bl true)))) (Sms.cons (Sm.ife (Ex.cmp Cop.ne (Ex.var 9) (Ex.bi Bi.sorted (Exs.cons (Ex.var 9) Exs.nil))) (Sms.cons (Sm.ret (Ex.dat (D.bl false))) Sms.nil) Sms.nil) (Sms.cons (Sm.asg 10 (Ex.bin Bop.add (Ex.slc (Ex.var 3) (Ex.dat D.non) (Ex.dat (D.int 5))) (Ex.tup (Exs.cons (Ex.dat D.non) (Exs.cons (Ex.dat (D.bl false)) (Exs.cons (Ex.dat (D.str [97, 110, 121])) Exs.nil)))))) (Sms.cons (Sm.ife (Ex.not (Ex.call 23 (Exs.cons (Ex.var 6) (Exs.cons (Ex.var 10) (Exs.cons (Ex.bin Bop.add (Ex.tup (Exs.cons (Ex.idx (Ex.var 3) (Ex.dat (D.int 2))) (Exs.cons (Ex.idx (Ex.var 3) (Ex.dat (D.int 4))) Exs.nil))) (Ex.slc (Ex.var 4) (Ex.dat (D.int 2)) (Ex.dat D.non))) Exs.nil))))) (Sms.cons (Sm.ret (Ex.dat (D.bl false))) Sms.nil) Sms.nil) (Sms.cons (Sm.ife (Ex.and (Ex.call 23 (Exs.cons (Ex.var 6) (Exs.cons (Ex.var 3) (Exs.cons (Ex.var 4) Exs.nil)))) (Ex.not (Ex.call 23 (Exs.cons (Ex.var 6) (Exs.cons (Ex.var 10) (Exs.cons (Ex.var 4) Exs.nil)))))) (Sms.cons (Sm.ret (Ex.dat (D.bl false))) Sms.nil) Sms.nil) (Sms.cons (Sm.asg 11 (Ex.bin Bop.add (Ex.slc (Ex.var 6) (Ex.dat D.non) (Ex.dat (D.int 5))) (Ex.tup (Exs.cons (Ex.dat (D.str [111, 108, 100])) Exs.nil)))) (Sms.cons (Sm.ife (Ex.cmp Cop.ne (Ex.call 22 (Exs.cons (Ex.var 11) (Exs.cons (Ex.var 3) (Exs.cons (Ex.var 4) Exs.nil)))) (Ex.call 22 (Exs.cons (Ex.var 6) (Exs.cons (Ex.var 3) (Exs.cons (Ex.var 4) Exs.nil))))) (Sms.cons (Sm.ret (Ex.dat (D.bl false))) Sms.nil) Sms.nil) Sms.nil)))))))))))))))
def lb__law_once_2 : Sms := Sms.cons (Sm.asg 3 (Ex.call 12 (Exs.cons (Ex.bin Bop.add (Ex.call 7 (Exs.cons (Ex.var 0) (Exs.cons (Ex.bin Bop.mod (Ex.var 2) (Ex.dat (D.int 9))) Exs.nil))) (Ex.bin Bop.mul (Ex.dat (D.int 31)) (Ex.var 2))) Exs.nil))) (Sms.cons (Sm.asg 4 (Ex.call 25 (Exs.cons (Ex.bin Bop.add (Ex.call 7 (Exs.cons (Ex.var 0) (Exs.cons (Ex.dat (D.int 9)) Exs.nil))) (Ex.bin Bop.mul (Ex.dat (D.int 7)) (Ex.var 2))) (Exs.cons (Ex.tup (Exs.cons (Ex.var 3) Exs.nil)) Exs.nil)))) (Sms.cons (Sm.loop (Tg.one 5) (It.range3 (Ex.dat (D.int 0)) (Ex.dat (D.int 216)) (Ex.bin Bop.add (Ex.dat (D.int 1)) (Ex.call 8 (Exs.cons (Ex.bin Bop.add (Ex.call 7 (Exs.cons (Ex.var 0) (Exs.cons (Ex.dat (D.int 8)) Exs.nil))) (Ex.var 2)) (Exs.cons (Ex.dat (D.int 9743)) (Exs.cons (Ex.dat (D.int 9)) Exs.nil)))))) lb__law_once_1 true) Sms.nil))
def sm__law_once : Sms := Sms.cons (Sm.asg 1 (Ex.call 4 Exs.nil)) (Sms.cons (Sm.loop (Tg.one 2) (It.range1 (Ex.dat (D.int 14))) lb__law_once_2 false) (Sms.cons (Sm.ret (Ex.dat (D.bl true))) Sms.nil))
def fd__law_once : FD := ⟨1, 13, sm__law_once⟩
def PG (L : FD) : Nat → Option FD
  | 0 => some L
  | 1 => some fd_is_below
  | 2 => some fd_site
  | 3 => some fd_steps
  | 4 => some fd_all_rules
  | 5 => some fd_may_put
  | 6 => some fd_by_site
  | 7 => some fd__law_cell
  | 8 => some fd__law_mix
  | 9 => some fd__law_same
  | 10 => some fd__law_host
  | 11 => some fd__law_path
  | 12 => some fd__law_note
  | 13 => some fd__law_mark
  | 14 => some fd__law_notes
  | 15 => some fd__law_site
  | 16 => some fd__law_steps
  | 17 => some fd_host_fits
  | 18 => some fd_path_fits
  | 19 => some fd_has_ended
  | 20 => some fd_safe_fits
  | 21 => some fd_side_fits
  | 22 => some fd_why_not
  | 23 => some fd_goes
  | 24 => some fd__law_rules
  | 25 => some fd__law_ask
  | 26 => some fd__law_host_fits
  | 27 => some fd__law_path_fits
  | 28 => some fd__law_ended
  | 29 => some fd__law_safe_fits
  | 30 => some fd__law_side_fits
  | 31 => some fd__law_why
  | 32 => some fd__law_is_narrow
  | 33 => some fd__law_once
  | _ => none
end Lw
set_option Elab.async false
set_option linter.all false
set_option maxRecDepth 100000
namespace Lw
open Ev
def ce_law_1 : Ex := Ex.bin Bop.add (Ex.var 1) (Ex.dat (D.int 1))
def sm_law : Sms := Sms.cons (Sm.ret (Ex.and (Ex.call 33 (Exs.cons (Ex.var 0) Exs.nil)) (Ex.call 33 (Exs.cons (Ex.comp ce_law_1 (Tg.one 1) (It.of (Ex.rev (Ex.var 0))) (Ex.dat (D.bl true))) Exs.nil)))) Sms.nil
def fd_law : FD := ⟨1, 2, sm_law⟩
end Lw
set_option Elab.async false
set_option linter.all false
set_option maxRecDepth 100000
set_option maxHeartbeats 0
namespace Lw
open PySem L2 Ev
def top (i : Nat) : Stmt := PySem.Challenge.pw_noterules_k04_whole_fits.main.body.getD i (.Pass ⟨0, 0, 0, 0⟩)
def dats : List (Str × D) := [("WORDS", (.tup [(.tup [(.str [115, 105, 103, 110, 115]), (.str [115, 116, 101, 112, 115])]), (.tup [(.str [97, 108, 119, 97, 121, 115]), (.str [110, 101, 118, 101, 114]), (.str [116, 111, 108, 100])]), (.tup [(.str [117, 110, 116, 105, 108]), (.str [119, 105, 116, 104])])])), ("MORE_WORDS", (.tup [(.tup [(.str [102, 114, 101, 101]), (.str [109, 117, 115, 116])]), (.tup [(.str [107, 101, 101, 112]), (.str [108, 111, 111, 115, 101]), (.str [110, 111, 110, 101])]), (.tup [(.str [108, 111, 110, 103]), (.str [110, 97, 109, 101, 115]), (.str [111, 108, 100])])]))]
def blts : List Str := ["len", "tuple", "sorted", "min", "max", "range"]
def de0 : DE := ⟨1, "is_below", defArgs (top 3), defBody (top 3), defScope (top 3), ["one", "other"], ["one", "other"], [], sm_is_below⟩
def de1 : DE := ⟨2, "site", defArgs (top 4), defBody (top 4), defScope (top 4), ["host"], ["host"], [], sm_site⟩
def de2 : DE := ⟨3, "steps", defArgs (top 5), defBody (top 5), defScope (top 5), ["path"], ["path"], [], sm_steps⟩
def de3 : DE := ⟨4, "all_rules", defArgs (top 6), defBody (top 6), defScope (top 6), ["found", "some", "longer", "one", "word"], [], [], sm_all_rules⟩
def de4 : DE := ⟨17, "host_fits", defArgs (top 8), defBody (top 8), defScope (top 8), ["rules", "note", "host", "is_wide"], ["rules", "note", "host"], [], sm_host_fits⟩
def de5 : DE := ⟨18, "path_fits", defArgs (top 9), defBody (top 9), defScope (top 9), ["rules", "note", "path", "some"], ["rules", "note", "path"], [], sm_path_fits⟩
def de6 : DE := ⟨19, "has_ended", defArgs (top 10), defBody (top 10), defScope (top 10), ["rules", "note", "time"], ["rules", "note", "time"], [], sm_has_ended⟩
def de7 : DE := ⟨20, "safe_fits", defArgs (top 11), defBody (top 11), defScope (top 11), ["rules", "note", "ask"], ["rules", "note", "ask"], [], sm_safe_fits⟩
def de8 : DE := ⟨21, "side_fits", defArgs (top 12), defBody (top 12), defScope (top 12), ["rules", "note", "ask"], ["rules", "note", "ask"], [], sm_side_fits⟩
def de9 : DE := ⟨22, "why_not", defArgs (top 13), defBody (top 13), defScope (top 13), ["rules", "note", "ask"], ["rules", "note", "ask"], [], sm_why_not⟩
def de10 : DE := ⟨23, "goes", defArgs (top 14), defBody (top 14), defScope (top 14), ["rules", "note", "ask"], ["rules", "note", "ask"], [], sm_goes⟩
def de11 : DE := ⟨7, "_law_cell", defArgs (top 16), defBody (top 16), defScope (top 16), ["script", "k"], ["script", "k"], [], sm__law_cell⟩
def de12 : DE := ⟨8, "_law_mix", defArgs (top 17), defBody (top 17), defScope (top 17), ["cell", "prime", "many", "blend"], ["cell", "prime", "many"], [], sm__law_mix⟩
def de13 : DE := ⟨10, "_law_host", defArgs (top 18), defBody (top 18), defScope (top 18), ["cell", "labels", "n"], ["cell"], [], sm__law_host⟩
def de14 : DE := ⟨11, "_law_path", defArgs (top 19), defBody (top 19), defScope (top 19), ["cell", "some", "n"], ["cell"], [], sm__law_path⟩
def de15 : DE := ⟨12, "_law_note", defArgs (top 20), defBody (top 20), defScope (top 20), ["cell", "end", "first", "rest"], ["cell"], [], sm__law_note⟩
def de16 : DE := ⟨25, "_law_ask", defArgs (top 21), defBody (top 21), defScope (top 21), ["cell", "notes", "time", "origin", "host", "path", "more", "note", "other"], ["cell", "notes"], [], sm__law_ask⟩
def de17 : DE := ⟨32, "_law_is_narrow", defArgs (top 22), defBody (top 22), defScope (top 22), ["note", "ask", "rules", "pairs", "n", "narrow", "wider", "new"], ["note", "ask", "rules"], [], sm__law_is_narrow⟩
def de18 : DE := ⟨33, "_law_once", defArgs (top 23), defBody (top 23), defScope (top 23), ["script", "every", "k", "note", "ask", "n", "rules", "fits", "home", "ends", "bare", "old", "time"], ["script"], [101], sm__law_once⟩
def de19 : DE := ⟨0, "law", defArgs (top 24), defBody (top 24), defScope (top 24), ["script", "cell"], ["script"], [], sm_law⟩
def tab : List DE := [de0, de1, de2, de3, de4, de5, de6, de7, de8, de9, de10, de11, de12, de13, de14, de15, de16, de17, de18, de19]
def fns : List (Str × Nat × Nat) := [("is_below", 1, 2), ("site", 2, 1), ("steps", 3, 1), ("all_rules", 4, 0), ("host_fits", 17, 3), ("path_fits", 18, 3), ("has_ended", 19, 3), ("safe_fits", 20, 3), ("side_fits", 21, 3), ("why_not", 22, 3), ("goes", 23, 3), ("_law_cell", 7, 2), ("_law_mix", 8, 3), ("_law_host", 10, 1), ("_law_path", 11, 1), ("_law_note", 12, 1), ("_law_ask", 25, 2), ("_law_is_narrow", 32, 3), ("_law_once", 33, 1), ("law", 0, 1)]
theorem fns_eq : fnsOf tab = fns := rfl
theorem ok0 : DEOk fns dats blts de0 := ⟨⟨rfl, rfl, rfl, by decide +kernel, by decide +kernel, by decide +kernel, by decide +kernel⟩, fun _ _ _ _ _ _ us hl => match us, hl with | [_, _], _ => rfl, by kernel_rfl⟩
theorem ok1 : DEOk fns dats blts de1 := ⟨⟨rfl, rfl, rfl, by decide +kernel, by decide +kernel, by decide +kernel, by decide +kernel⟩, fun _ _ _ _ _ _ us hl => match us, hl with | [_], _ => rfl, by kernel_rfl⟩
theorem ok2 : DEOk fns dats blts de2 := ⟨⟨rfl, rfl, rfl, by decide +kernel, by decide +kernel, by decide +kernel, by decide +kernel⟩, fun _ _ _ _ _ _ us hl => match us, hl with | [_], _ => rfl, by kernel_rfl⟩
theorem ok3 : DEOk fns dats blts de3 := ⟨⟨rfl, rfl, rfl, by decide +kernel, by decide +kernel, by decide +kernel, by decide +kernel⟩, fun _ _ _ _ _ _ us hl => match us, hl with | [], _ => rfl, by kernel_rfl⟩
theorem ok4 : DEOk fns dats blts de4 := ⟨⟨rfl, rfl, rfl, by decide +kernel, by decide +kernel, by decide +kernel, by decide +kernel⟩, fun _ _ _ _ _ _ us hl => match us, hl with | [_, _, _], _ => rfl, by kernel_rfl⟩
theorem ok5 : DEOk fns dats blts de5 := ⟨⟨rfl, rfl, rfl, by decide +kernel, by decide +kernel, by decide +kernel, by decide +kernel⟩, fun _ _ _ _ _ _ us hl => match us, hl with | [_, _, _], _ => rfl, by kernel_rfl⟩
theorem ok6 : DEOk fns dats blts de6 := ⟨⟨rfl, rfl, rfl, by decide +kernel, by decide +kernel, by decide +kernel, by decide +kernel⟩, fun _ _ _ _ _ _ us hl => match us, hl with | [_, _, _], _ => rfl, by kernel_rfl⟩
theorem ok7 : DEOk fns dats blts de7 := ⟨⟨rfl, rfl, rfl, by decide +kernel, by decide +kernel, by decide +kernel, by decide +kernel⟩, fun _ _ _ _ _ _ us hl => match us, hl with | [_, _, _], _ => rfl, by kernel_rfl⟩
theorem ok8 : DEOk fns dats blts de8 := ⟨⟨rfl, rfl, rfl, by decide +kernel, by decide +kernel, by decide +kernel, by decide +kernel⟩, fun _ _ _ _ _ _ us hl => match us, hl with | [_, _, _], _ => rfl, by kernel_rfl⟩
theorem ok9 : DEOk fns dats blts de9 := ⟨⟨rfl, rfl, rfl, by decide +kernel, by decide +kernel, by decide +kernel, by decide +kernel⟩, fun _ _ _ _ _ _ us hl => match us, hl with | [_, _, _], _ => rfl, by kernel_rfl⟩
theorem ok10 : DEOk fns dats blts de10 := ⟨⟨rfl, rfl, rfl, by decide +kernel, by decide +kernel, by decide +kernel, by decide +kernel⟩, fun _ _ _ _ _ _ us hl => match us, hl with | [_, _, _], _ => rfl, by kernel_rfl⟩
theorem ok11 : DEOk fns dats blts de11 := ⟨⟨rfl, rfl, rfl, by decide +kernel, by decide +kernel, by decide +kernel, by decide +kernel⟩, fun _ _ _ _ _ _ us hl => match us, hl with | [_, _], _ => rfl, by kernel_rfl⟩
theorem ok12 : DEOk fns dats blts de12 := ⟨⟨rfl, rfl, rfl, by decide +kernel, by decide +kernel, by decide +kernel, by decide +kernel⟩, fun _ _ _ _ _ _ us hl => match us, hl with | [_, _, _], _ => rfl, by kernel_rfl⟩
theorem ok13 : DEOk fns dats blts de13 := ⟨⟨rfl, rfl, rfl, by decide +kernel, by decide +kernel, by decide +kernel, by decide +kernel⟩, fun _ _ _ _ _ _ us hl => match us, hl with | [_], _ => rfl, by kernel_rfl⟩
theorem ok14 : DEOk fns dats blts de14 := ⟨⟨rfl, rfl, rfl, by decide +kernel, by decide +kernel, by decide +kernel, by decide +kernel⟩, fun _ _ _ _ _ _ us hl => match us, hl with | [_], _ => rfl, by kernel_rfl⟩
theorem ok15 : DEOk fns dats blts de15 := ⟨⟨rfl, rfl, rfl, by decide +kernel, by decide +kernel, by decide +kernel, by decide +kernel⟩, fun _ _ _ _ _ _ us hl => match us, hl with | [_], _ => rfl, by kernel_rfl⟩
theorem ok16 : DEOk fns dats blts de16 := ⟨⟨rfl, rfl, rfl, by decide +kernel, by decide +kernel, by decide +kernel, by decide +kernel⟩, fun _ _ _ _ _ _ us hl => match us, hl with | [_, _], _ => rfl, by kernel_rfl⟩
theorem ok17 : DEOk fns dats blts de17 := ⟨⟨rfl, rfl, rfl, by decide +kernel, by decide +kernel, by decide +kernel, by decide +kernel⟩, fun _ _ _ _ _ _ us hl => match us, hl with | [_, _, _], _ => rfl, by kernel_rfl⟩
theorem ok18 : DEOk fns dats blts de18 := ⟨⟨rfl, rfl, rfl, by decide +kernel, by decide +kernel, by decide +kernel, by decide +kernel⟩, fun _ _ _ _ _ _ us hl => match us, hl with | [_], _ => rfl, by kernel_rfl⟩
theorem ok19 : DEOk fns dats blts de19 := ⟨⟨rfl, rfl, rfl, by decide +kernel, by decide +kernel, by decide +kernel, by decide +kernel⟩, fun _ _ _ _ _ _ us hl => match us, hl with | [_], _ => rfl, by kernel_rfl⟩
theorem tab_ok : tabOk (PG fd_law) tab dats blts := by
  unfold tabOk
  rw [fns_eq]
  intro d hd
  simp only [tab, List.mem_cons, List.not_mem_nil, or_false] at hd
  rcases hd with rfl | rfl | rfl | rfl | rfl | rfl | rfl | rfl | rfl | rfl | rfl | rfl | rfl | rfl | rfl | rfl | rfl | rfl | rfl | rfl
  · exact ⟨ok0, rfl⟩
  · exact ⟨ok1, rfl⟩
  · exact ⟨ok2, rfl⟩
  · exact ⟨ok3, rfl⟩
  · exact ⟨ok4, rfl⟩
  · exact ⟨ok5, rfl⟩
  · exact ⟨ok6, rfl⟩
  · exact ⟨ok7, rfl⟩
  · exact ⟨ok8, rfl⟩
  · exact ⟨ok9, rfl⟩
  · exact ⟨ok10, rfl⟩
  · exact ⟨ok11, rfl⟩
  · exact ⟨ok12, rfl⟩
  · exact ⟨ok13, rfl⟩
  · exact ⟨ok14, rfl⟩
  · exact ⟨ok15, rfl⟩
  · exact ⟨ok16, rfl⟩
  · exact ⟨ok17, rfl⟩
  · exact ⟨ok18, rfl⟩
  · exact ⟨ok19, rfl⟩
end Lw
set_option Elab.async false
set_option linter.all false
set_option maxRecDepth 100000
namespace Lw
open Ev
theorem run_fd {P : Nat → Option FD} {k f : Nat} {fd : FD} {ds : List D} {S : Store} (h : P f = some fd) (hl : ds.length = fd.np) : run P (k + 1) f ds S = endD (exs (run P k) fd.body (start0 fd.ns ds) S) := by
  rw [run, h]
  exact if_pos hl
/-! ### plain tools -/
@[simp] theorem ok_bind {α β : Type} {a : α} {S : Store} {f : α → Store → Out β} : (Out.ok a S).bind f = f a S := rfl
@[simp] theorem ok_thn {α : Type} {ρ : Env} {a : α} {S : Store} {f : α → Store → SOut} : Out.thn ρ (Out.ok a S) f = f a S := rfl
@[simp] theorem ok_gcO {n : Nat} {d : D} {S : Store} : gcO n (.ok d S) = gc n d S := rfl
@[simp] theorem ev_dat {F : Nat → List D → Store → Out D} {d : D} {ρ : Env} {S : Store} : ev F (.dat d) ρ S = .ok d S := rfl
theorem ev_cmp {F : Nat → List D → Store → Out D} {op : Cop} {a b : Ex} {ρ : Env} {S : Store} : ev F (.cmp op a b) ρ S = (ev F a ρ S).bind fun x S => (ev F b ρ S).bind fun y S => cmpD op x y S := rfl
theorem ev_bin {F : Nat → List D → Store → Out D} {op : Bop} {a b : Ex} {ρ : Env} {S : Store} : ev F (.bin op a b) ρ S = (ev F a ρ S).bind fun x S => (ev F b ρ S).bind fun y S => binD op x y S := rfl
theorem ev_call {F : Nat → List D → Store → Out D} {f : Nat} {es : Exs} {ρ : Env} {S : Store} : ev F (.call f es) ρ S = (evs F es ρ S).bind fun ds S => callF F f ds S := rfl
theorem ev_bi {F : Nat → List D → Store → Out D} {f : Bi} {es : Exs} {ρ : Env} {S : Store} : ev F (.bi f es) ρ S = (evs F es ρ S).bind fun ds S => biD f ds S := rfl
theorem ev_var {F : Nat → List D → Store → Out D} {i : Nat} {ρ : Env} {S : Store} {d : D} (h : ρ[i]? = some (some d)) : ev F (.var i) ρ S = .ok d S := by rw [ev, h]
theorem evs_cons {F : Nat → List D → Store → Out D} {e : Ex} {es : Exs} {ρ : Env} {S : Store} : evs F (.cons e es) ρ S = (ev F e ρ S).bind fun d S => (evs F es ρ S).bind fun ds S => .ok (d :: ds) S := rfl
@[simp] theorem evs_nil {F : Nat → List D → Store → Out D} {ρ : Env} {S : Store} : evs F .nil ρ S = .ok [] S := rfl
@[simp] theorem gc_nil {d : D} : gc 0 d [] = .ok d [] := rfl
/-- a def's value -/
def Gives (F : Nat → List D → Store → Out D) (f : Nat) (ds : List D) (d : D) : Prop := ∃ S', F f ds [] = .ok d S'
theorem callF_ok {F : Nat → List D → Store → Out D} {f : Nat} {ds : List D} {S : Store} {d : D} (hp : D.pureAll ds = true) (h : Gives F f ds d) (hd : d.pure = true) : callF F f ds S = .ok d S := by
  obtain ⟨S', h⟩ := h
  unfold callF impD
  rw [if_pos hp, h]
  exact if_pos hd
/-- .. a new list -/
def GivesL (F : Nat → List D → Store → Out D) (f : Nat) (ds : List D) (xs : List D) : Prop := ∃ S' j, F f ds [] = .ok (.loc j) S' ∧ S'[j]? = some (.lst xs)
theorem callF_lst {F : Nat → List D → Store → Out D} {f : Nat} {ds : List D} {S : Store} {xs : List D} (hp : D.pureAll ds = true) (h : GivesL F f ds xs) : callF F f ds S = .ok (.loc S.length) (S ++ [.lst xs]) := by
  obtain ⟨S', j, h, hd⟩ := h
  unfold callF impD
  rw [if_pos hp, h]
  simp [D.pure, hd]
theorem compLoop_pure {turn : D → Store → Out (Option D)} {g : D → Option D} {S : Store} : ∀ {xs : List D}, (∀ x ∈ xs, turn x S = .ok (g x) S) → compLoop turn xs S = .ok (xs.filterMap g) S
  | [], _ => rfl
  | x :: xs, h => by
    rw [compLoop, h x List.mem_cons_self]
    simp only [Out.bind]
    rw [compLoop_pure fun y hy => h y (List.mem_cons_of_mem _ hy)]
    simp only [List.filterMap_cons]
    cases g x <;> rfl
/-- a comprehension's turn; a loop's turn -/
def compTurn (F : Nat → List D → Store → Out D) (elt : Ex) (tg : Tg) (test : Ex) (ρ : Env) (x : D) (S : Store) : Out (Option D) := match putTg ρ tg x with
  | some ρ' => (ev F test ρ' S).bind fun t S1 => (match truth S1 t with
    | some true => (gcO S.length (ev F elt ρ' S1)).bind fun d S2 => if d.pure then .ok (some d) S2 else .bad
    | some false => (gc S.length .non S1).bind fun _ S2 => .ok none S2
    | none => .bad)
  | none => .bad
theorem ev_comp {F : Nat → List D → Store → Out D} {elt test : Ex} {tg : Tg} {it : It} {ρ : Env} {S : Store} : ev F (.comp elt tg it test) ρ S = (evIt F it ρ S).bind fun w S => (lockEnd w.lock (noexc (compLoop (compTurn F elt tg test ρ) w.xs S))).bind newL := rfl
theorem comp_of {F : Nat → List D → Store → Out D} {elt test : Ex} {tg : Tg} {it : It} {ρ : Env} {S : Store} {xs ys : List D} {g : D → Option D} (hi : evIt F it ρ S = .ok ⟨xs, none⟩ S) (h : ∀ x ∈ xs, compTurn F elt tg test ρ x S = .ok (g x) S)
    (hy : xs.filterMap g = ys) (hp : D.pureAll ys = true) (hl : ys.length ≤ 1000000) : ev F (.comp elt tg it test) ρ S = .ok (.loc S.length) (S ++ [.lst ys]) := by
  rw [ev_comp, hi]
  simp only [Out.bind]
  rw [compLoop_pure h, hy]
  simp only [noexc, lockEnd, unlock, newL]
  rw [if_pos]
  rw [hp, show szOk ys.length = true from decide_eq_true (by unfold lineN; omega)]
  rfl
def loopTurn (F : Nat → List D → Store → Out D) (tg : Tg) (body : Sms) (sc : Bool) (x : D) (ρ : Env) (S : Store) : SOut := match putTg ρ tg x with
  | some ρ' => if sc then scopeEnd S.length (exs F body ρ' S) else exs F body ρ' S
  | none => .bad
theorem ex_loop {F : Nat → List D → Store → Out D} {tg : Tg} {it : It} {body : Sms} {sc : Bool} {ρ : Env} {S : Store} : ex F (.loop tg it body sc) ρ S = (evIt F it ρ S).thn ρ fun w S => lockEndS w.lock (forLoop (loopTurn F tg body sc) w.xs ρ S) := rfl
theorem upFrom_eq (n : Nat) : ∀ i : Int, upFrom i n = (List.range n).map fun (j : Nat) => D.int (i + j) := by
  induction n with
  | zero => intro i; rfl
  | succ n ih =>
    intro i
    rw [upFrom, ih, List.range_succ_eq_map, List.map_cons, List.map_map]
    congr 1
    · simp
    · apply List.map_congr_left
      intro j _
      simp only [Function.comp, D.int.injEq]
      omega
theorem forLoop_inv {turn : D → Env → Store → SOut} {n : Nat} (I : Nat → Env → Store → Prop) : ∀ {xs : List D} {i : Nat} {ρ : Env} {S : Store}, I i ρ S → i + xs.length ≤ n → (∀ x ∈ xs, ∀ i ρ S, i < n → I i ρ S → ∃ ρ' S', turn x ρ S = .nx ρ' S' ∧ I (i + 1) ρ' S') →
    ∃ ρ' S', forLoop turn xs ρ S = .nx ρ' S' ∧ I (i + xs.length) ρ' S'
  | [], i, ρ, S, h0, _, _ => ⟨ρ, S, rfl, h0⟩
  | x :: xs, i, ρ, S, h0, hb, st => by
    rw [List.length_cons] at hb
    obtain ⟨ρ1, S1, e, h1⟩ := st x List.mem_cons_self i ρ S (by omega) h0
    obtain ⟨ρ2, S2, e2, h2⟩ := forLoop_inv (n := n) I (i := i + 1) h1 (by omega) (fun y hy => st y (List.mem_cons_of_mem _ hy))
    refine ⟨ρ2, S2, ?_, ?_⟩
    · rw [forLoop, e]
      exact e2
    · have : i + (x :: xs).length = i + 1 + xs.length := by rw [List.length_cons]; omega
      rw [this]
      exact h2
theorem exs_cons {F : Nat → List D → Store → Out D} {s : Sm} {r : Sms} {ρ ρ1 : Env} {S S1 : Store} (h : ex F s ρ S = .nx ρ1 S1) : exs F (.cons s r) ρ S = exs F r ρ1 S1 := by
  rw [exs, h]
theorem szOk_le {n : Nat} (h : n ≤ 1000000) : szOk n = true := decide_eq_true (by unfold lineN; omega)
@[simp] theorem pureAll_ints (ns : List Int) : D.pureAll (ns.map D.int) = true := by
  induction ns with
  | nil => rfl
  | cons n ns ih => rw [List.map_cons, D.pureAll, ih]; rfl
theorem gc_same {d : D} {S : Store} : gc S.length d S = .ok d S := by
  unfold gc
  rw [if_pos (by simp)]
/-! ### draws -/
def mixF (c p m : Int) : Int := (c * 48271 % p) * (c * 48271 % p + 7) % p % m
theorem mixF_nn {c p m : Int} (hm : 0 < m) : 0 ≤ mixF c p m := Int.emod_nonneg _ (by omega)
theorem mixF_lt {c p m : Int} (hm : 0 < m) : mixF c p m < m := Int.emod_lt_of_pos _ hm
variable {L : FD} {k : Nat}
theorem r_mix {c p m : Int} (hp : 0 < p) (hp2 : p < 100000) (hm : 0 < m) : run (PG L) (k + 1) 8 [.int c, .int p, .int m] [] = .ok (.int (mixF c p m)) [] := by
  rw [run_fd (fd := fd__law_mix) rfl rfl]
  have b1 : 0 ≤ c * 48271 % p := Int.emod_nonneg _ (by omega)
  have b2 : c * 48271 % p < p := Int.emod_lt_of_pos _ hp
  have b3 : sm64 (c * 48271 % p) = true := by unfold sm64; rw [Bool.and_eq_true]; constructor <;> apply decide_eq_true <;> omega
  have b4 : sm64 48271 = true := by decide
  simp [fd__law_mix, sm__law_mix, exs, ex, ev, start0, gc, binD, mulD, addD, modD, hp, hm, b3, b4, endD, mixF]
theorem c_mix {c p m : Int} {S : Store} (hp : 0 < p) (hp2 : p < 100000) (hm : 0 < m) : callF (run (PG L) (k + 1)) 8 [.int c, .int p, .int m] S = .ok (.int (mixF c p m)) S := callF_ok rfl ⟨_, r_mix hp hp2 hm⟩ rfl
def cellF (ns : List Int) (j : Int) : Int := if j < ns.length then ns.getD j.toNat 0 else 0
theorem r_cell {ns : List Int} {j : Int} (hj : 0 ≤ j) : run (PG L) (k + 1) 7 [.lit (ns.map .int), .int j] [] = .ok (.int (cellF ns j)) [] := by
  rw [run_fd (fd := fd__law_cell) rfl rfl]
  unfold cellF
  by_cases h : j < ns.length
  · have h2 : j.toNat < ns.length := by omega
    simp [fd__law_cell, sm__law_cell, exs, ex, ev, evs, start0, gc, cmpD, cmpO, ltO, blO, biD, one, lenD, seqOf, listOf, truth, h, idxD, atZ, hj, retO, endD, h2]
  · simp [fd__law_cell, sm__law_cell, exs, ex, ev, evs, start0, gc, cmpD, cmpO, ltO, blO, biD, one, lenD, seqOf, listOf, truth, h, endD]
theorem c_cell {ns : List Int} {j : Int} {S : Store} (hj : 0 ≤ j) : callF (run (PG L) (k + 1)) 7 [.lit (ns.map .int), .int j] S = .ok (.int (cellF ns j)) S := callF_ok (by simp [D.pureAll, D.pure]) ⟨_, r_cell hj⟩ rfl
/-! ### hosts -/
def lab (j : Int) : List Nat := [[97], [98], [97, 98], [120], [99]].getD j.toNat []
def labs (c : Int) : List (List Nat) := (List.range (1 + mixF c 9967 3).toNat).map fun (i : Nat) => lab (mixF (c + 7 * (i : Int)) 9973 5)
def hostF (c : Int) : List Nat := joinN [46] (labs c)
theorem strsOf_map (ss : List (List Nat)) : strsOf (ss.map D.str) = some ss := by
  induction ss with
  | nil => rfl
  | cons s ss ih => rw [List.map_cons, strsOf, ih]; rfl
@[simp] theorem pureAll_strs (ss : List (List Nat)) : D.pureAll (ss.map D.str) = true := by
  induction ss with
  | nil => rfl
  | cons n ns ih => rw [List.map_cons, D.pureAll, ih]; rfl
theorem lab_at {j : Int} (h0 : 0 ≤ j) (h : j < 5) : atZ [D.str [97], D.str [98], D.str [97, 98], D.str [120], D.str [99]] j = some (.str (lab j)) := by
  have : j = 0 ∨ j = 1 ∨ j = 2 ∨ j = 3 ∨ j = 4 := by omega
  rcases this with h | h | h | h | h <;> subst h <;> rfl
theorem lab_len (j : Int) : (lab j).length ≤ 2 := by
  unfold lab
  rcases h : j.toNat with _ | _ | _ | _ | _ | n <;> simp
theorem labs_len (c : Int) : 1 ≤ (labs c).length ∧ (labs c).length ≤ 3 := by
  have h1 := mixF_nn (c := c) (p := 9967) (m := 3) (by omega)
  have h2 := mixF_lt (c := c) (p := 9967) (m := 3) (by omega)
  unfold labs
  rw [List.length_map, List.length_range]
  omega
theorem labs_sum (c : Int) : ((labs c).map List.length).sum ≤ 2 * (labs c).length := by
  unfold labs
  generalize List.range (1 + mixF c 9967 3).toNat = l
  induction l with
  | nil => simp
  | cons x xs ih =>
    simp only [List.map_cons, List.sum_cons, List.length_cons] at ih ⊢
    have := lab_len (mixF (c + 7 * x) 9973 5)
    omega
theorem r_host {c : Int} : Gives (run (PG L) (k + 2)) 10 [.int c] (.str (hostF c)) := by
  refine ⟨[.lst ((labs c).map D.str)], ?_⟩
  rw [run_fd (fd := fd__law_host) rfl rfl]
  have h1 := mixF_nn (c := c) (p := 9967) (m := 3) (by omega)
  have h2 := mixF_lt (c := c) (p := 9967) (m := 3) (by omega)
  have s1 : sm62 (1 + mixF c 9967 3) = true := by unfold sm62; rw [Bool.and_eq_true]; constructor <;> apply decide_eq_true <;> omega
  have hl := labs_len c
  have hs := labs_sum c
  have b2 : ((labs c).map List.length).sum + (labs c).length ≤ lineN := by unfold lineN; omega
  have b4 : sm64 7 = true := by decide
  show endD (exs _ sm__law_host [some (.int c), none, none] []) = _
  unfold sm__law_host
  rw [exs, ex, comp_of (xs := upFrom 0 (1 + mixF c 9967 3).toNat) (ys := (labs c).map D.str) (g := fun x => match x with | .int i => some (.str (lab (mixF (c + 7 * i) 9973 5))) | _ => none) ?h1 ?h2 ?h3 (pureAll_strs _) (by rw [List.length_map]; omega)]
  case h1 => simp [evIt, ev, evs, c_mix, binD, addD, range1D, s1]
  case h2 =>
    intro x hx
    rw [upFrom_eq] at hx
    obtain ⟨i, hi, rfl⟩ := List.mem_map.mp hx
    simp [compTurn, putTg, ev, evs, truth, gc, binD, addD, mulD, b4, szOk_le, c_mix, idxD, retO, lab_at, mixF_nn, mixF_lt, D.pure]
  case h3 =>
    rw [upFrom_eq, List.filterMap_map, labs, List.map_map, ← List.filterMap_eq_map]
    congr 1
    funext i
    simp [Function.comp]
  simp [gc, closedS, D.low, exs, ex, ev, evs, tyOk, isStr, methD, one, joinD, seqOf, listOf, strsOf_map, b2, endD, hostF]
theorem c_host {c : Int} {S : Store} : callF (run (PG L) (k + 2)) 10 [.int c] S = .ok (.str (hostF c)) S := callF_ok rfl r_host rfl
/-! ### picks -/
def pickS (xs : List (List Nat)) (j : Int) : List Nat := xs.getD j.toNat []
theorem atZ_str {xs : List (List Nat)} {ds : List D} {j : Int} (h : ds = xs.map D.str) (h0 : 0 ≤ j) (h1 : j < xs.length) : atZ ds j = some (.str (pickS xs j)) := by
  subst h
  have h2 : j.toNat < xs.length := by omega
  unfold atZ pickS
  rw [if_pos h0, if_pos (by rw [List.length_map]; exact h1), List.getElem?_map, List.getElem?_eq_getElem h2]
  simp [h2]
theorem pickS_mem {xs : List (List Nat)} {j : Int} (h0 : 0 ≤ j) (h1 : j < xs.length) : pickS xs j ∈ xs := by
  have h2 : j.toNat < xs.length := by omega
  unfold pickS
  rw [List.getD_eq_getElem?_getD, List.getElem?_eq_getElem h2]
  exact List.getElem_mem _
def pickI (xs : List Int) (j : Int) : Int := xs.getD j.toNat 0
theorem atZ_int {xs : List Int} {ds : List D} {j : Int} (h : ds = xs.map D.int) (h0 : 0 ≤ j) (h1 : j < xs.length) : atZ ds j = some (.int (pickI xs j)) := by
  subst h
  have h2 : j.toNat < xs.length := by omega
  unfold atZ pickI
  rw [if_pos h0, if_pos (by rw [List.length_map]; exact h1), List.getElem?_map, List.getElem?_eq_getElem h2]
  simp [h2]
theorem pickI_mem {xs : List Int} {j : Int} (h0 : 0 ≤ j) (h1 : j < xs.length) : pickI xs j ∈ xs := by
  have h2 : j.toNat < xs.length := by omega
  unfold pickI
  rw [List.getD_eq_getElem?_getD, List.getElem?_eq_getElem h2]
  exact List.getElem_mem _
/-! ### paths -/
def plabs : List (List Nat) := [[97], [98], [97, 98], [98, 97]]
def parts (c : Int) : List (List Nat) := (List.range (mixF c 9941 4).toNat).map fun (i : Nat) => pickS plabs (mixF (c + 11 * (i : Int)) 9949 4)
def pathF (c : Int) : List Nat := [47] ++ joinN [47] (parts c)
theorem parts_len (c : Int) : (parts c).length ≤ 3 := by
  have h1 := mixF_nn (c := c) (p := 9941) (m := 4) (by omega)
  have h2 := mixF_lt (c := c) (p := 9941) (m := 4) (by omega)
  unfold parts
  rw [List.length_map, List.length_range]
  omega
theorem parts_mem (c : Int) : ∀ s ∈ parts c, s ∈ plabs := by
  intro s hs
  obtain ⟨i, _, rfl⟩ := List.mem_map.mp hs
  exact pickS_mem (mixF_nn (by omega)) (mixF_lt (by omega))
theorem labs_mem (c : Int) : ∀ s ∈ labs c, s ∈ [[97], [98], [97, 98], [120], [99]] := by
  intro s hs
  obtain ⟨i, _, rfl⟩ := List.mem_map.mp hs
  exact pickS_mem (mixF_nn (by omega)) (mixF_lt (by omega))
theorem sum_le2 {ss : List (List Nat)} (h : ∀ s ∈ ss, s.length ≤ 2) : (ss.map List.length).sum ≤ 2 * ss.length := by
  induction ss with
  | nil => simp
  | cons x xs ih =>
    have := h x List.mem_cons_self
    have := ih fun s hs => h s (List.mem_cons_of_mem _ hs)
    simp only [List.map_cons, List.sum_cons, List.length_cons]
    omega
theorem parts_sum (c : Int) : ((parts c).map List.length).sum ≤ 2 * (parts c).length := sum_le2 fun s hs => by
  have := parts_mem c s hs
  simp only [plabs, List.mem_cons, List.not_mem_nil, or_false] at this
  rcases this with h | h | h | h <;> subst h <;> decide
theorem joinN_len (sep : List Nat) : ∀ ss : List (List Nat), (joinN sep ss).length ≤ (ss.map List.length).sum + ss.length * sep.length
  | [] => by simp [joinN]
  | [p] => by simp [joinN]
  | p :: q :: r => by
    have := joinN_len sep (q :: r)
    simp only [joinN, List.length_append, List.map_cons, List.sum_cons, List.length_cons, Nat.add_mul] at this ⊢
    omega
theorem r_path {c : Int} : Gives (run (PG L) (k + 2)) 11 [.int c] (.str (pathF c)) := by
  refine ⟨[.lst ((parts c).map D.str)], ?_⟩
  rw [run_fd (fd := fd__law_path) rfl rfl]
  have h1 := mixF_nn (c := c) (p := 9941) (m := 4) (by omega)
  have h2 := mixF_lt (c := c) (p := 9941) (m := 4) (by omega)
  have s1 : sm62 (mixF c 9941 4) = true := by unfold sm62; rw [Bool.and_eq_true]; constructor <;> apply decide_eq_true <;> omega
  have hl := parts_len c
  have hs := parts_sum c
  have hj := joinN_len [47] (parts c)
  have b2 : ((parts c).map List.length).sum + (parts c).length ≤ lineN := by unfold lineN; omega
  have b3 : szOk ((joinN [47] (parts c)).length + 1) = true := szOk_le (by simp at hj; omega)
  have b3' : szOk (1 + (joinN [47] (parts c)).length) = true := szOk_le (by simp at hj; omega)
  have b4 : sm64 11 = true := by decide
  show endD (exs _ sm__law_path [some (.int c), none, none] []) = _
  unfold sm__law_path
  rw [exs, ex, comp_of (xs := upFrom 0 (mixF c 9941 4).toNat) (ys := (parts c).map D.str) (g := fun x => match x with | .int i => some (.str (pickS plabs (mixF (c + 11 * i) 9949 4))) | _ => none) ?h1 ?h2 ?h3 (pureAll_strs _) (by rw [List.length_map]; omega)]
  case h1 => simp [evIt, ev, evs, c_mix, range1D, s1]
  case h2 =>
    intro x hx
    rw [upFrom_eq] at hx
    obtain ⟨i, hi, rfl⟩ := List.mem_map.mp hx
    have e := atZ_str (xs := plabs) (ds := [D.str [97], D.str [98], D.str [97, 98], D.str [98, 97]]) (j := mixF (c + 11 * (i : Int)) 9949 4) rfl (mixF_nn (by omega)) (mixF_lt (by omega))
    simp [compTurn, putTg, ev, evs, truth, gc, binD, addD, mulD, b4, szOk_le, c_mix, idxD, retO, e, D.pure]
  case h3 =>
    rw [upFrom_eq, List.filterMap_map, parts, List.map_map, ← List.filterMap_eq_map]
    congr 1
    funext i
    simp [Function.comp]
  simp [gc, closedS, D.low, exs, ex, ev, evs, tyOk, isStr, methD, one, joinD, seqOf, listOf, strsOf_map, b2, binD, addD, b3, b3', endD, pathF]
theorem c_path {c : Int} {S : Store} : callF (run (PG L) (k + 2)) 11 [.int c] S = .ok (.str (pathF c)) S := callF_ok rfl r_path rfl
/-! ### notes -/
structure NT where
  nm : List Nat
  vl : List Nat
  host : List Nat
  deep : Bool
  path : List Nat
  fin : Option Int
  safe : Bool
  side : List Nat
def finD : Option Int → D
  | none => .non
  | some i => .int i
def NT.d (n : NT) : D := .tup [.str n.nm, .str n.vl, .str n.host, .bl n.deep, .str n.path, finD n.fin, .bl n.safe, .str n.side]
@[simp] theorem finD_pure (o : Option Int) : (finD o).pure = true := by cases o <;> rfl
theorem NT.pure (n : NT) : n.d.pure = true := by simp [NT.d, D.pure, D.pureAll]
def nms : List (List Nat) := [[110], [107], [109]]
def vls : List (List Nat) := [[], [97], [98]]
def fins : List Int := [0, 1, 5, 9, 10, 98, 99]
def sides : List (List Nat) := [[111, 119, 110], [110, 101, 97, 114], [97, 110, 121]]
def noteF (c : Int) : NT := ⟨pickS nms (mixF c 9923 3), pickS vls (mixF c 9907 3), hostF (c + 1), mixF c 9901 2 == 0, pathF (c + 2), if mixF c 9931 3 = 0 then none else some (pickI fins (mixF c 9929 7)), mixF c 9887 3 == 0, pickS sides (mixF c 9883 3)⟩
theorem r_note {c : Int} : Gives (run (PG L) (k + 3)) 12 [.int c] (noteF c).d := by
  refine ⟨[], ?_⟩
  rw [run_fd (fd := fd__law_note) rfl rfl]
  have e1 := atZ_str (xs := nms) (ds := [D.str [110], D.str [107], D.str [109]]) (j := mixF c 9923 3) rfl (mixF_nn (by omega)) (mixF_lt (by omega))
  have e2 := atZ_str (xs := vls) (ds := [D.str [], D.str [97], D.str [98]]) (j := mixF c 9907 3) rfl (mixF_nn (by omega)) (mixF_lt (by omega))
  have e3 := atZ_str (xs := sides) (ds := [D.str [111, 119, 110], D.str [110, 101, 97, 114], D.str [97, 110, 121]]) (j := mixF c 9883 3) rfl (mixF_nn (by omega)) (mixF_lt (by omega))
  have e4 := atZ_int (xs := fins) (ds := [D.int 0, D.int 1, D.int 5, D.int 9, D.int 10, D.int 98, D.int 99]) (j := mixF c 9929 7) rfl (mixF_nn (by omega)) (mixF_lt (by omega))
  by_cases h : mixF c 9931 3 = 0
  · simp [fd__law_note, sm__law_note, exs, ex, ev, evs, start0, gc, c_mix, c_host, c_path, binD, addD, idxD, retO, e1, e2, e3, e4, cmpD, cmpO, eqS, der, D.pure, D.depth, eqD, blO, truth, szOk_le, endD, noteF, NT.d, h, finD]
  · have hb : (mixF c 9931 3 == 0) = false := by simpa using h
    simp [fd__law_note, sm__law_note, exs, ex, ev, evs, start0, gc, c_mix, c_host, c_path, binD, addD, idxD, retO, e1, e2, e3, e4, cmpD, cmpO, eqS, der, D.pure, D.depth, eqD, blO, truth, szOk_le, endD, noteF, NT.d, h, hb, finD]
theorem c_note {c : Int} {S : Store} : callF (run (PG L) (k + 3)) 12 [.int c] S = .ok (noteF c).d S := callF_ok rfl r_note (NT.pure _)
end Lw
set_option Elab.async false
set_option linter.all false
set_option maxRecDepth 100000
namespace Lw
open Ev
variable {L : FD} {k : Nat}
def hlabs : List (List Nat) := [[97], [98], [97, 98], [120], [99]]
structure HostOk (h : List Nat) : Prop where
  ex : ∃ ls, h = joinN [46] ls ∧ 1 ≤ ls.length ∧ ls.length ≤ 3 ∧ ∀ l ∈ ls, l ∈ hlabs
structure PathOk (p : List Nat) : Prop where
  ex : ∃ ps, p = [47] ++ joinN [47] ps ∧ ps.length ≤ 3 ∧ ∀ l ∈ ps, l ∈ plabs
theorem host_ok (c : Int) : HostOk (hostF c) := ⟨labs c, rfl, (labs_len c).1, (labs_len c).2, labs_mem c⟩
theorem path_ok (c : Int) : PathOk (pathF c) := ⟨parts c, rfl, parts_len c, parts_mem c⟩
structure NT.Ok (n : NT) : Prop where
  nm : n.nm ∈ nms
  vl : n.vl ∈ vls
  host : HostOk n.host
  path : PathOk n.path
  fin : n.fin = none ∨ ∃ i ∈ fins, n.fin = some i
  side : n.side ∈ sides
theorem note_ok (c : Int) : (noteF c).Ok where
  nm := pickS_mem (mixF_nn (by omega)) (mixF_lt (by omega))
  vl := pickS_mem (mixF_nn (by omega)) (mixF_lt (by omega))
  host := host_ok _
  path := path_ok _
  fin := by
    show (if mixF c 9931 3 = 0 then none else some (pickI fins (mixF c 9929 7))) = none ∨ ∃ i ∈ fins, (if mixF c 9931 3 = 0 then none else some (pickI fins (mixF c 9929 7))) = some i
    split
    · exact .inl rfl
    · exact .inr ⟨_, pickI_mem (mixF_nn (m := 7) (by omega)) (mixF_lt (m := 7) (by omega)), rfl⟩
  side := pickS_mem (mixF_nn (by omega)) (mixF_lt (by omega))
theorem hlab_len {l : List Nat} (h : l ∈ hlabs) : l.length ≤ 2 := by
  simp only [hlabs, List.mem_cons, List.not_mem_nil, or_false] at h
  rcases h with h | h | h | h | h <;> subst h <;> decide
theorem plab_len {l : List Nat} (h : l ∈ plabs) : l.length ≤ 2 := by
  simp only [plabs, List.mem_cons, List.not_mem_nil, or_false] at h
  rcases h with h | h | h | h <;> subst h <;> decide
theorem HostOk.len {h : List Nat} (o : HostOk h) : h.length ≤ 9 := by
  obtain ⟨ls, rfl, h1, h2, h3⟩ := o.ex
  have := joinN_len [46] ls
  have := sum_le2 fun s hs => hlab_len (h3 s hs)
  simp only [List.length_singleton] at *
  omega
theorem PathOk.len {h : List Nat} (o : PathOk h) : h.length ≤ 10 := by
  obtain ⟨ls, rfl, h2, h3⟩ := o.ex
  have := joinN_len [47] ls
  have := sum_le2 fun s hs => plab_len (h3 s hs)
  simp only [List.length_singleton, List.length_append] at *
  omega
/-! ### split, join -/
def noC (c : Nat) (l : List Nat) : Prop := ∀ x ∈ l, x ≠ c
theorem splitC_no {c : Nat} : ∀ {l : List Nat}, noC c l → splitC c l = [l]
  | [], _ => rfl
  | x :: r, h => by
    rw [splitC, if_neg (h x List.mem_cons_self), splitC_no fun y hy => h y (List.mem_cons_of_mem _ hy)]
theorem splitC_app {c : Nat} {r : List Nat} : ∀ {l : List Nat}, noC c l → splitC c (l ++ c :: r) = l :: splitC c r
  | [], _ => by
    rw [List.nil_append, splitC, if_pos rfl]
  | x :: l, h => by
    rw [List.cons_append, splitC, if_neg (h x List.mem_cons_self), splitC_app fun y hy => h y (List.mem_cons_of_mem _ hy)]
theorem split_join {c : Nat} : ∀ {ls : List (List Nat)}, ls ≠ [] → (∀ l ∈ ls, noC c l) → splitC c (joinN [c] ls) = ls
  | [], h, _ => absurd rfl h
  | [l], _, h => by rw [joinN]; exact splitC_no (h l (by simp))
  | l :: q :: r, _, h => by
    rw [joinN, List.singleton_append, splitC_app (h l (by simp)), split_join (by simp) fun y hy => h y (List.mem_cons_of_mem _ hy)]
theorem hlab_no {l : List Nat} (h : l ∈ hlabs) : noC 46 l := by
  simp only [hlabs, List.mem_cons, List.not_mem_nil, or_false] at h
  rcases h with h | h | h | h | h <;> subst h <;> intro x hx <;> simp at hx <;> omega
theorem plab_no {l : List Nat} (h : l ∈ plabs) : noC 47 l := by
  simp only [plabs, List.mem_cons, List.not_mem_nil, or_false] at h
  rcases h with h | h | h | h <;> subst h <;> intro x hx <;> simp at hx <;> omega
theorem plab_ne {l : List Nat} (h : l ∈ plabs) : l ≠ [] := by
  simp only [plabs, List.mem_cons, List.not_mem_nil, or_false] at h
  rcases h with h | h | h | h <;> subst h <;> simp
theorem join_snoc {c : Nat} {l : List Nat} : ∀ {ls : List (List Nat)}, ls ≠ [] → joinN [c] (ls ++ [l]) = joinN [c] ls ++ c :: l
  | [], h => absurd rfl h
  | [a], _ => by simp [joinN]
  | a :: b :: r, _ => by
    have := join_snoc (c := c) (l := l) (ls := b :: r) (by simp)
    rw [List.cons_append, List.cons_append, joinN, joinN, ← List.cons_append, this]
    simp
theorem join_nil {c : Nat} {ls : List (List Nat)} (h : ∀ l ∈ ls, l ≠ []) (e : joinN [c] ls = []) : ls = [] := by
  match ls, h, e with
  | [], _, _ => rfl
  | [a], h, e => exact absurd e (h a (by simp))
  | a :: b :: r, _, e => simp [joinN] at e
theorem split_path {ps : List (List Nat)} (h : ∀ l ∈ ps, l ∈ plabs) (hn : ps ≠ []) : splitC 47 ([47] ++ joinN [47] ps) = [] :: ps := by
  rw [List.singleton_append, splitC, if_pos rfl, split_join hn fun l hl => plab_no (h l hl)]
/-! ### marks, notes -/
def NT.mk3 (n : NT) : D := .tup [.str n.nm, .str n.host, .str n.path]
theorem r_mark {n : NT} : Gives (run (PG L) (k + 1)) 13 [n.d] n.mk3 := by
  refine ⟨[], ?_⟩
  rw [run_fd (fd := fd__law_mark) rfl rfl]
  simp [fd__law_mark, sm__law_mark, exs, ex, ev, evs, start0, NT.d, idxD, atZ, retO, szOk_le, endD, NT.mk3]
theorem c_mark {n : NT} {S : Store} : callF (run (PG L) (k + 1)) 13 [n.d] S = .ok n.mk3 S := callF_ok (by simp [D.pureAll, NT.pure]) r_mark rfl
def NT.key (n : NT) : List Nat × List Nat × List Nat := (n.nm, n.host, n.path)
theorem eqD_mk3 (a b : NT) : eqD a.mk3 b.mk3 = decide (a.key = b.key) := by
  rw [Bool.eq_iff_iff, decide_eq_true_iff]
  simp [NT.mk3, NT.key, eqD, eqDs]
@[simp] theorem pureAll_nts (ns : List NT) : D.pureAll (ns.map NT.d) = true := by
  induction ns with
  | nil => rfl
  | cons n ns ih => rw [List.map_cons, D.pureAll, ih, NT.pure]; rfl
theorem pureAll_mk3 (ns : List NT) : D.pureAll (ns.map NT.mk3) = true := by
  induction ns with
  | nil => rfl
  | cons n ns ih => rw [List.map_cons, D.pureAll, ih]; rfl
def ρN (c m i : Int) (n : NT) : Env := [some (.int c), some (.int m), some (.loc 0), some (.int i), some n.d, none]
def s2 : Sm := Sm.ife (Ex.and (Ex.cmp Cop.ne (Ex.var 2) (Ex.lst Exs.nil)) (Ex.cmp Cop.eq (Ex.call 8 (Exs.cons (Ex.bin Bop.add (Ex.var 0) (Ex.var 3)) (Exs.cons (Ex.dat (D.int 9859)) (Exs.cons (Ex.dat (D.int 2)) Exs.nil)))) (Ex.dat (D.int 0)))) (Sms.cons (Sm.asg 4 (Ex.bin Bop.add (Ex.bin Bop.add (Ex.slc (Ex.var 4) (Ex.dat D.non) (Ex.dat (D.int 2))) (Ex.tup (Exs.cons (Ex.idx (Ex.idx (Ex.var 2) (Ex.dat (D.int 0))) (Ex.dat (D.int 2))) Exs.nil))) (Ex.slc (Ex.var 4) (Ex.dat (D.int 3)) (Ex.dat D.non)))) Sms.nil) Sms.nil
theorem n_s2 {c m i : Int} {n : NT} {ns : List NT} (hn : n.Ok) (hs : ∀ r ∈ ns, r.Ok) : ∃ n', n'.Ok ∧ ex (run (PG L) (k + 1)) s2 (ρN c m i n) [.lst (ns.map NT.d)] = .nx (ρN c m i n') [.lst (ns.map NT.d)] := by
  have m1 : ∀ a, min a 1 ≤ 60 := fun a => by omega
  cases ns with
  | nil =>
    refine ⟨n, hn, ?_⟩
    simp [s2, ρN, ex, exs, ev, evs, newL, D.pureAll, szOk_le, cmpD, cmpO, eqS, der, D.depth, D.depthAll, eqD, eqDs, blO, truth, gc, closedS, MO.closed, D.low]
  | cons r0 rest =>
    by_cases h : mixF (c + i) 9859 2 = 0
    · refine ⟨{ n with host := r0.host }, { hn with host := (hs r0 (by simp)).host }, ?_⟩
      simp [s2, ρN, ex, exs, ev, evs, newL, D.pureAll, szOk_le, cmpD, cmpO, eqS, der, D.pure, D.depth, D.depthAll, m1, eqD, eqDs, blO, truth, gc, closedS, MO.closed, D.low, c_mix, binD, addD, h, slcD, partO, cutL, cutIx, idxD, atZ, retO, NT.d]
    · refine ⟨n, hn, ?_⟩
      have hb : (mixF (c + i) 9859 2 == 0) = false := by simpa using h
      simp [s2, ρN, ex, exs, ev, evs, newL, D.pureAll, szOk_le, cmpD, cmpO, eqS, der, D.pure, D.depth, D.depthAll, m1, eqD, eqDs, blO, truth, gc, closedS, MO.closed, D.low, c_mix, binD, addD, h, hb]
def putPath : Ex → Ex := fun e => (Ex.bin Bop.add (Ex.bin Bop.add (Ex.slc (Ex.var 4) (Ex.dat D.non) (Ex.dat (D.int 4))) (Ex.tup (Exs.cons e Exs.nil))) (Ex.slc (Ex.var 4) (Ex.dat (D.int 5)) (Ex.dat D.non)))
def s3a : Ex := (Ex.ife (Ex.cmp Cop.eq (Ex.idx (Ex.idx (Ex.var 2) (Ex.dat (D.int 0))) (Ex.dat (D.int 4))) (Ex.dat (D.str [47]))) (Ex.idx (Ex.idx (Ex.var 2) (Ex.dat (D.int 0))) (Ex.dat (D.int 4))) (Ex.bin Bop.add (Ex.idx (Ex.idx (Ex.var 2) (Ex.dat (D.int 0))) (Ex.dat (D.int 4))) (Ex.dat (D.str [47, 97]))))
def s3b : Ex := (Ex.ife (Ex.cmp Cop.lt (Ex.bi Bi.len (Exs.cons (Ex.meth Me.split (Ex.idx (Ex.var 4) (Ex.dat (D.int 4))) (Exs.cons (Ex.dat (D.str [47])) Exs.nil)) Exs.nil)) (Ex.dat (D.int 5))) (Ex.var 4) (putPath (Ex.dat (D.str [47]))))
def s3 : Sm := (Sm.ife (Ex.and (Ex.cmp Cop.ne (Ex.var 2) (Ex.lst Exs.nil)) (Ex.cmp Cop.eq (Ex.call 8 (Exs.cons (Ex.bin Bop.add (Ex.var 0) (Ex.var 3)) (Exs.cons (Ex.dat (D.int 9857)) (Exs.cons (Ex.dat (D.int 3)) Exs.nil)))) (Ex.dat (D.int 0)))) (Sms.cons (Sm.asg 4 (putPath s3a)) (Sms.cons (Sm.asg 4 s3b) Sms.nil)) Sms.nil)
theorem ex_ife {F : Nat → List D → Store → Out D} {t : Ex} {a b : Sms} {ρ : Env} {S S1 S2 : Store} {x : D} {q : Bool} (h : ev F t ρ S = .ok x S1) (ht : truth S1 x = some q) (hg : gc S.length .non S1 = .ok .non S2) : ex F (.ife t a b) ρ S = exs F (if q then a else b) ρ S2 := by
  rw [ex, h]
  simp only [ok_thn]
  rw [ht, hg]
  cases q <;> rfl
theorem ex_asg {F : Nat → List D → Store → Out D} {e : Ex} {i : Nat} {ρ : Env} {S S1 S2 : Store} {d d' : D} (h : ev F e ρ S = .ok d S1) (hg : gc S.length d S1 = .ok d' S2) (hi : i < ρ.length) : ex F (.asg i e) ρ S = .nx (ρ.set i (some d')) S2 := by
  rw [ex, h, ok_gcO, hg]
  exact if_pos hi
theorem gc_new {d : D} {S : Store} {o : MO} (hc : closedS S.length S = true) (hd : d.low S.length = true) : gc S.length d (S ++ [o]) = .ok d S := by
  unfold gc
  rw [if_neg (by simp), List.take_left, if_pos hc, if_pos hd]
theorem cond2 {c m i p q : Int} {n : NT} {ns : List NT} (hp : 0 < p) (hp2 : p < 100000) (hq : 0 < q) : ev (run (PG L) (k + 1)) (Ex.and (Ex.cmp Cop.ne (Ex.var 2) (Ex.lst Exs.nil)) (Ex.cmp Cop.eq (Ex.call 8 (Exs.cons (Ex.bin Bop.add (Ex.var 0) (Ex.var 3)) (Exs.cons (Ex.dat (D.int p)) (Exs.cons (Ex.dat (D.int q)) Exs.nil)))) (Ex.dat (D.int 0)))) (ρN c m i n) [.lst (ns.map NT.d)]
    = .ok (.bl (!ns.isEmpty && (mixF (c + i) p q == 0))) ([.lst (ns.map NT.d)] ++ [.lst []]) := by
  have m1 : ∀ a, min a 1 ≤ 60 := fun a => by omega
  cases ns with
  | nil => simp [ρN, ev, evs, newL, D.pureAll, szOk_le, cmpD, cmpO, eqS, der, D.depth, D.depthAll, eqD, eqDs, blO, truth]
  | cons r0 rest => simp [ρN, ev, evs, newL, D.pureAll, szOk_le, cmpD, cmpO, eqS, der, D.pure, D.depth, D.depthAll, m1, eqD, eqDs, blO, truth, c_mix, hp, hp2, hq, binD, addD]
theorem ev_putPath {F : Nat → List D → Store → Out D} {e : Ex} {c m i : Int} {n : NT} {S : Store} {p : List Nat} (h : ev F e (ρN c m i n) S = .ok (.str p) S) : ev F (putPath e) (ρN c m i n) S = .ok ({ n with path := p } : NT).d S := by
  have v : (ρN c m i n)[4]? = some (some n.d) := rfl
  simp [putPath, ev, evs, h, v, binD, addD, slcD, partO, cutL, cutIx, szOk_le, NT.d]
theorem low_d (n : NT) (j : Nat) : n.d.low j = true := by
  cases h : n.fin <;> simp [NT.d, D.low, D.lowAll, h, finD]
/-- the cut of too long a path -/
theorem n_s3b {F : Nat → List D → Store → Out D} {c m i : Int} {n : NT} {xs : List D} {ls : List (List Nat)} (hl : n.path.length ≤ 100) (hs : splitC 47 n.path = ls) (h2 : ls.length ≤ 100) : ∃ S1, ev F s3b (ρN c m i n) [.lst xs] = .ok (if ls.length < 5 then n else { n with path := [47] }).d S1 ∧ gc 1 (if ls.length < 5 then n else { n with path := [47] }).d S1 = .ok (if ls.length < 5 then n else { n with path := [47] }).d [.lst xs] := by
  have v : (ρN c m i n)[4]? = some (some n.d) := rfl
  have l2 : szOk (n.path.length + 2) = true := szOk_le (by omega)
  have q2 : szOk ls.length = true := szOk_le (by omega)
  have e1 : ∀ S, idxD n.d (.int 4) S = .ok (.str n.path) S := fun S => by simp [idxD, atZ, retO, NT.d]
  refine ⟨[.lst xs, .lst (ls.map D.str)], ?_, gc_new (S := [.lst xs]) rfl (low_d _ _)⟩
  unfold s3b
  have ec : ev F (Ex.cmp Cop.lt (Ex.bi Bi.len (Exs.cons (Ex.meth Me.split (Ex.idx (Ex.var 4) (Ex.dat (D.int 4))) (Exs.cons (Ex.dat (D.str [47])) Exs.nil)) Exs.nil)) (Ex.dat (D.int 5))) (ρN c m i n) [.lst xs] = .ok (.bl (decide (ls.length < 5))) [.lst xs, .lst (ls.map D.str)] := by
    have c5 : decide ((ls.length : Int) < 5) = decide (ls.length < 5) := by congr 1; apply propext; omega
    simp [ev, evs, v, e1, c5, tyOk, isStr, methD, one, splitD, l2, hs, newL, q2, biD, lenD, seqOf, listOf, cmpD, cmpO, ltO, blO]
  rw [ev, ec]
  simp only [ok_bind, truth]
  by_cases h5 : ls.length < 5
  · simp only [h5, decide_true, if_true]
    rfl
  · simp only [h5, decide_false, if_false]
    exact ev_putPath rfl
theorem n_s3 {c m i : Int} {n : NT} {ns : List NT} (hn : n.Ok) (hs : ∀ r ∈ ns, r.Ok) : ∃ n', n'.Ok ∧ ex (run (PG L) (k + 1)) s3 (ρN c m i n) [.lst (ns.map NT.d)] = .nx (ρN c m i n') [.lst (ns.map NT.d)] := by
  unfold s3
  rw [ex_ife (cond2 (p := 9857) (q := 3) (by omega) (by omega) (by omega)) rfl (gc_new (S := [.lst (ns.map NT.d)]) rfl rfl)]
  cases hc : (!ns.isEmpty && (mixF (c + i) 9857 3 == 0)) with
  | false => exact ⟨n, hn, rfl⟩
  | true =>
    rw [if_pos rfl]
    cases ns with
    | nil => exact nomatch hc
    | cons r0 rest =>
      have hlen := (hs r0 (by simp)).path.len
      have l1 : szOk (r0.path.length + 2) = true := szOk_le (by omega)
      have ix : ∀ n : NT, ev (run (PG L) (k + 1)) (Ex.idx (Ex.idx (Ex.var 2) (Ex.dat (D.int 0))) (Ex.dat (D.int 4))) (ρN c m i n) [.lst ((r0 :: rest).map NT.d)] = .ok (.str r0.path) [.lst ((r0 :: rest).map NT.d)] := fun n => by
        simp [ev, ρN, idxD, atZ, retO, NT.d]
      have main : ∀ (p : List Nat) (ls : List (List Nat)), p.length ≤ 100 → splitC 47 p = ls → ls.length ≤ 100 → ev (run (PG L) (k + 1)) s3a (ρN c m i n) [.lst ((r0 :: rest).map NT.d)] = .ok (.str p) [.lst ((r0 :: rest).map NT.d)] → (ls.length < 5 → PathOk p) →
          ∃ n', n'.Ok ∧ exs (run (PG L) (k + 1)) (Sms.cons (Sm.asg 4 (putPath s3a)) (Sms.cons (Sm.asg 4 s3b) Sms.nil)) (ρN c m i n) [.lst ((r0 :: rest).map NT.d)] = .nx (ρN c m i n') [.lst ((r0 :: rest).map NT.d)] := fun p ls g1 g2 g3 g4 g5 => by
        obtain ⟨S1, q1, q2⟩ := n_s3b (F := run (PG L) (k + 1)) (c := c) (m := m) (i := i) (n := { n with path := p }) (xs := (r0 :: rest).map NT.d) g1 g2 g3
        refine ⟨if ls.length < 5 then { n with path := p } else { n with path := [47] }, ?_, ?_⟩
        · split
          · rename_i h5
            exact { hn with path := g5 h5 }
          · exact { hn with path := ⟨[], rfl, by simp, by simp⟩ }
        · rw [exs_cons (ex_asg (i := 4) (ev_putPath g4) gc_same (by simp [ρN]))]
          show exs _ _ (ρN c m i { n with path := p }) _ = _
          rw [exs_cons (ex_asg (i := 4) q1 q2 (by simp [ρN]))]
          rfl
      obtain ⟨ps, hp, p1, p2⟩ := (hs r0 (by simp)).path.ex
      by_cases he : ps = []
      · subst he
        have e0 : r0.path = [47] := by rw [hp]; rfl
        refine main [47] [[], []] (by simp) rfl (by simp) ?_ fun _ => ⟨[], rfl, by simp, by simp⟩
        unfold s3a
        rw [ev, ev, ix, e0]
        simp [ev, cmpD, cmpO, eqS, der, D.pure, D.depth, eqD, blO, truth, -List.map_cons]
        rw [← e0]
        exact ix n
      · have ej : joinN [47] ps ≠ [] := fun z => he (join_nil (fun l hl => plab_ne (p2 l hl)) z)
        have e0 : (r0.path == [47]) = false := by
          rw [hp, beq_eq_false_iff_ne]
          intro z
          rw [List.singleton_append] at z
          exact ej (List.cons.inj z).2
        have e1 : r0.path ++ [47, 97] = [47] ++ joinN [47] (ps ++ [[97]]) := by
          rw [hp, join_snoc he]
          simp
        have e2 : ∀ l ∈ ps ++ [[97]], l ∈ plabs := by
          intro l hl
          rcases List.mem_append.mp hl with hl | hl
          · exact p2 l hl
          · rw [List.mem_singleton.mp hl]; decide
        refine main (r0.path ++ [47, 97]) ([] :: (ps ++ [[97]])) (by simp; omega) (by rw [e1, split_path e2 (by simp)]) (by simp; omega) ?_ fun h5 => ⟨ps ++ [[97]], e1, by simp at h5 ⊢; omega, e2⟩
        unfold s3a
        have e3 : eqD (.str r0.path) (.str [47]) = false := e0
        rw [ev, ev, ix]
        simp only [ok_bind, ev_dat]
        rw [show cmpD Cop.eq (D.str r0.path) (D.str [47]) [MO.lst (List.map NT.d (r0 :: rest))] = .ok (.bl false) [MO.lst (List.map NT.d (r0 :: rest))] by simp [cmpD, cmpO, eqS, der, D.pure, D.depth, e3, blO]]
        simp only [ok_bind, truth]
        rw [ev, ix]
        simp [ev, binD, addD, l1]
def s4 : Sm := (Sm.ife (Ex.cmp Cop.notin (Ex.call 13 (Exs.cons (Ex.var 4) Exs.nil)) (Ex.comp (Ex.call 13 (Exs.cons (Ex.var 5) Exs.nil)) (Tg.one 5) (It.of (Ex.var 2)) (Ex.dat (D.bl true)))) (Sms.cons (Sm.expr (Ex.meth Me.append (Ex.var 2) (Exs.cons (Ex.var 4) Exs.nil))) Sms.nil) Sms.nil)
theorem walk_lock {n : Nat} {S : Store} {j : Nat} {xs : List D} (h : S[j]? = some (.lst xs)) (hj : j < n) : walkOf n (.loc j) S = .ok ⟨xs, some j⟩ (S.set j (.frz xs)) := by
  unfold walkOf
  dsimp only
  rw [h]
  have : decide (n ≤ j) = false := decide_eq_false (by omega)
  simp [this]
/-- over a list that is locked meanwhile -/
theorem comp_lock {F : Nat → List D → Store → Out D} {elt test : Ex} {tg : Tg} {i j : Nat} {ρ : Env} {S : Store} {xs ys : List D} {g : D → Option D} (hi : ρ[i]? = some (some (.loc j))) (hj : S[j]? = some (.lst xs)) (h : ∀ x ∈ xs, compTurn F elt tg test ρ x (S.set j (.frz xs)) = .ok (g x) (S.set j (.frz xs)))
    (hy : xs.filterMap g = ys) (hp : D.pureAll ys = true) (hl : ys.length ≤ 1000000) : ev F (.comp elt tg (.of (.var i)) test) ρ S = .ok (.loc S.length) (S ++ [.lst ys]) := by
  have hlt : j < S.length := (List.getElem?_eq_some_iff.mp hj).1
  rw [ev_comp, evIt, ev, hi]
  simp only [ok_bind]
  rw [walk_lock hj hlt]
  simp only [ok_bind]
  rw [compLoop_pure h, hy]
  have e : unlock (some j) (S.set j (.frz xs)) = S := by
    unfold unlock
    dsimp only
    rw [List.getElem?_set_self hlt]
    simp only [unlockO, List.set_set]
    apply List.ext_getElem?
    intro m
    by_cases hm : j = m
    · subst hm
      rw [List.getElem?_set_self hlt, hj]
    · rw [List.getElem?_set_ne hm]
  simp only [noexc, lockEnd, ok_bind, newL, e]
  rw [if_pos]
  rw [hp, show szOk ys.length = true from decide_eq_true (by unfold lineN; omega)]
  rfl
theorem n_s4 {c m i : Int} {n : NT} {ns : List NT} (hn : n.Ok) (hl : ns.length ≤ 1000) : ex (run (PG L) (k + 1)) s4 (ρN c m i n) [.lst (ns.map NT.d)] = .nx (ρN c m i n) [.lst ((if n.key ∈ ns.map NT.key then ns else ns ++ [n]).map NT.d)] := by
  have hv : (ρN c m i n)[4]? = some (some n.d) := rfl
  have h2 : (ρN c m i n)[2]? = some (some (.loc 0)) := rfl
  have ec := comp_lock (F := run (PG L) (k + 1)) (elt := Ex.call 13 (Exs.cons (Ex.var 5) Exs.nil)) (test := Ex.dat (D.bl true)) (tg := .one 5) (i := 2) (j := 0) (ρ := ρN c m i n) (S := [.lst (ns.map NT.d)]) (xs := ns.map NT.d) (ys := ns.map NT.mk3)
    (g := fun x => match x with | .tup [a, _, b, _, d, _, _, _] => some (.tup [a, b, d]) | _ => none) h2 rfl (fun x hx => by
      obtain ⟨r, hr, rfl⟩ := List.mem_map.mp hx
      have e1 : putTg (ρN c m i n) (.one 5) r.d = some ((ρN c m i n).set 5 (some r.d)) := rfl
      have e2 : ((ρN c m i n).set 5 (some r.d))[5]? = some (some r.d) := rfl
      simp only [compTurn, e1, ev_dat, ok_bind, truth, ev, evs, e2, c_mark, ok_gcO, gc_same]
      rfl) (by
      rw [List.filterMap_map, ← List.filterMap_eq_map]
      rfl) (pureAll_mk3 _) (by rw [List.length_map]; omega)
  have hin : (ns.map NT.mk3).any (fun y => eqD y n.mk3) = decide (n.key ∈ ns.map NT.key) := by
    rw [Bool.eq_iff_iff, List.any_eq_true, decide_eq_true_iff]
    constructor
    · rintro ⟨x, hx, e⟩
      obtain ⟨r, hr, rfl⟩ := List.mem_map.mp hx
      rw [eqD_mk3, decide_eq_true_iff] at e
      rw [← e]
      exact List.mem_map_of_mem hr
    · intro h
      obtain ⟨r, hr, e⟩ := List.mem_map.mp h
      exact ⟨r.mk3, List.mem_map_of_mem hr, by rw [eqD_mk3, decide_eq_true_iff]; exact e⟩
  have et : ev (run (PG L) (k + 1)) (Ex.cmp Cop.notin (Ex.call 13 (Exs.cons (Ex.var 4) Exs.nil)) (Ex.comp (Ex.call 13 (Exs.cons (Ex.var 5) Exs.nil)) (Tg.one 5) (It.of (Ex.var 2)) (Ex.dat (D.bl true)))) (ρN c m i n) [.lst (ns.map NT.d)] = .ok (.bl (!decide (n.key ∈ ns.map NT.key))) ([.lst (ns.map NT.d)] ++ [.lst (ns.map NT.mk3)]) := by
    rw [ev_cmp, ev_call, evs_cons, ev_var hv]
    simp only [ok_bind, evs_nil, c_mark]
    rw [ec]
    simp only [ok_bind]
    have dp : decide (n.mk3.depth ≤ 60) = true := rfl
    have dr : der ([.lst (ns.map NT.d)] ++ [.lst (ns.map NT.mk3)]) n.mk3 = some n.mk3 := rfl
    have dl : der ([.lst (ns.map NT.d)] ++ [.lst (ns.map NT.mk3)]) (.loc 1) = some (.lit (ns.map NT.mk3)) := rfl
    have hi : inS ([.lst (ns.map NT.d)] ++ [.lst (ns.map NT.mk3)]) n.mk3 (.loc 1) = some (decide (n.key ∈ ns.map NT.key)) := by
      have : inS ([.lst (ns.map NT.d)] ++ [.lst (ns.map NT.mk3)]) n.mk3 (.loc 1) = some ((ns.map NT.mk3).any (fun y => eqD y n.mk3)) := rfl
      rw [this, hin]
    show blO ((inS ([.lst (ns.map NT.d)] ++ [.lst (ns.map NT.mk3)]) n.mk3 (.loc 1)).map (!·)) _ = _
    rw [hi]
    rfl
  unfold s4
  rw [ex_ife et rfl (gc_new (S := [.lst (ns.map NT.d)]) rfl rfl)]
  by_cases hm : n.key ∈ ns.map NT.key
  · simp only [hm, decide_true, if_true]
    rfl
  · simp only [hm, decide_false, if_false]
    have lt : ns.length < lineN := by unfold lineN; omega
    simp [exs, ex, ev, evs, hv, h2, tyOk, listOf, methD, one, appendD, NT.pure, lt, gc]
/-! ### the notes' loop -/
def sNote : Sms := .cons (Sm.asg 4 (Ex.call 12 (Exs.cons (Ex.bin Bop.add (Ex.var 0) (Ex.bin Bop.mul (Ex.dat (D.int 97)) (Ex.var 3))) Exs.nil))) (.cons s2 (.cons s3 (.cons s4 .nil)))
theorem sm_notes_eq : sm__law_notes = Sms.cons (Sm.asg 2 (Ex.lst Exs.nil)) (Sms.cons (Sm.loop (Tg.one 3) (It.range1 (Ex.call 8 (Exs.cons (Ex.var 0) (Exs.cons (Ex.dat (D.int 9871)) (Exs.cons (Ex.bin Bop.add (Ex.var 1) (Ex.dat (D.int 1))) Exs.nil))))) sNote false) (Sms.cons (Sm.ret (Ex.bi Bi.tuple (Exs.cons (Ex.var 2) Exs.nil))) Sms.nil)) := rfl
/-- good notes, no two of one mark -/
structure NtsOk (ns : List NT) : Prop where
  ok : ∀ n ∈ ns, n.Ok
  nd : (ns.map NT.key).Nodup
def INote (c m : Int) (j : Nat) (ρ : Env) (S : Store) : Prop := ∃ ns v3 v4, ρ = [some (.int c), some (.int m), some (.loc 0), v3, v4, none] ∧ S = [.lst (ns.map NT.d)] ∧ NtsOk ns ∧ ns.length ≤ j
theorem note_turn {c m i : Int} {j : Nat} {ρ : Env} {S : Store} (hj : j ≤ 900) (h : INote c m j ρ S) : ∃ ρ' S', loopTurn (run (PG L) (k + 3)) (.one 3) sNote false (.int i) ρ S = .nx ρ' S' ∧ INote c m (j + 1) ρ' S' := by
  obtain ⟨ns, v3, v4, rfl, rfl, hn, hl⟩ := h
  have b4 : sm64 97 = true := by decide
  obtain ⟨n2, o2, e2⟩ := n_s2 (L := L) (k := k + 2) (c := c) (m := m) (i := i) (note_ok (c + 97 * i)) hn.ok
  obtain ⟨n3, o3, e3⟩ := n_s3 (L := L) (k := k + 2) (c := c) (m := m) (i := i) o2 hn.ok
  have e4 := n_s4 (L := L) (k := k + 2) (c := c) (m := m) (i := i) (n := n3) (ns := ns) o3 (by omega)
  refine ⟨ρN c m i n3, [.lst ((if n3.key ∈ ns.map NT.key then ns else ns ++ [n3]).map NT.d)], ?_, ?_⟩
  · have p1 : putTg [some (.int c), some (.int m), some (.loc 0), v3, v4, none] (.one 3) (.int i) = some [some (.int c), some (.int m), some (.loc 0), some (.int i), v4, none] := rfl
    rw [loopTurn, p1]
    simp only [Bool.false_eq_true, if_false]
    unfold sNote
    rw [exs_cons (ρ1 := ρN c m i (noteF (c + 97 * i))) (S1 := [.lst (ns.map NT.d)]) ?a, exs_cons e2, exs_cons e3, exs_cons e4]
    · rfl
    case a => simp [ex, ev, evs, binD, mulD, addD, b4, c_note, gc, ρN]
  · refine ⟨if n3.key ∈ ns.map NT.key then ns else ns ++ [n3], some (.int i), some n3.d, rfl, rfl, ?_, ?_⟩
    · split
      · exact hn
      · rename_i hk
        refine ⟨fun n h => ?_, ?_⟩
        · rcases List.mem_append.mp h with h | h
          · exact hn.ok n h
          · rw [List.mem_singleton.mp h]; exact o3
        · rw [List.map_append, List.map_singleton, List.nodup_append]
          exact ⟨hn.nd, by simp, fun a ha b hb => by rw [List.mem_singleton.mp hb]; exact fun z => hk (z ▸ ha)⟩
    · split
      · omega
      · rw [List.length_append, List.length_singleton]; omega
theorem r_notes {c m : Int} (hm : 0 ≤ m) (hm2 : m ≤ 800) : ∃ ns, Gives (run (PG L) (k + 4)) 14 [.int c, .int m] (.tup (ns.map NT.d)) ∧ NtsOk ns ∧ ns.length ≤ m.toNat := by
  have h1 := mixF_nn (c := c) (p := 9871) (m := m + 1) (by omega)
  have h2 := mixF_lt (c := c) (p := 9871) (m := m + 1) (by omega)
  have s1 : sm62 (mixF c 9871 (m + 1)) = true := by unfold sm62; rw [Bool.and_eq_true]; constructor <;> apply decide_eq_true <;> omega
  have hlen : (upFrom 0 (mixF c 9871 (m + 1)).toNat).length = (mixF c 9871 (m + 1)).toNat := by rw [upFrom_eq]; simp
  obtain ⟨ρ', S', e, j⟩ := forLoop_inv (turn := loopTurn (run (PG L) (k + 3)) (.one 3) sNote false) (n := 801) (INote c m) (xs := upFrom 0 (mixF c 9871 (m + 1)).toNat) (i := 0) (ρ := [some (.int c), some (.int m), some (.loc 0), none, none, none]) (S := [.lst []])
    ⟨[], none, none, rfl, rfl, ⟨by simp, by simp⟩, by simp⟩ (by rw [hlen]; omega) (fun x hx j ρ S hj hI => by
      rw [upFrom_eq] at hx
      obtain ⟨i, hi, rfl⟩ := List.mem_map.mp hx
      exact note_turn (by omega) hI)
  obtain ⟨ns, v3, v4, rfl, rfl, hn, hl⟩ := j
  refine ⟨ns, ⟨[.lst (ns.map NT.d)], ?_⟩, hn, by rw [hlen] at hl; omega⟩
  rw [run_fd (fd := fd__law_notes) rfl rfl]
  show endD (exs _ sm__law_notes [some (.int c), some (.int m), none, none, none, none] []) = _
  rw [sm_notes_eq, exs_cons (ρ1 := [some (.int c), some (.int m), some (.loc 0), none, none, none]) (S1 := [.lst []]) (by simp [ex, ev, newL, D.pureAll, szOk_le, gc, closedS, D.low])]
  rw [exs_cons (ρ1 := [some (.int c), some (.int m), some (.loc 0), v3, v4, none]) (S1 := [.lst (ns.map NT.d)])]
  · simp [exs, ex, ev, evs, biD, one, tupleD, listOf, endD]
  · rw [ex_loop]
    have ei : evIt (run (PG L) (k + 3)) (It.range1 (Ex.call 8 (Exs.cons (Ex.var 0) (Exs.cons (Ex.dat (D.int 9871)) (Exs.cons (Ex.bin Bop.add (Ex.var 1) (Ex.dat (D.int 1))) Exs.nil))))) [some (.int c), some (.int m), some (.loc 0), none, none, none] [.lst []] = .ok ⟨upFrom 0 (mixF c 9871 (m + 1)).toNat, none⟩ [.lst []] := by
      have := c_mix (L := L) (k := k + 2) (c := c) (p := 9871) (m := m + 1) (S := [.lst []]) (by omega) (by omega) (by omega)
      simp [evIt, ev, evs, binD, addD, this, range1D, s1]
    rw [ei]
    simp only [ok_thn]
    rw [e]
    rfl
theorem c_notes {c m : Int} {S : Store} (hm : 0 ≤ m) (hm2 : m ≤ 800) : ∃ ns, callF (run (PG L) (k + 4)) 14 [.int c, .int m] S = .ok (.tup (ns.map NT.d)) S ∧ NtsOk ns ∧ ns.length ≤ m.toNat := by
  obtain ⟨ns, h1, h2, h3⟩ := r_notes (L := L) (k := k) (c := c) hm hm2
  exact ⟨ns, callF_ok rfl h1 (by simp [D.pure]), h2, h3⟩
end Lw
set_option Elab.async false
set_option linter.all false
set_option maxRecDepth 100000
namespace Lw
open Ev
variable {L : FD} {k : Nat}
theorem exs_rt {F : Nat → List D → Store → Out D} {s : Sm} {r : Sms} {ρ : Env} {S S1 : Store} {d : D} (h : ex F s ρ S = .rt d S1) : exs F (.cons s r) ρ S = .rt d S1 := by
  rw [exs, h]
theorem ex_ret {F : Nat → List D → Store → Out D} {e : Ex} {ρ : Env} {S S1 : Store} {d : D} (h : ev F e ρ S = .ok d S1) : ex F (.ret e) ρ S = .rt d S1 := by
  rw [ex, h]; rfl
/-! ### _law_same of one thing twice -/
mutual
def plainD : D → Bool
  | .non => true | .bl _ => true | .int _ => true | .str _ => true
  | .tup ds => decide (ds.length ≤ 100000) && plainAll ds
  | _ => false
def plainAll : List D → Bool
  | [] => true
  | d :: ds => plainD d && plainAll ds
end
mutual
theorem plainD.pure : ∀ {d : D}, plainD d = true → d.pure = true
  | .non, _ => rfl
  | .bl _, _ => rfl
  | .int _, _ => rfl
  | .str _, _ => rfl
  | .tup ds, h => by
    rw [plainD, Bool.and_eq_true] at h
    rw [D.pure]; exact plainAll.pure h.2
  | .lit _, h => by cases h
  | .loc _, h => by cases h
theorem plainAll.pure : ∀ {ds : List D}, plainAll ds = true → D.pureAll ds = true
  | [], _ => rfl
  | d :: ds, h => by
    rw [plainAll, Bool.and_eq_true] at h
    rw [D.pureAll, plainD.pure h.1, plainAll.pure h.2]; rfl
end
theorem plainAll.of_mem {ds : List D} (h : ∀ d ∈ ds, plainD d = true) : plainAll ds = true := by
  induction ds with
  | nil => rfl
  | cons d ds ih => rw [plainAll, h d (by simp), ih fun e he => h e (by simp [he])]; rfl
theorem zipD_self (ds : List D) : zipD ds ds = ds.map fun d => .tup [d, d] := by
  induction ds with
  | nil => rfl
  | cons d ds ih => rw [zipD, ih]; rfl
theorem blsOf_trues {α : Type} (ds : List α) : blsOf (ds.map fun _ => D.bl true) = some (ds.map fun _ => true) := by
  induction ds with
  | nil => rfl
  | cons d ds ih => rw [List.map_cons, blsOf, ih]; rfl
theorem pureAll_trues {α : Type} (ds : List α) : D.pureAll (ds.map fun _ => D.bl true) = true := by
  induction ds with
  | nil => rfl
  | cons d ds ih => rw [List.map_cons, D.pureAll, ih]; rfl
theorem same_tup {ds : List D} (hl : ds.length ≤ 100000) (hp : D.pureAll ds = true) (h : ∀ d ∈ ds, Gives (run (PG L) k) 9 [d, d] (.bl true)) : Gives (run (PG L) (k + 1)) 9 [.tup ds, .tup ds] (.bl true) := by
  refine ⟨[.lst (ds.map fun _ => D.bl true)], ?_⟩
  rw [run_fd (fd := fd__law_same) rfl rfl]
  have hpm : ∀ d ∈ ds, d.pure = true := by
    intro d hd
    induction ds with
    | nil => cases hd
    | cons e es ih =>
      rw [D.pureAll, Bool.and_eq_true] at hp
      rcases List.mem_cons.mp hd with rfl | hd
      · exact hp.1
      · exact ih (by simp at hl; omega) hp.2 (fun d hd => h d (by simp [hd])) hd
  have ec := comp_of (F := run (PG L) k) (elt := Ex.call 9 (Exs.cons (Ex.var 2) (Exs.cons (Ex.var 3) Exs.nil))) (test := Ex.dat (D.bl true)) (tg := Tg.many [2, 3]) (it := It.zip (Ex.var 0) (Ex.var 1)) (ρ := [some (.tup ds), some (.tup ds), none, none]) (S := [])
    (xs := zipD ds ds) (ys := ds.map fun _ => D.bl true) (g := fun _ => some (.bl true)) (by simp [evIt, ev, zipOf]) (fun x hx => by
      rw [zipD_self] at hx
      obtain ⟨d, hd, rfl⟩ := List.mem_map.mp hx
      have c := callF_ok (S := []) (by simp [D.pureAll, hpm d hd]) (h d hd) rfl
      simp [compTurn, putTg, setAll, truth, ev, evs, c, D.pure]) (by rw [zipD_self, List.filterMap_map, ← List.filterMap_eq_map]; rfl) (pureAll_trues _) (by rw [List.length_map]; omega)
  have al : (ds.map fun _ => true).all id = true := by simp
  show endD (exs _ sm__law_same [some (.tup ds), some (.tup ds), none, none] []) = _
  unfold sm__law_same
  rw [exs_rt (d := .bl true) (S1 := [.lst (ds.map fun _ => D.bl true)])]
  · rfl
  rw [ex_ife (q := true) (S1 := []) (S2 := []) (x := .bl true) rfl rfl rfl, if_pos rfl, exs_cons (ρ1 := [some (.tup ds), some (.tup ds), none, none]) (S1 := []), exs_rt]
  · rw [ex_ret (d := .bl true) (S1 := [.lst (ds.map fun _ => D.bl true)])]
    rw [ev_bi, evs_cons, ec]
    have e3 : (blsOf (ds.map fun _ => D.bl true)) = some (ds.map fun _ => true) := blsOf_trues ds
    simp [biD, one, allD, listOf, e3]
  · rw [ex_ife (q := false) (S1 := []) (S2 := []) (x := .bl false) _ rfl rfl]
    · rfl
    · simp [ev, evs, isTys, isTy, blO, truth, biD, one, lenD, seqOf, cmpD, cmpO, eqS, der, D.pure, D.depth, eqD]
mutual
theorem same_ok : ∀ (d : D), plainD d = true → ∀ k, d.depth ≤ k → Gives (run (PG L) (k + 1)) 9 [d, d] (.bl true)
  | .non, _, k, _ => ⟨[], by
    rw [run_fd (fd := fd__law_same) rfl rfl]; rfl⟩
  | .bl b, _, k, _ => ⟨[], by
    rw [run_fd (fd := fd__law_same) rfl rfl]; cases b <;> rfl⟩
  | .int i, _, k, _ => ⟨[], by
    rw [run_fd (fd := fd__law_same) rfl rfl]
    simp [fd__law_same, sm__law_same, exs, ex, ev, start0, isTys, isTy, blO, truth, cmpD, cmpO, isS, eqS, der, D.pure, D.depth, eqD, endD]⟩
  | .str s, _, k, _ => ⟨[], by
    rw [run_fd (fd := fd__law_same) rfl rfl]
    simp [fd__law_same, sm__law_same, exs, ex, ev, start0, isTys, isTy, blO, truth, cmpD, cmpO, isS, eqS, der, D.pure, D.depth, eqD, endD]⟩
  | .tup ds, h, k, hk => by
    rw [plainD, Bool.and_eq_true] at h
    rw [D.depth] at hk
    obtain ⟨j, rfl⟩ : ∃ j, k = j + 1 := ⟨k - 1, by omega⟩
    exact same_tup (of_decide_eq_true h.1) (plainAll.pure h.2) (sames_ok ds h.2 j (by omega))
  | .lit _, h, _, _ => by cases h
  | .loc _, h, _, _ => by cases h
theorem sames_ok : ∀ (ds : List D), plainAll ds = true → ∀ k, D.depthAll ds ≤ k → ∀ d ∈ ds, Gives (run (PG L) (k + 1)) 9 [d, d] (.bl true)
  | [], _, _, _, d, hd => by cases hd
  | e :: es, h, k, hk, d, hd => by
    rw [plainAll, Bool.and_eq_true] at h
    rw [D.depthAll] at hk
    rcases List.mem_cons.mp hd with e0 | hd
    · rw [e0]; exact same_ok e h.1 k (by omega)
    · exact sames_ok es h.2 k (by omega) d hd
end
theorem c_same {d : D} {S : Store} (h : plainD d = true) (hk : d.depth ≤ k) : callF (run (PG L) (k + 1)) 9 [d, d] S = .ok (.bl true) S := callF_ok (by simp [D.pureAll, plainD.pure h]) (same_ok d h k hk) rfl
end Lw
set_option Elab.async false
set_option linter.all false
set_option maxRecDepth 100000
namespace Lw
open Ev
variable {L : FD} {k : Nat}
/-! ### labels -/
theorem splitC_ne (c : Nat) (l : List Nat) : splitC c l ≠ [] := by
  cases l with
  | nil => simp [splitC]
  | cons x r =>
    rw [splitC]
    split
    · simp
    · split <;> simp
theorem splitC_cat {c : Nat} {y : List Nat} : ∀ x : List Nat, splitC c (x ++ c :: y) = splitC c x ++ splitC c y
  | [] => by
    show (if c = c then [] :: splitC c y else _) = _
    rw [if_pos rfl]; rfl
  | a :: x => by
    rw [List.cons_append, splitC, splitC_cat x]
    by_cases h : a = c
    · rw [if_pos h, splitC.eq_2, if_pos h]; rfl
    · rw [if_neg h, splitC.eq_2, if_neg h]
      cases e : splitC c x with
      | nil => exact absurd e (splitC_ne c x)
      | cons p ps => rfl
theorem join_cons {c : Nat} {p : List Nat} {ps : List (List Nat)} (h : ps ≠ []) : joinN [c] (p :: ps) = p ++ c :: joinN [c] ps := by
  cases ps with
  | nil => exact absurd rfl h
  | cons q r => rw [joinN]; rfl
theorem join_split {c : Nat} : ∀ l : List Nat, joinN [c] (splitC c l) = l
  | [] => rfl
  | x :: r => by
    have ih := join_split (c := c) r
    rw [splitC]
    by_cases h : x = c
    · rw [if_pos h, join_cons (splitC_ne c r), ih, h]; rfl
    · rw [if_neg h]
      cases e : splitC c r with
      | nil => exact absurd e (splitC_ne c r)
      | cons p ps =>
        rw [e] at ih
        cases ps with
        | nil =>
          rw [joinN] at ih ⊢
          rw [ih]
        | cons q qs =>
          rw [joinN] at ih ⊢
          rw [List.cons_append, ih]
theorem join_app {c : Nat} {ys : List (List Nat)} (hy : ys ≠ []) : ∀ {xs : List (List Nat)}, xs ≠ [] → joinN [c] (xs ++ ys) = joinN [c] xs ++ c :: joinN [c] ys
  | [], h => absurd rfl h
  | [x], _ => by rw [List.singleton_append, join_cons hy]; rfl
  | x :: z :: r, _ => by
    rw [List.cons_append, join_cons (ps := (z :: r) ++ ys) (by simp), join_app hy (xs := z :: r) (by simp), join_cons (p := x) (ps := z :: r) (by simp)]
    simp
/-- the one ends by a point and the other: the labels -/
theorem below_iff (a b : List Nat) : (46 :: b).isSuffixOf a = true ↔ ∃ pre, pre ≠ [] ∧ splitC 46 a = pre ++ splitC 46 b := by
  rw [List.isSuffixOf_iff_suffix]
  constructor
  · rintro ⟨x, rfl⟩
    exact ⟨splitC 46 x, splitC_ne _ _, splitC_cat x⟩
  · rintro ⟨pre, h1, h2⟩
    refine ⟨joinN [46] pre, ?_⟩
    have := join_split (c := 46) a
    rw [h2, join_app (splitC_ne _ _) h1, join_split] at this
    exact this
theorem below_eq (a b : List Nat) : (46 :: b).isSuffixOf a = (decide ((splitC 46 b).length < (splitC 46 a).length) && ((splitC 46 a).drop ((splitC 46 a).length - (splitC 46 b).length) == splitC 46 b)) := by
  rw [Bool.eq_iff_iff, below_iff, Bool.and_eq_true, decide_eq_true_iff, beq_iff_eq]
  constructor
  · rintro ⟨pre, h1, h2⟩
    have : 0 < pre.length := List.length_pos_iff.mpr h1
    rw [h2, List.length_append]
    refine ⟨by omega, ?_⟩
    have e : pre.length + (splitC 46 b).length - (splitC 46 b).length = pre.length := by omega
    rw [e, List.drop_left]
  · rintro ⟨h1, h2⟩
    refine ⟨(splitC 46 a).take ((splitC 46 a).length - (splitC 46 b).length), ?_, ?_⟩
    · intro z
      have := congrArg List.length z
      rw [List.length_take, List.length_nil] at this
      omega
    · conv => lhs; rw [← List.take_append_drop ((splitC 46 a).length - (splitC 46 b).length) (splitC 46 a), h2]
theorem split_sz (c : Nat) : ∀ l : List Nat, ((splitC c l).map List.length).sum + (splitC c l).length ≤ l.length + 1
  | [] => by simp [splitC]
  | x :: r => by
    have ih := split_sz c r
    rw [splitC]
    by_cases h : x = c
    · rw [if_pos h]
      simp only [List.map_cons, List.sum_cons, List.length_cons, List.length_nil]
      omega
    · rw [if_neg h]
      cases e : splitC c r with
      | nil => exact absurd e (splitC_ne c r)
      | cons p ps =>
        rw [e] at ih
        simp only [List.map_cons, List.sum_cons, List.length_cons] at ih ⊢
        omega
theorem split_len (c : Nat) (l : List Nat) : (splitC c l).length ≤ l.length + 1 := by have := split_sz c l; omega
theorem sum_drop (ss : List (List Nat)) : ∀ n, ((ss.drop n).map List.length).sum + (ss.drop n).length ≤ (ss.map List.length).sum + ss.length := by
  induction ss with
  | nil => simp
  | cons s ss ih =>
    intro n
    cases n with
    | zero => exact Nat.le_refl _
    | succ n =>
      have := ih n
      simp only [List.drop_succ_cons, List.map_cons, List.sum_cons, List.length_cons]
      omega
theorem cutL_lo {α : Type} (xs : List α) (v : Int) : cutL xs (some v) none = xs.drop (cutIx xs.length 0 (some v)) := by
  unfold cutL
  rw [List.take_of_length_le]
  rw [List.length_drop]
  exact Nat.le_refl _
def lastTwo {α : Type} (xs : List α) : List α := xs.drop (xs.length - 2)
theorem cut_two {α : Type} (xs : List α) : cutL xs (some (-2)) none = lastTwo xs := by
  rw [cutL_lo, lastTwo]
  congr 1
  simp [cutIx]
  omega
def siteF (h : List Nat) : List Nat := joinN [46] (lastTwo (splitC 46 h))
theorem r_below {a b : List Nat} (hb : b.length ≤ 100000) : Gives (run (PG L) (k + 1)) 1 [.str a, .str b] (.bl ((46 :: b).isSuffixOf a)) := by
  refine ⟨[], ?_⟩
  rw [run_fd (fd := fd_is_below) rfl rfl]
  have l1 : szOk (1 + b.length) = true := szOk_le (by omega)
  simp [fd_is_below, sm_is_below, exs, ex, ev, evs, start0, tyOk, isStr, binD, addD, l1, methD, one, endsD, endD]
theorem c_below {a b : List Nat} {S : Store} (hb : b.length ≤ 100000) : callF (run (PG L) (k + 1)) 1 [.str a, .str b] S = .ok (.bl ((46 :: b).isSuffixOf a)) S := callF_ok rfl (r_below hb) rfl
theorem splitD_ok {s : List Nat} {c : Nat} {S : Store} (h : s.length ≤ 100000) (hc : c < 256) : splitD (.str s) (.str [c]) S = .ok (.loc S.length) (S ++ [.lst ((splitC c s).map .str)]) := by
  have l1 : szOk (s.length + 2) = true := szOk_le (by omega)
  have l2 : szOk (splitC c s).length = true := szOk_le (by have := split_len c s; omega)
  simp [splitD, l1, hc, newL, l2]
theorem joinD_ok {ss : List (List Nat)} {c : Nat} {d : D} {S : Store} (hd : seqOf S d = some (ss.map .str)) (h : (ss.map List.length).sum + ss.length ≤ 1000000) : joinD (.str [c]) d S = .ok (.str (joinN [c] ss)) S := by
  have b2 : (ss.map List.length).sum + ss.length ≤ lineN := by unfold lineN; omega
  simp [joinD, hd, strsOf_map, b2]
theorem last_sz {h : List Nat} (hl : h.length ≤ 100000) : ((lastTwo (splitC 46 h)).map List.length).sum + (lastTwo (splitC 46 h)).length ≤ 1000000 := by
  have := sum_drop (splitC 46 h) ((splitC 46 h).length - 2)
  have := split_sz 46 h
  unfold lastTwo
  omega
theorem r_site {h : List Nat} (hl : h.length ≤ 100000) : Gives (run (PG L) (k + 1)) 2 [.str h] (.str (siteF h)) := by
  refine ⟨[.lst ((splitC 46 h).map .str), .lst ((lastTwo (splitC 46 h)).map .str)], ?_⟩
  rw [run_fd (fd := fd_site) rfl rfl]
  have l2 : szOk (lastTwo (splitC 46 h)).length = true := szOk_le (by have := last_sz hl; omega)
  have c2 : cutL ((splitC 46 h).map D.str) (some (-2)) none = (lastTwo (splitC 46 h)).map D.str := by
    rw [cut_two]; simp [lastTwo, List.map_drop]
  have j := joinD_ok (c := 46) (d := .loc 1) (S := [.lst ((splitC 46 h).map .str), .lst ((lastTwo (splitC 46 h)).map .str)]) rfl (last_sz hl)
  simp [fd_site, sm_site, exs, ex, ev, evs, start0, tyOk, isStr, methD, one, splitD_ok hl, slcD, partO, listOf, c2, newL, l2, j, endD, siteF]
theorem c_site {h : List Nat} {S : Store} (hl : h.length ≤ 100000) : callF (run (PG L) (k + 1)) 2 [.str h] S = .ok (.str (siteF h)) S := callF_ok rfl (r_site hl) rfl
theorem r_lsite {h : List Nat} (hl : h.length ≤ 100000) : Gives (run (PG L) (k + 1)) 15 [.str h] (.tup ((lastTwo (splitC 46 h)).map .str)) := by
  refine ⟨[.lst ((splitC 46 h).map .str), .lst ((lastTwo (splitC 46 h)).map .str)], ?_⟩
  rw [run_fd (fd := fd__law_site) rfl rfl]
  have l2 : szOk (lastTwo (splitC 46 h)).length = true := szOk_le (by have := last_sz hl; omega)
  have c2 : cutL ((splitC 46 h).map D.str) (some (if (2 : Int) < (splitC 46 h).length then ((splitC 46 h).length : Int) - 2 else 0)) none = (lastTwo (splitC 46 h)).map D.str := by
    rw [cutL_lo, lastTwo, List.map_drop]
    congr 1
    rw [List.length_map, cutIx]
    split <;> split <;> omega
  simp [fd__law_site, sm__law_site, exs, ex, ev, evs, start0, tyOk, isStr, methD, one, splitD_ok hl, gc, closedS, D.low, biD, lenD, seqOf, listOf, binD, subD, two, max2D, slcD, partO, newL, l2, c2, tupleD, endD]
theorem c_lsite {h : List Nat} {S : Store} (hl : h.length ≤ 100000) : callF (run (PG L) (k + 1)) 15 [.str h] S = .ok (.tup ((lastTwo (splitC 46 h)).map .str)) S := callF_ok rfl (r_lsite hl) (by simp [D.pure])
/-! ### steps -/
theorem r_steps {p : List Nat} {ps : List (List Nat)} (hp : p = [47] ++ joinN [47] ps) (h : ∀ l ∈ ps, l ∈ plabs) (hl : p.length ≤ 1000) : Gives (run (PG L) (k + 1)) 3 [.str p] (.tup (ps.map .str)) := by
  rw [Gives]
  rw [show run (PG L) (k + 1) 3 [.str p] [] = endD (exs (run (PG L) k) sm_steps [some (.str p)] []) from run_fd (fd := fd_steps) rfl rfl]
  by_cases he : ps = []
  · subst he
    have : p = [47] := hp
    subst this
    exact ⟨[], rfl⟩
  · have ej : joinN [47] ps ≠ [] := fun z => he (join_nil (fun l hl => plab_ne (h l hl)) z)
    have e0 : (p == [47]) = false := by
      rw [hp, beq_eq_false_iff_ne]
      intro z
      rw [List.singleton_append] at z
      exact ej (List.cons.inj z).2
    have e1 : cutL p (some 1) none = joinN [47] ps := by
      rw [cutL_lo, hp]
      simp [cutIx]
    have e2 : splitC 47 (joinN [47] ps) = ps := split_join he fun l hl => plab_no (h l hl)
    have l1 : szOk p.length = true := szOk_le (by omega)
    have l3 : (joinN [47] ps).length ≤ 100000 := by rw [hp] at hl; simp at hl; omega
    refine ⟨[.lst (ps.map .str)], ?_⟩
    simp [sm_steps, exs, ex, ev, evs, cmpD, cmpO, eqS, der, D.pure, D.depth, eqD, e0, blO, truth, slcD, partO, l1, e1, tyOk, isStr, methD, one, splitD_ok l3, e2, biD, tupleD, listOf, endD]
theorem c_steps {p : List Nat} {ps : List (List Nat)} {S : Store} (hp : p = [47] ++ joinN [47] ps) (h : ∀ l ∈ ps, l ∈ plabs) (hl : p.length ≤ 1000) : callF (run (PG L) (k + 1)) 3 [.str p] S = .ok (.tup (ps.map .str)) S := callF_ok rfl (r_steps hp h hl) (by simp [D.pure])
theorem r_lsteps {p : List Nat} {ps : List (List Nat)} (hp : p = [47] ++ joinN [47] ps) (h : ∀ l ∈ ps, l ∈ plabs) (hl : p.length ≤ 1000) : GivesL (run (PG L) (k + 1)) 16 [.str p] (ps.map .str) := by
  rw [GivesL]
  rw [show run (PG L) (k + 1) 16 [.str p] [] = endD (exs (run (PG L) k) sm__law_steps [some (.str p), none] []) from run_fd (fd := fd__law_steps) rfl rfl]
  have fil : ((splitC 47 p).map D.str).filterMap (fun x => if eqD x (.str []) then none else some x) = ps.map .str := by
    by_cases he : ps = []
    · subst he
      have : p = [47] := hp
      subst this
      rfl
    · rw [hp, split_path h he]
      have : ∀ qs : List (List Nat), (∀ l ∈ qs, l ∈ plabs) → (qs.map D.str).filterMap (fun x => if eqD x (.str []) then none else some x) = qs.map .str := by
        intro qs
        induction qs with
        | nil => intro _; rfl
        | cons q qs ih =>
          intro hq
          have e : eqD (.str q) (.str []) = false := by
            show (q == []) = false
            exact beq_eq_false_iff_ne.mpr (plab_ne (hq q (by simp)))
          rw [List.map_cons, List.filterMap_cons, e, ih fun l hl => hq l (by simp [hl])]
          rfl
      rw [List.map_cons, List.filterMap_cons]
      exact this ps h
  have pl : ps.length ≤ 2000 := by
    have := congrArg List.length fil
    rw [List.length_map] at this
    have h2 := List.length_filterMap_le (fun x => if eqD x (.str []) then none else some x) ((splitC 47 p).map D.str)
    rw [List.length_map] at h2
    have := split_len 47 p
    omega
  have ei : evIt (run (PG L) k) (.of (Ex.meth Me.split (Ex.var 0) (Exs.cons (Ex.dat (D.str [47])) Exs.nil))) [some (.str p), none] [] = .ok ⟨(splitC 47 p).map .str, none⟩ [] := by
    simp [evIt, ev, evs, tyOk, isStr, methD, one, splitD_ok (s := p) (c := 47) (S := []) (by omega) (by omega), walkOf, closedS]
  refine ⟨[.lst (ps.map .str)], 0, ?_, rfl⟩
  unfold sm__law_steps
  rw [exs_rt (ex_ret (comp_of (g := fun x => if eqD x (.str []) then none else some x) ei ?h fil (pureAll_strs _) (by rw [List.length_map]; omega)))]
  · rfl
  · intro x hx
    obtain ⟨q, _, rfl⟩ := List.mem_map.mp hx
    cases e : (q == []) <;> simp [compTurn, putTg, ev, cmpD, cmpO, eqS, der, D.pure, D.depth, eqD, blO, truth, e]
theorem c_lsteps {p : List Nat} {ps : List (List Nat)} {S : Store} (hp : p = [47] ++ joinN [47] ps) (h : ∀ l ∈ ps, l ∈ plabs) (hl : p.length ≤ 1000) : callF (run (PG L) (k + 1)) 16 [.str p] S = .ok (.loc S.length) (S ++ [.lst (ps.map .str)]) := callF_lst rfl (r_lsteps hp h hl)
/-! ### may_put -/
def mayPut (n : NT) (h : List Nat) : Bool := !(n.deep && !n.host.contains 46) && ((h == n.host) || (46 :: n.host).isSuffixOf h)
theorem r_may {n : NT} {h : List Nat} (hn : n.host.length ≤ 10000) (hh : h.length ≤ 10000) : Gives (run (PG L) (k + 2)) 5 [n.d, .str h] (.bl (mayPut n h)) := by
  refine ⟨[], ?_⟩
  rw [run_fd (fd := fd_may_put) rfl rfl]
  show endD (exs _ sm_may_put [some n.d, some (.str h)] []) = _
  have i3 : ∀ S, idxD n.d (.int 3) S = .ok (.bl n.deep) S := fun S => by simp [idxD, atZ, retO, NT.d]
  have i2 : ∀ S, idxD n.d (.int 2) S = .ok (.str n.host) S := fun S => by simp [idxD, atZ, retO, NT.d]
  have cb := c_below (L := L) (k := k) (a := h) (b := n.host) (S := []) (by omega)
  unfold mayPut
  cases hd : n.deep <;> by_cases hc : 46 ∈ n.host <;> cases he : (h == n.host) <;>
    simp [sm_may_put, exs, ex, ev, evs, i3, i2, hd, truth, cmpD, cmpO, inS, hc, blO, eqS, der, D.pure, D.depth, eqD, he, cb, endD]
theorem c_may {n : NT} {h : List Nat} {S : Store} (hn : n.host.length ≤ 10000) (hh : h.length ≤ 10000) : callF (run (PG L) (k + 2)) 5 [n.d, .str h] S = .ok (.bl (mayPut n h)) S := callF_ok (by simp [D.pureAll, D.pure, NT.pure]) (r_may hn hh) rfl
end Lw
set_option Elab.async false
set_option linter.all false
set_option maxRecDepth 100000
namespace Lw
open Ev
variable {L : FD} {k : Nat}
/-! ### paths of any steps -/
structure PathG (p : List Nat) : Prop where
  ex : ∃ ps, p = [47] ++ joinN [47] ps ∧ ∀ l ∈ ps, l ≠ [] ∧ noC 47 l
  len : p.length ≤ 100
theorem PathOk.g {p : List Nat} (h : PathOk p) : PathG p := by
  have hl := h.len
  obtain ⟨ps, e, _, h2⟩ := h.ex
  exact ⟨⟨ps, e, fun l hl => ⟨plab_ne (h2 l hl), plab_no (h2 l hl)⟩⟩, by omega⟩
def stepsF (p : List Nat) : List (List Nat) := (splitC 47 p).filter (· ≠ [])
theorem stepsF_eq {p : List Nat} {ps : List (List Nat)} (e : p = [47] ++ joinN [47] ps) (h : ∀ l ∈ ps, l ≠ [] ∧ noC 47 l) : stepsF p = ps := by
  unfold stepsF
  by_cases he : ps = []
  · subst he
    have : p = [47] := e
    subst this
    rfl
  · rw [e, List.singleton_append, splitC, if_pos rfl, split_join he fun l hl => (h l hl).2]
    rw [List.filter_cons_of_neg (by simp), List.filter_eq_self.mpr]
    intro l hl
    simpa using (h l hl).1
theorem r_stepsG {p : List Nat} (g : PathG p) : Gives (run (PG L) (k + 1)) 3 [.str p] (.tup ((stepsF p).map .str)) := by
  have hl := g.len
  obtain ⟨ps, hp, h⟩ := g.ex
  rw [stepsF_eq hp h, Gives]
  rw [show run (PG L) (k + 1) 3 [.str p] [] = endD (exs (run (PG L) k) sm_steps [some (.str p)] []) from run_fd (fd := fd_steps) rfl rfl]
  by_cases he : ps = []
  · subst he
    have : p = [47] := hp
    subst this
    exact ⟨[], rfl⟩
  · have ej : joinN [47] ps ≠ [] := fun z => he (join_nil (fun l hl => (h l hl).1) z)
    have e0 : (p == [47]) = false := by
      rw [hp, beq_eq_false_iff_ne]
      intro z
      rw [List.singleton_append] at z
      exact ej (List.cons.inj z).2
    have e1 : cutL p (some 1) none = joinN [47] ps := by
      rw [cutL_lo, hp]
      simp [cutIx]
    have e2 : splitC 47 (joinN [47] ps) = ps := split_join he fun l hl => (h l hl).2
    have l1 : szOk p.length = true := szOk_le (by omega)
    have l3 : (joinN [47] ps).length ≤ 100000 := by rw [hp] at hl; simp at hl; omega
    refine ⟨[.lst (ps.map .str)], ?_⟩
    simp [sm_steps, exs, ex, ev, evs, cmpD, cmpO, eqS, der, D.pure, D.depth, eqD, e0, blO, truth, slcD, partO, l1, e1, tyOk, isStr, methD, one, splitD_ok l3, e2, biD, tupleD, listOf, endD]
theorem c_stepsG {p : List Nat} {S : Store} (g : PathG p) : callF (run (PG L) (k + 1)) 3 [.str p] S = .ok (.tup ((stepsF p).map .str)) S := callF_ok rfl (r_stepsG g) (by simp [D.pure])
theorem r_lstepsG {p : List Nat} (hl : p.length ≤ 1000) : GivesL (run (PG L) (k + 1)) 16 [.str p] ((stepsF p).map .str) := by
  rw [GivesL]
  rw [show run (PG L) (k + 1) 16 [.str p] [] = endD (exs (run (PG L) k) sm__law_steps [some (.str p), none] []) from run_fd (fd := fd__law_steps) rfl rfl]
  have fil : ((splitC 47 p).map D.str).filterMap (fun x => if eqD x (.str []) then none else some x) = (stepsF p).map .str := by
    unfold stepsF
    generalize splitC 47 p = qs
    induction qs with
    | nil => rfl
    | cons q qs ih =>
      rw [List.map_cons, List.filterMap_cons, ih]
      have e : eqD (.str q) (.str []) = (q == []) := rfl
      rw [e]
      by_cases hq : q = []
      · subst hq
        rw [List.filter_cons_of_neg (by simp)]
        rfl
      · rw [beq_eq_false_iff_ne.mpr hq, List.filter_cons_of_pos (by simpa using hq)]
        rfl
  have pl : (stepsF p).length ≤ 2000 := by
    have h1 := split_len 47 p
    have h2 := List.length_filter_le (· ≠ ([] : List Nat)) (splitC 47 p)
    unfold stepsF
    omega
  have ei : evIt (run (PG L) k) (.of (Ex.meth Me.split (Ex.var 0) (Exs.cons (Ex.dat (D.str [47])) Exs.nil))) [some (.str p), none] [] = .ok ⟨(splitC 47 p).map .str, none⟩ [] := by
    simp [evIt, ev, evs, tyOk, isStr, methD, one, splitD_ok (s := p) (c := 47) (S := []) (by omega) (by omega), walkOf, closedS]
  refine ⟨[.lst ((stepsF p).map .str)], 0, ?_, rfl⟩
  unfold sm__law_steps
  rw [exs_rt (ex_ret (comp_of (g := fun x => if eqD x (.str []) then none else some x) ei ?h fil (pureAll_strs _) (by rw [List.length_map]; omega)))]
  · rfl
  · intro x hx
    obtain ⟨q, _, rfl⟩ := List.mem_map.mp hx
    cases e : (q == []) <;> simp [compTurn, putTg, ev, cmpD, cmpO, eqS, der, D.pure, D.depth, eqD, blO, truth, e]
theorem c_lstepsG {p : List Nat} {S : Store} (hl : p.length ≤ 1000) : callF (run (PG L) (k + 1)) 16 [.str p] S = .ok (.loc S.length) (S ++ [.lst ((stepsF p).map .str)]) := callF_lst rfl (r_lstepsG hl)
end Lw
set_option Elab.async false
set_option linter.all false
set_option maxRecDepth 100000
set_option maxHeartbeats 1000000
namespace Lw
open Ev
variable {L : FD} {k : Nat}
/-! ### rules -/
def tk0 : List (List Nat) := [[115, 105, 103, 110, 115], [115, 116, 101, 112, 115]]
def tk1 : List (List Nat) := [[97, 108, 119, 97, 121, 115], [110, 101, 118, 101, 114], [116, 111, 108, 100]]
def tk2 : List (List Nat) := [[117, 110, 116, 105, 108], [119, 105, 116, 104]]
def tk3 : List (List Nat) := [[102, 114, 101, 101], [109, 117, 115, 116]]
def tk4 : List (List Nat) := [[107, 101, 101, 112], [108, 111, 111, 115, 101], [110, 111, 110, 101]]
def tk5 : List (List Nat) := [[108, 111, 110, 103], [110, 97, 109, 101, 115], [111, 108, 100]]
structure RT where
  r0 : List Nat
  r1 : List Nat
  r2 : List Nat
  r3 : List Nat
  r4 : List Nat
  r5 : List Nat
def RT.d (r : RT) : D := .tup [.str r.r0, .str r.r1, .str r.r2, .str r.r3, .str r.r4, .str r.r5]
theorem RT.pure (r : RT) : r.d.pure = true := rfl
structure RT.Ok (r : RT) : Prop where
  o0 : r.r0 ∈ tk0
  o1 : r.r1 ∈ tk1
  o2 : r.r2 ∈ tk2
  o3 : r.r3 ∈ tk3
  o4 : r.r4 ∈ tk4
  o5 : r.r5 ∈ tk5
def rulesF (c : Int) : RT := ⟨pickS tk0 (mixF (c + 13 * 0) 9851 2), pickS tk1 (mixF (c + 13 * 1) 9851 3), pickS tk2 (mixF (c + 13 * 2) 9851 2), pickS tk3 (mixF (c + 13 * 3) 9851 2), pickS tk4 (mixF (c + 13 * 4) 9851 3), pickS tk5 (mixF c 9839 3)⟩
theorem rules_ok (c : Int) : (rulesF c).Ok where
  o0 := pickS_mem (mixF_nn (m := 2) (by omega)) (mixF_lt (m := 2) (by omega))
  o1 := pickS_mem (mixF_nn (m := 3) (by omega)) (mixF_lt (m := 3) (by omega))
  o2 := pickS_mem (mixF_nn (m := 2) (by omega)) (mixF_lt (m := 2) (by omega))
  o3 := pickS_mem (mixF_nn (m := 2) (by omega)) (mixF_lt (m := 2) (by omega))
  o4 := pickS_mem (mixF_nn (m := 3) (by omega)) (mixF_lt (m := 3) (by omega))
  o5 := pickS_mem (mixF_nn (m := 3) (by omega)) (mixF_lt (m := 3) (by omega))
def tokD (ws : List (List Nat)) : D := .tup (ws.map .str)
def toks : List D := [tokD tk0, tokD tk1, tokD tk2, tokD tk3, tokD tk4]
def found5 (c : Int) : List D := [.str (rulesF c).r0, .str (rulesF c).r1, .str (rulesF c).r2, .str (rulesF c).r3, .str (rulesF c).r4]
theorem tok_turn {c n : Int} {a : D} {ws : List (List Nat)} {S : Store} (hw : 0 < ws.length) (hn : sm64 13 = true) :
    compTurn (run (PG L) (k + 1)) (Ex.idx (Ex.var 4) (Ex.call 8 (Exs.cons (Ex.bin Bop.add (Ex.var 0) (Ex.bin Bop.mul (Ex.dat (D.int 13)) (Ex.var 3))) (Exs.cons (Ex.dat (D.int 9851)) (Exs.cons (Ex.bi Bi.len (Exs.cons (Ex.var 4) Exs.nil)) Exs.nil))))) (Tg.many [3, 4]) (Ex.dat (D.bl true)) [some (.int c), some a, none, none, none] (.tup [.int n, tokD ws]) S
      = .ok (some (.str (pickS ws (mixF (c + 13 * n) 9851 ws.length)))) S := by
  have h1 : 0 ≤ mixF (c + 13 * n) 9851 ws.length := mixF_nn (by omega)
  have h2 : mixF (c + 13 * n) 9851 ws.length < ws.length := mixF_lt (by omega)
  have cm := c_mix (L := L) (k := k) (c := c + 13 * n) (p := 9851) (m := ws.length) (S := S) (by omega) (by omega) (by omega)
  have ea := atZ_str (xs := ws) rfl h1 h2
  simp [compTurn, putTg, setAll, truth, ev, evs, binD, mulD, addD, hn, tokD, biD, one, lenD, seqOf, cm, idxD, ea, retO, gc_same, D.pure]
theorem r_rules {c : Int} : Gives (run (PG L) (k + 2)) 24 [.int c] (rulesF c).d := by
  refine ⟨[.lst (found5 c)], ?_⟩
  rw [run_fd (fd := fd__law_rules) rfl rfl]
  show endD (exs _ sm__law_rules [some (.int c), none, none, none, none] []) = _
  have b4 : sm64 13 = true := by decide
  unfold sm__law_rules
  rw [exs_cons (ρ1 := [some (.int c), some (.tup [tokD tk0, tokD tk1, tokD tk2]), none, none, none]) (S1 := []) (by simp [ex, ev, evs, szOk_le, tokD, tk0, tk1, tk2])]
  rw [exs_cons (ρ1 := [some (.int c), some (.tup toks), none, none, none]) (S1 := []) (by simp [ex, ev, evs, szOk_le, binD, addD, tokD, toks, tk3, tk4])]
  have ec := comp_of (F := run (PG L) (k + 1)) (elt := (Ex.idx (Ex.var 4) (Ex.call 8 (Exs.cons (Ex.bin Bop.add (Ex.var 0) (Ex.bin Bop.mul (Ex.dat (D.int 13)) (Ex.var 3))) (Exs.cons (Ex.dat (D.int 9851)) (Exs.cons (Ex.bi Bi.len (Exs.cons (Ex.var 4) Exs.nil)) Exs.nil)))))) (tg := Tg.many [3, 4]) (it := It.enum (Ex.var 1)) (test := Ex.dat (D.bl true)) (ρ := [some (.int c), some (.tup toks), none, none, none]) (S := [])
    (xs := [.tup [.int 0, tokD tk0], .tup [.int 1, tokD tk1], .tup [.int 2, tokD tk2], .tup [.int 3, tokD tk3], .tup [.int 4, tokD tk4]]) (ys := found5 c) (g := fun x => match x with | .tup [.int n, .tup ws] => atZ ws (mixF (c + 13 * n) 9851 ws.length) | _ => none) rfl (fun x hx => by
      have ga : ∀ (n : Int) (ws : List (List Nat)), 0 < ws.length → atZ (ws.map D.str) (mixF (c + 13 * n) 9851 (ws.map D.str).length) = some (.str (pickS ws (mixF (c + 13 * n) 9851 ws.length))) := fun n ws hw => by
        rw [List.length_map]
        exact atZ_str rfl (mixF_nn (by omega)) (mixF_lt (by omega))
      simp only [List.mem_cons, List.not_mem_nil, or_false] at hx
      rcases hx with rfl | rfl | rfl | rfl | rfl
      · rw [tok_turn (by decide) b4, ← ga 0 tk0 (by decide)]; rfl
      · rw [tok_turn (by decide) b4, ← ga 1 tk1 (by decide)]; rfl
      · rw [tok_turn (by decide) b4, ← ga 2 tk2 (by decide)]; rfl
      · rw [tok_turn (by decide) b4, ← ga 3 tk3 (by decide)]; rfl
      · rw [tok_turn (by decide) b4, ← ga 4 tk4 (by decide)]; rfl) (by
      have ga : ∀ (n : Int) (ws : List (List Nat)), 0 < ws.length → atZ (ws.map D.str) (mixF (c + 13 * n) 9851 (ws.map D.str).length) = some (.str (pickS ws (mixF (c + 13 * n) 9851 ws.length))) := fun n ws hw => by
        rw [List.length_map]
        exact atZ_str rfl (mixF_nn (by omega)) (mixF_lt (by omega))
      simp only [List.filterMap_cons, List.filterMap_nil, tokD, ga 0 tk0 (by decide), ga 1 tk1 (by decide), ga 2 tk2 (by decide), ga 3 tk3 (by decide), ga 4 tk4 (by decide)]
      rfl) rfl (by simp [found5])
  rw [exs_cons (ex_asg (i := 2) ec (d' := .loc 0) (S2 := [.lst (found5 c)]) (by simp [gc, closedS, D.low]) (by simp))]
  have e5 := atZ_str (xs := tk5) (ds := [D.str [108, 111, 110, 103], D.str [110, 97, 109, 101, 115], D.str [111, 108, 100]]) (j := mixF c 9839 3) rfl (mixF_nn (by omega)) (mixF_lt (by omega))
  have sz : szOk ((found5 c).length + 1) = true := rfl
  simp [exs, ex, ev, evs, biD, one, tupleD, listOf, szOk_le, c_mix, idxD, e5, retO, binD, addD, sz, endD]
  rfl
theorem c_rules {c : Int} {S : Store} : callF (run (PG L) (k + 2)) 24 [.int c] S = .ok (rulesF c).d S := callF_ok rfl r_rules rfl
end Lw
set_option Elab.async false
set_option linter.all false
set_option maxRecDepth 100000
set_option maxHeartbeats 1000000
namespace Lw
open Ev
variable {L : FD} {k : Nat}
/-! ### asks -/
structure AT where
  host : List Nat
  path : List Nat
  time : Int
  safe : Bool
  org : Option (List Nat)
  near : Bool
def orgD : Option (List Nat) → D
  | none => .non
  | some s => .str s
def AT.d (a : AT) : D := .tup [.str a.host, .str a.path, .int a.time, .bl a.safe, orgD a.org, .bl a.near]
@[simp] theorem orgD_pure (o : Option (List Nat)) : (orgD o).pure = true := by cases o <;> rfl
theorem AT.pure (a : AT) : a.d.pure = true := by simp [AT.d, D.pure, D.pureAll]
structure AT.Ok (a : AT) : Prop where
  host : a.host.length ≤ 50
  path : PathG a.path
  t0 : 0 ≤ a.time
  t1 : a.time ≤ 99
  org : ∀ s, a.org = some s → s.length ≤ 100
theorem atZ_nt {ns : List NT} {j : Int} (h0 : 0 ≤ j) (h1 : j < ns.length) : ∃ n ∈ ns, atZ (ns.map NT.d) j = some n.d := by
  have h2 : j.toNat < ns.length := by omega
  refine ⟨ns[j.toNat], List.getElem_mem _, ?_⟩
  unfold atZ
  rw [if_pos h0, if_pos (by rw [List.length_map]; exact h1), List.getElem?_map, List.getElem?_eq_getElem h2]
  rfl
/-- the four paths near to a note's -/
theorem near_path {p q : List Nat} {j : Int} (hp : PathOk p) (hq : PathG q) (h0 : 0 ≤ j) (h1 : j < 4) : PathG (pickS [p, (if p == [47] then [] else p) ++ [47, 113], p ++ [113], q] j) := by
  have hl := hp.len
  have m := pickS_mem (xs := [p, (if p == [47] then [] else p) ++ [47, 113], p ++ [113], q]) h0 h1
  obtain ⟨ps, e, p1, p2⟩ := hp.ex
  have good : ∀ l ∈ ps, l ≠ [] ∧ noC 47 l := fun l hl => ⟨plab_ne (p2 l hl), plab_no (p2 l hl)⟩
  have gq : ([113] : List Nat) ≠ [] ∧ noC 47 [113] := ⟨by simp, by intro x hx; simp at hx; omega⟩
  simp only [List.mem_cons, List.not_mem_nil, or_false] at m
  rcases m with m | m | m | m <;> rw [m]
  · exact hp.g
  · by_cases he : ps = []
    · subst he
      have : p = [47] := e
      subst this
      exact ⟨⟨[[113]], rfl, fun l hl => by rw [List.mem_singleton.mp hl]; exact gq⟩, by decide⟩
    · have ej : joinN [47] ps ≠ [] := fun z => he (join_nil (fun l hl => (good l hl).1) z)
      have e0 : (p == [47]) = false := by
        rw [e, beq_eq_false_iff_ne]
        intro z
        rw [List.singleton_append] at z
        exact ej (List.cons.inj z).2
      rw [e0]
      refine ⟨⟨ps ++ [[113]], ?_, fun l hl => ?_⟩, by simp; omega⟩
      · rw [join_snoc he, e]; simp
      · rcases List.mem_append.mp hl with hl | hl
        · exact good l hl
        · rw [List.mem_singleton.mp hl]; exact gq
  · by_cases he : ps = []
    · subst he
      have : p = [47] := e
      subst this
      exact ⟨⟨[[113]], rfl, fun l hl => by rw [List.mem_singleton.mp hl]; exact gq⟩, by decide⟩
    · -- the last step grows
      obtain ⟨qs, l, rfl⟩ : ∃ qs l, ps = qs ++ [l] := ⟨ps.dropLast, ps.getLast he, (List.dropLast_concat_getLast he).symm⟩
      have gl := good l (by simp)
      refine ⟨⟨qs ++ [l ++ [113]], ?_, fun x hx => ?_⟩, by simp; omega⟩
      · rw [e]
        by_cases hqs : qs = []
        · subst hqs; rfl
        · rw [join_snoc hqs, join_snoc hqs]; simp
      · rcases List.mem_append.mp hx with hx | hx
        · exact good x (by simp [hx])
        · rw [List.mem_singleton.mp hx]
          refine ⟨by simp, fun y hy => ?_⟩
          rcases List.mem_append.mp hy with hy | hy
          · exact gl.2 y hy
          · exact gq.2 y hy
  · exact hq
def askIf : Sm := (Sm.ife (Ex.and (Ex.cmp Cop.ne (Ex.var 1) (Ex.tup Exs.nil)) (Ex.cmp Cop.gt (Ex.call 8 (Exs.cons (Ex.var 0) (Exs.cons (Ex.dat (D.int 9829)) (Exs.cons (Ex.dat (D.int 5)) Exs.nil)))) (Ex.dat (D.int 0)))) (Sms.cons (Sm.par [7, 8] (Exs.cons (Ex.idx (Ex.var 1) (Ex.call 8 (Exs.cons (Ex.var 0) (Exs.cons (Ex.dat (D.int 9817)) (Exs.cons (Ex.bi Bi.len (Exs.cons (Ex.var 1) Exs.nil)) Exs.nil))))) (Exs.cons (Ex.idx (Ex.var 1) (Ex.call 8 (Exs.cons (Ex.var 0) (Exs.cons (Ex.dat (D.int 9811)) (Exs.cons (Ex.bi Bi.len (Exs.cons (Ex.var 1) Exs.nil)) Exs.nil))))) Exs.nil))) (Sms.cons (Sm.asg 4 (Ex.idx (Ex.tup (Exs.cons (Ex.idx (Ex.var 7) (Ex.dat (D.int 2))) (Exs.cons (Ex.idx (Ex.var 7) (Ex.dat (D.int 2))) (Exs.cons (Ex.bin Bop.add (Ex.dat (D.str [113, 46])) (Ex.idx (Ex.var 7) (Ex.dat (D.int 2)))) (Exs.cons (Ex.var 4) Exs.nil))))) (Ex.call 8 (Exs.cons (Ex.var 0) (Exs.cons (Ex.dat (D.int 9803)) (Exs.cons (Ex.dat (D.int 4)) Exs.nil)))))) (Sms.cons (Sm.asg 6 (Ex.ife (Ex.cmp Cop.eq (Ex.idx (Ex.var 8) (Ex.dat (D.int 4))) (Ex.dat (D.str [47]))) (Ex.dat (D.str [])) (Ex.idx (Ex.var 8) (Ex.dat (D.int 4))))) (Sms.cons (Sm.asg 5 (Ex.idx (Ex.tup (Exs.cons (Ex.idx (Ex.var 8) (Ex.dat (D.int 4))) (Exs.cons (Ex.bin Bop.add (Ex.var 6) (Ex.dat (D.str [47, 113]))) (Exs.cons (Ex.bin Bop.add (Ex.idx (Ex.var 8) (Ex.dat (D.int 4))) (Ex.dat (D.str [113]))) (Exs.cons (Ex.var 5) Exs.nil))))) (Ex.call 8 (Exs.cons (Ex.var 0) (Exs.cons (Ex.dat (D.int 9791)) (Exs.cons (Ex.dat (D.int 4)) Exs.nil)))))) (Sms.cons (Sm.ife (Ex.cmp Cop.isnot (Ex.idx (Ex.var 7) (Ex.dat (D.int 5))) (Ex.dat D.non)) (Sms.cons (Sm.asg 2 (Ex.bi Bi.max2 (Exs.cons (Ex.dat (D.int 0)) (Exs.cons (Ex.bi Bi.min2 (Exs.cons (Ex.dat (D.int 99)) (Exs.cons (Ex.bin Bop.sub (Ex.bin Bop.add (Ex.idx (Ex.var 7) (Ex.dat (D.int 5))) (Ex.call 8 (Exs.cons (Ex.var 0) (Exs.cons (Ex.dat (D.int 9787)) (Exs.cons (Ex.dat (D.int 3)) Exs.nil))))) (Ex.dat (D.int 1))) Exs.nil))) Exs.nil)))) Sms.nil) Sms.nil) Sms.nil))))) Sms.nil)
def askNote : Sms := .cons (Sm.par [7, 8] (Exs.cons (Ex.idx (Ex.var 1) (Ex.call 8 (Exs.cons (Ex.var 0) (Exs.cons (Ex.dat (D.int 9817)) (Exs.cons (Ex.bi Bi.len (Exs.cons (Ex.var 1) Exs.nil)) Exs.nil))))) (Exs.cons (Ex.idx (Ex.var 1) (Ex.call 8 (Exs.cons (Ex.var 0) (Exs.cons (Ex.dat (D.int 9811)) (Exs.cons (Ex.bi Bi.len (Exs.cons (Ex.var 1) Exs.nil)) Exs.nil))))) Exs.nil))) (.cons (Sm.asg 4 (Ex.idx (Ex.tup (Exs.cons (Ex.idx (Ex.var 7) (Ex.dat (D.int 2))) (Exs.cons (Ex.idx (Ex.var 7) (Ex.dat (D.int 2))) (Exs.cons (Ex.bin Bop.add (Ex.dat (D.str [113, 46])) (Ex.idx (Ex.var 7) (Ex.dat (D.int 2)))) (Exs.cons (Ex.var 4) Exs.nil))))) (Ex.call 8 (Exs.cons (Ex.var 0) (Exs.cons (Ex.dat (D.int 9803)) (Exs.cons (Ex.dat (D.int 4)) Exs.nil)))))) (.cons (Sm.asg 6 (Ex.ife (Ex.cmp Cop.eq (Ex.idx (Ex.var 8) (Ex.dat (D.int 4))) (Ex.dat (D.str [47]))) (Ex.dat (D.str [])) (Ex.idx (Ex.var 8) (Ex.dat (D.int 4))))) (.cons (Sm.asg 5 (Ex.idx (Ex.tup (Exs.cons (Ex.idx (Ex.var 8) (Ex.dat (D.int 4))) (Exs.cons (Ex.bin Bop.add (Ex.var 6) (Ex.dat (D.str [47, 113]))) (Exs.cons (Ex.bin Bop.add (Ex.idx (Ex.var 8) (Ex.dat (D.int 4))) (Ex.dat (D.str [113]))) (Exs.cons (Ex.var 5) Exs.nil))))) (Ex.call 8 (Exs.cons (Ex.var 0) (Exs.cons (Ex.dat (D.int 9791)) (Exs.cons (Ex.dat (D.int 4)) Exs.nil)))))) (.cons (Sm.ife (Ex.cmp Cop.isnot (Ex.idx (Ex.var 7) (Ex.dat (D.int 5))) (Ex.dat D.non)) (Sms.cons (Sm.asg 2 (Ex.bi Bi.max2 (Exs.cons (Ex.dat (D.int 0)) (Exs.cons (Ex.bi Bi.min2 (Exs.cons (Ex.dat (D.int 99)) (Exs.cons (Ex.bin Bop.sub (Ex.bin Bop.add (Ex.idx (Ex.var 7) (Ex.dat (D.int 5))) (Ex.call 8 (Exs.cons (Ex.var 0) (Exs.cons (Ex.dat (D.int 9787)) (Exs.cons (Ex.dat (D.int 3)) Exs.nil))))) (Ex.dat (D.int 1))) Exs.nil))) Exs.nil)))) Sms.nil) Sms.nil) .nil))))
theorem ask_note {c t : Int} {h p : List Nat} {ns : List NT} (hn : ∀ n ∈ ns, n.Ok) (h0 : 0 < ns.length) (hh : h.length ≤ 9) (hp : PathG p) (t0 : 0 ≤ t) (t1 : t ≤ 99) :
    ∃ t' h' p' v6 v7 v8, exs (run (PG L) (k + 1)) askNote [some (.int c), some (.tup (ns.map NT.d)), some (.int t), none, some (.str h), some (.str p), none, none, none] [] = .nx [some (.int c), some (.tup (ns.map NT.d)), some (.int t'), none, some (.str h'), some (.str p'), v6, v7, v8] [] ∧ h'.length ≤ 50 ∧ PathG p' ∧ 0 ≤ t' ∧ t' ≤ 99 := by
  obtain ⟨n, hnm, en⟩ := atZ_nt (ns := ns) (j := mixF c 9817 ns.length) (mixF_nn (by omega)) (mixF_lt (by omega))
  obtain ⟨o, hom, eo⟩ := atZ_nt (ns := ns) (j := mixF c 9811 ns.length) (mixF_nn (by omega)) (mixF_lt (by omega))
  have c1 := fun S => c_mix (L := L) (k := k) (c := c) (p := 9817) (m := ns.length) (S := S) (by omega) (by omega) (by omega)
  have c2 := fun S => c_mix (L := L) (k := k) (c := c) (p := 9811) (m := ns.length) (S := S) (by omega) (by omega) (by omega)
  have hnh := (hn n hnm).host.len
  have hop := (hn o hom).path
  have hol := hop.len
  have i2 : ∀ S, idxD n.d (.int 2) S = .ok (.str n.host) S := fun S => by simp [idxD, atZ, retO, NT.d]
  have i4 : ∀ S, idxD o.d (.int 4) S = .ok (.str o.path) S := fun S => by simp [idxD, atZ, retO, NT.d]
  have i5 : ∀ S, idxD n.d (.int 5) S = .ok (finD n.fin) S := fun S => by simp [idxD, atZ, retO, NT.d]
  have x1 : ex (run (PG L) (k + 1)) (Sm.par [7, 8] (Exs.cons (Ex.idx (Ex.var 1) (Ex.call 8 (Exs.cons (Ex.var 0) (Exs.cons (Ex.dat (D.int 9817)) (Exs.cons (Ex.bi Bi.len (Exs.cons (Ex.var 1) Exs.nil)) Exs.nil))))) (Exs.cons (Ex.idx (Ex.var 1) (Ex.call 8 (Exs.cons (Ex.var 0) (Exs.cons (Ex.dat (D.int 9811)) (Exs.cons (Ex.bi Bi.len (Exs.cons (Ex.var 1) Exs.nil)) Exs.nil))))) Exs.nil))) [some (.int c), some (.tup (ns.map NT.d)), some (.int t), none, some (.str h), some (.str p), none, none, none] [] = .nx [some (.int c), some (.tup (ns.map NT.d)), some (.int t), none, some (.str h), some (.str p), none, some n.d, some o.d] [] := by
    simp [ex, ev, evs, biD, one, lenD, seqOf, c1, c2, idxD, en, eo, retO, setAll]
  have e4 := atZ_str (xs := [n.host, n.host, [113, 46] ++ n.host, h]) (j := mixF c 9803 4) rfl (mixF_nn (by omega)) (mixF_lt (by omega))
  have m4 := pickS_mem (xs := [n.host, n.host, [113, 46] ++ n.host, h]) (j := mixF c 9803 4) (mixF_nn (by omega)) (mixF_lt (by omega))
  have hlen : (pickS [n.host, n.host, [113, 46] ++ n.host, h] (mixF c 9803 4)).length ≤ 50 := by
    simp only [List.mem_cons, List.not_mem_nil, or_false] at m4
    rcases m4 with m | m | m | m <;> rw [m] <;> (try simp only [List.length_append, List.length_cons, List.length_nil]) <;> omega
  generalize pickS [n.host, n.host, [113, 46] ++ n.host, h] (mixF c 9803 4) = h' at *
  have s1 : szOk (n.host.length + 2) = true := szOk_le (by omega)
  have s1' : szOk (2 + n.host.length) = true := szOk_le (by omega)
  simp only [List.map_cons, List.map_nil, List.cons_append, List.nil_append] at e4
  have x2 : ex (run (PG L) (k + 1)) (Sm.asg 4 (Ex.idx (Ex.tup (Exs.cons (Ex.idx (Ex.var 7) (Ex.dat (D.int 2))) (Exs.cons (Ex.idx (Ex.var 7) (Ex.dat (D.int 2))) (Exs.cons (Ex.bin Bop.add (Ex.dat (D.str [113, 46])) (Ex.idx (Ex.var 7) (Ex.dat (D.int 2)))) (Exs.cons (Ex.var 4) Exs.nil))))) (Ex.call 8 (Exs.cons (Ex.var 0) (Exs.cons (Ex.dat (D.int 9803)) (Exs.cons (Ex.dat (D.int 4)) Exs.nil)))))) [some (.int c), some (.tup (ns.map NT.d)), some (.int t), none, some (.str h), some (.str p), none, some n.d, some o.d] [] = .nx [some (.int c), some (.tup (ns.map NT.d)), some (.int t), none, some (.str h'), some (.str p), none, some n.d, some o.d] [] := by
    have et : ∀ S, idxD (.tup [.str n.host, .str n.host, .str (113 :: 46 :: n.host), .str h]) (.int (mixF c 9803 4)) S = .ok (.str h') S := fun S => by simp [idxD, e4, retO]
    simp [ex, ev, evs, i2, binD, addD, s1, s1', szOk_le, c_mix, et]
  have x3 : ex (run (PG L) (k + 1)) (Sm.asg 6 (Ex.ife (Ex.cmp Cop.eq (Ex.idx (Ex.var 8) (Ex.dat (D.int 4))) (Ex.dat (D.str [47]))) (Ex.dat (D.str [])) (Ex.idx (Ex.var 8) (Ex.dat (D.int 4))))) [some (.int c), some (.tup (ns.map NT.d)), some (.int t), none, some (.str h'), some (.str p), none, some n.d, some o.d] [] = .nx [some (.int c), some (.tup (ns.map NT.d)), some (.int t), none, some (.str h'), some (.str p), some (.str (if o.path == [47] then [] else o.path)), some n.d, some o.d] [] := by
    cases he : (o.path == [47]) <;> simp [ex, ev, evs, i4, cmpD, cmpO, eqS, der, D.pure, D.depth, eqD, he, blO, truth]
  generalize hmo : (if o.path == [47] then [] else o.path) = mo at *
  have hml : mo.length ≤ 10 := by
    rw [← hmo]
    split
    · simp
    · exact hol
  have np := near_path (p := o.path) (q := p) (j := mixF c 9791 4) hop hp (mixF_nn (by omega)) (mixF_lt (by omega))
  rw [hmo] at np
  have e5 := atZ_str (xs := [o.path, mo ++ [47, 113], o.path ++ [113], p]) (j := mixF c 9791 4) rfl (mixF_nn (by omega)) (mixF_lt (by omega))
  generalize pickS [o.path, mo ++ [47, 113], o.path ++ [113], p] (mixF c 9791 4) = p' at *
  simp only [List.map_cons, List.map_nil] at e5
  have s2 : szOk (mo.length + 2) = true := szOk_le (by omega)
  have s3 : szOk (o.path.length + 1) = true := szOk_le (by omega)
  have x4 : ex (run (PG L) (k + 1)) (Sm.asg 5 (Ex.idx (Ex.tup (Exs.cons (Ex.idx (Ex.var 8) (Ex.dat (D.int 4))) (Exs.cons (Ex.bin Bop.add (Ex.var 6) (Ex.dat (D.str [47, 113]))) (Exs.cons (Ex.bin Bop.add (Ex.idx (Ex.var 8) (Ex.dat (D.int 4))) (Ex.dat (D.str [113]))) (Exs.cons (Ex.var 5) Exs.nil))))) (Ex.call 8 (Exs.cons (Ex.var 0) (Exs.cons (Ex.dat (D.int 9791)) (Exs.cons (Ex.dat (D.int 4)) Exs.nil)))))) [some (.int c), some (.tup (ns.map NT.d)), some (.int t), none, some (.str h'), some (.str p), some (.str mo), some n.d, some o.d] [] = .nx [some (.int c), some (.tup (ns.map NT.d)), some (.int t), none, some (.str h'), some (.str p'), some (.str mo), some n.d, some o.d] [] := by
    have et : ∀ S, idxD (.tup [.str o.path, .str (mo ++ [47, 113]), .str (o.path ++ [113]), .str p]) (.int (mixF c 9791 4)) S = .ok (.str p') S := fun S => by simp [idxD, e5, retO]
    simp [ex, ev, evs, i4, binD, addD, s2, s3, szOk_le, c_mix, et]
  have m3a := mixF_nn (c := c) (p := 9787) (m := 3) (by omega)
  have m3b := mixF_lt (c := c) (p := 9787) (m := 3) (by omega)
  cases hf : n.fin with
  | none =>
    refine ⟨t, h', p', some (.str mo), some n.d, some o.d, ?_, hlen, np, t0, t1⟩
    refine (exs_cons x1).trans ((exs_cons x2).trans ((exs_cons x3).trans ((exs_cons x4).trans ?_)))
    simp [exs, ex, ev, evs, i5, hf, finD, cmpD, cmpO, isS, blO, truth]
  | some f =>
    refine ⟨if (if f + mixF c 9787 3 - 1 < 99 then f + mixF c 9787 3 - 1 else 99) > 0 then (if f + mixF c 9787 3 - 1 < 99 then f + mixF c 9787 3 - 1 else 99) else 0, h', p', some (.str mo), some n.d, some o.d, ?_, hlen, np, ?_, ?_⟩
    · refine (exs_cons x1).trans ((exs_cons x2).trans ((exs_cons x3).trans ((exs_cons x4).trans ?_)))
      simp [exs, ex, ev, evs, i5, hf, finD, cmpD, cmpO, isS, blO, truth, biD, two, min2D, max2D, binD, addD, subD, c_mix]
    · split <;> omega
    · split <;> (try split) <;> omega
theorem ask_if {c t : Int} {h p : List Nat} {ns : List NT} (hn : ∀ n ∈ ns, n.Ok) (hh : h.length ≤ 9) (hp : PathG p) (t0 : 0 ≤ t) (t1 : t ≤ 99) :
    ∃ t' h' p' v6 v7 v8, ex (run (PG L) (k + 1)) askIf [some (.int c), some (.tup (ns.map NT.d)), some (.int t), none, some (.str h), some (.str p), none, none, none] [] = .nx [some (.int c), some (.tup (ns.map NT.d)), some (.int t'), none, some (.str h'), some (.str p'), v6, v7, v8] [] ∧ h'.length ≤ 50 ∧ PathG p' ∧ 0 ≤ t' ∧ t' ≤ 99 := by
  have m1 : ∀ a, min a 1 ≤ 60 := fun a => by omega
  have ec : ev (run (PG L) (k + 1)) (Ex.and (Ex.cmp Cop.ne (Ex.var 1) (Ex.tup Exs.nil)) (Ex.cmp Cop.gt (Ex.call 8 (Exs.cons (Ex.var 0) (Exs.cons (Ex.dat (D.int 9829)) (Exs.cons (Ex.dat (D.int 5)) Exs.nil)))) (Ex.dat (D.int 0)))) [some (.int c), some (.tup (ns.map NT.d)), some (.int t), none, some (.str h), some (.str p), none, none, none] [] = .ok (.bl (!ns.isEmpty && decide (0 < mixF c 9829 5))) [] := by
    cases ns with
    | nil => simp [ev, evs, szOk_le, cmpD, cmpO, eqS, der, D.pure, D.pureAll, D.depth, D.depthAll, eqD, eqDs, blO, truth]
    | cons r0 rest =>
      have pa := pureAll_nts (r0 :: rest)
      rw [List.map_cons] at pa
      simp [ev, evs, szOk_le, cmpD, cmpO, eqS, der, D.pure, NT.pure, D.pureAll, D.depth, D.depthAll, m1, eqD, eqDs, blO, truth, c_mix, ltO]
  unfold askIf
  rw [ex_ife ec rfl rfl]
  cases hc : (!ns.isEmpty && decide (0 < mixF c 9829 5)) with
  | false => exact ⟨t, h, p, none, none, none, rfl, by omega, hp, t0, t1⟩
  | true =>
    rw [if_pos rfl]
    have h0 : 0 < ns.length := by
      cases ns with
      | nil => exact nomatch hc
      | cons _ _ => simp
    exact ask_note hn h0 hh hp t0 t1
theorem ask_org {c t : Int} {h p : List Nat} {a b v6 v7 v8 : Option D} (hh : h.length ≤ 50) : ∃ o : Option (List Nat), (∀ s, o = some s → s.length ≤ 100) ∧ ex (run (PG L) (k + 1)) (Sm.asg 3 (Ex.idx (Ex.tup (Exs.cons (Ex.dat D.non) (Exs.cons (Ex.dat (D.str [113, 46, 113])) (Exs.cons (Ex.var 4) (Exs.cons (Ex.bin Bop.add (Ex.dat (D.str [113, 46])) (Ex.meth Me.join (Ex.dat (D.str [46])) (Exs.cons (Ex.slc (Ex.meth Me.split (Ex.var 4) (Exs.cons (Ex.dat (D.str [46])) Exs.nil)) (Ex.dat (D.int (-2))) (Ex.dat D.non)) Exs.nil))) (Exs.cons (Ex.dat (D.str [97])) Exs.nil)))))) (Ex.call 8 (Exs.cons (Ex.var 0) (Exs.cons (Ex.dat (D.int 9781)) (Exs.cons (Ex.dat (D.int 5)) Exs.nil)))))) [some (.int c), a, b, none, some (.str h), some (.str p), v6, v7, v8] [] = .nx [some (.int c), a, b, some (orgD o), some (.str h), some (.str p), v6, v7, v8] [] := by
  have ls := last_sz (h := h) (by omega)
  have sl := sum_drop (splitC 46 h) ((splitC 46 h).length - 2)
  have ss := split_sz 46 h
  have jl := joinN_len [46] (lastTwo (splitC 46 h))
  have hsl : (siteF h).length ≤ 60 := by
    unfold siteF lastTwo at *
    simp only [List.length_singleton, Nat.mul_one] at jl
    omega
  have l2 : szOk (lastTwo (splitC 46 h)).length = true := szOk_le (by omega)
  have c2 : cutL ((splitC 46 h).map D.str) (some (-2)) none = (lastTwo (splitC 46 h)).map D.str := by
    rw [cut_two]; simp [lastTwo, List.map_drop]
  have j := joinD_ok (c := 46) (d := .loc 1) (S := [.lst ((splitC 46 h).map .str), .lst ((lastTwo (splitC 46 h)).map .str)]) rfl ls
  have sz : szOk (2 + (siteF h).length) = true := szOk_le (by omega)
  have et : ev (run (PG L) (k + 1)) (Ex.tup (Exs.cons (Ex.dat D.non) (Exs.cons (Ex.dat (D.str [113, 46, 113])) (Exs.cons (Ex.var 4) (Exs.cons (Ex.bin Bop.add (Ex.dat (D.str [113, 46])) (Ex.meth Me.join (Ex.dat (D.str [46])) (Exs.cons (Ex.slc (Ex.meth Me.split (Ex.var 4) (Exs.cons (Ex.dat (D.str [46])) Exs.nil)) (Ex.dat (D.int (-2))) (Ex.dat D.non)) Exs.nil))) (Exs.cons (Ex.dat (D.str [97])) Exs.nil)))))) [some (.int c), a, b, none, some (.str h), some (.str p), v6, v7, v8] []
      = .ok (.tup [.non, .str [113, 46, 113], .str h, .str ([113, 46] ++ siteF h), .str [97]]) [.lst ((splitC 46 h).map .str), .lst ((lastTwo (splitC 46 h)).map .str)] := by
    have sp := fun S => splitD_ok (s := h) (c := 46) (S := S) (by omega) (by omega)
    have j' : joinD (.str [46]) (.loc 1) [.lst ((splitC 46 h).map .str), .lst ((lastTwo (splitC 46 h)).map .str)] = .ok (.str (siteF h)) [.lst ((splitC 46 h).map .str), .lst ((lastTwo (splitC 46 h)).map .str)] := j
    simp [ev, evs, tyOk, isStr, methD, one, sp, slcD, partO, listOf, c2, newL, l2, j', binD, addD, sz, szOk_le]
  have hm0 := mixF_nn (c := c) (p := 9781) (m := 5) (by omega)
  have hm1 := mixF_lt (c := c) (p := 9781) (m := 5) (by omega)
  have fin : ∀ o : Option (List Nat), atZ [.non, .str [113, 46, 113], .str h, .str ([113, 46] ++ siteF h), .str [97]] (mixF c 9781 5) = some (orgD o) → ex (run (PG L) (k + 1)) (Sm.asg 3 (Ex.idx (Ex.tup (Exs.cons (Ex.dat D.non) (Exs.cons (Ex.dat (D.str [113, 46, 113])) (Exs.cons (Ex.var 4) (Exs.cons (Ex.bin Bop.add (Ex.dat (D.str [113, 46])) (Ex.meth Me.join (Ex.dat (D.str [46])) (Exs.cons (Ex.slc (Ex.meth Me.split (Ex.var 4) (Exs.cons (Ex.dat (D.str [46])) Exs.nil)) (Ex.dat (D.int (-2))) (Ex.dat D.non)) Exs.nil))) (Exs.cons (Ex.dat (D.str [97])) Exs.nil)))))) (Ex.call 8 (Exs.cons (Ex.var 0) (Exs.cons (Ex.dat (D.int 9781)) (Exs.cons (Ex.dat (D.int 5)) Exs.nil)))))) [some (.int c), a, b, none, some (.str h), some (.str p), v6, v7, v8] [] = .nx [some (.int c), a, b, some (orgD o), some (.str h), some (.str p), v6, v7, v8] [] := fun o ho => by
    have lo : (orgD o).low 0 = true := by cases o <;> rfl
    refine ex_asg (d := orgD o) (d' := orgD o) (S1 := [.lst ((splitC 46 h).map .str), .lst ((lastTwo (splitC 46 h)).map .str)]) (S2 := []) ?_ (by simp [gc, closedS, lo]) (by simp)
    rw [ev, et]
    simp only [ok_bind]
    rw [ev_call, evs_cons, ev_var (d := .int c) rfl]
    simp only [ok_bind, evs_cons, ev_dat, evs_nil]
    rw [c_mix (by omega) (by omega) (by omega)]
    simp only [ok_bind, idxD, ho, retO]
  have : mixF c 9781 5 = 0 ∨ mixF c 9781 5 = 1 ∨ mixF c 9781 5 = 2 ∨ mixF c 9781 5 = 3 ∨ mixF c 9781 5 = 4 := by omega
  rcases this with z | z | z | z | z
  · exact ⟨none, by simp, fin none (by rw [z]; rfl)⟩
  · exact ⟨some [113, 46, 113], by simp, fin (some _) (by rw [z]; rfl)⟩
  · exact ⟨some h, fun s hs => by cases hs; omega, fin (some _) (by rw [z]; rfl)⟩
  · exact ⟨some ([113, 46] ++ siteF h), fun s hs => by cases hs; simp; omega, fin (some _) (by rw [z]; rfl)⟩
  · exact ⟨some [97], by simp, fin (some _) (by rw [z]; rfl)⟩
theorem r_ask {c : Int} {ns : List NT} (hn : ∀ n ∈ ns, n.Ok) : ∃ a : AT, Gives (run (PG L) (k + 3)) 25 [.int c, .tup (ns.map NT.d)] a.d ∧ a.Ok := by
  have hh := (host_ok (c + 3)).len
  obtain ⟨t', h', p', v6, v7, v8, x3, hl, hp, t0, t1⟩ := ask_if (L := L) (k := k + 1) (c := c) (t := mixF c 9833 100) (h := hostF (c + 3)) (p := pathF (c + 4)) hn hh (path_ok _).g (mixF_nn (by omega)) (by have := mixF_lt (c := c) (p := 9833) (m := 100) (by omega); omega)
  obtain ⟨o, ho, x4⟩ := ask_org (L := L) (k := k + 1) (c := c) (t := t') (h := h') (p := p') (a := some (.tup (ns.map NT.d))) (b := some (.int t')) (v6 := v6) (v7 := v7) (v8 := v8) hl
  refine ⟨⟨h', p', t', mixF c 9769 2 == 0, o, mixF c 9767 2 == 0⟩, ⟨[], ?_⟩, ⟨hl, hp, t0, t1, ho⟩⟩
  rw [run_fd (fd := fd__law_ask) rfl rfl]
  show endD (exs _ sm__law_ask [some (.int c), some (.tup (ns.map NT.d)), none, none, none, none, none, none, none] []) = _
  have x1 : ex (run (PG L) (k + 2)) (Sm.par [4, 5] (Exs.cons (Ex.call 10 (Exs.cons (Ex.bin Bop.add (Ex.var 0) (Ex.dat (D.int 3))) Exs.nil)) (Exs.cons (Ex.call 11 (Exs.cons (Ex.bin Bop.add (Ex.var 0) (Ex.dat (D.int 4))) Exs.nil)) Exs.nil))) [some (.int c), some (.tup (ns.map NT.d)), none, none, none, none, none, none, none] [] = .nx [some (.int c), some (.tup (ns.map NT.d)), none, none, some (.str (hostF (c + 3))), some (.str (pathF (c + 4))), none, none, none] [] := by
    simp [ex, ev, evs, binD, addD, c_host, c_path, setAll]
  have x2 : ex (run (PG L) (k + 2)) (Sm.asg 2 (Ex.call 8 (Exs.cons (Ex.var 0) (Exs.cons (Ex.dat (D.int 9833)) (Exs.cons (Ex.dat (D.int 100)) Exs.nil))))) [some (.int c), some (.tup (ns.map NT.d)), none, none, some (.str (hostF (c + 3))), some (.str (pathF (c + 4))), none, none, none] [] = .nx [some (.int c), some (.tup (ns.map NT.d)), some (.int (mixF c 9833 100)), none, some (.str (hostF (c + 3))), some (.str (pathF (c + 4))), none, none, none] [] := by
    simp [ex, ev, evs, c_mix]
  have x5 : ex (run (PG L) (k + 2)) (Sm.ret (Ex.tup (Exs.cons (Ex.var 4) (Exs.cons (Ex.var 5) (Exs.cons (Ex.var 2) (Exs.cons (Ex.cmp Cop.eq (Ex.call 8 (Exs.cons (Ex.var 0) (Exs.cons (Ex.dat (D.int 9769)) (Exs.cons (Ex.dat (D.int 2)) Exs.nil)))) (Ex.dat (D.int 0))) (Exs.cons (Ex.var 3) (Exs.cons (Ex.cmp Cop.eq (Ex.call 8 (Exs.cons (Ex.var 0) (Exs.cons (Ex.dat (D.int 9767)) (Exs.cons (Ex.dat (D.int 2)) Exs.nil)))) (Ex.dat (D.int 0))) Exs.nil)))))))) [some (.int c), some (.tup (ns.map NT.d)), some (.int t'), some (orgD o), some (.str h'), some (.str p'), v6, v7, v8] [] = .rt (AT.d ⟨h', p', t', mixF c 9769 2 == 0, o, mixF c 9767 2 == 0⟩) [] := by
    simp [ex, ev, evs, c_mix, cmpD, cmpO, eqS, der, D.pure, D.depth, eqD, blO, szOk_le, AT.d]
  have y : exs (run (PG L) (k + 2)) sm__law_ask [some (.int c), some (.tup (ns.map NT.d)), none, none, none, none, none, none, none] [] = .rt (AT.d ⟨h', p', t', mixF c 9769 2 == 0, o, mixF c 9767 2 == 0⟩) [] :=
    (exs_cons x1).trans ((exs_cons x2).trans ((exs_cons x3).trans ((exs_cons x4).trans (exs_rt x5))))
  rw [y]
  rfl
theorem c_ask {c : Int} {ns : List NT} {S : Store} (hn : ∀ n ∈ ns, n.Ok) : ∃ a : AT, callF (run (PG L) (k + 3)) 25 [.int c, .tup (ns.map NT.d)] S = .ok a.d S ∧ a.Ok := by
  obtain ⟨a, h1, h2⟩ := r_ask (L := L) (k := k) (c := c) hn
  exact ⟨a, callF_ok (by simp [D.pureAll, D.pure]) h1 (AT.pure a), h2⟩
end Lw
set_option Elab.async false
set_option linter.all false
set_option maxRecDepth 100000
set_option maxHeartbeats 1000000
namespace Lw
open Ev
variable {L : FD} {k : Nat} {r : RT} {n : NT} {a : AT}
/-! ### what fits -/
theorem ir0 (S : Store) : idxD r.d (.int 0) S = .ok (.str r.r0) S := by simp [idxD, atZ, retO, RT.d]
theorem ir1 (S : Store) : idxD r.d (.int 1) S = .ok (.str r.r1) S := by simp [idxD, atZ, retO, RT.d]
theorem ir2 (S : Store) : idxD r.d (.int 2) S = .ok (.str r.r2) S := by simp [idxD, atZ, retO, RT.d]
theorem ir3 (S : Store) : idxD r.d (.int 3) S = .ok (.str r.r3) S := by simp [idxD, atZ, retO, RT.d]
theorem ir4 (S : Store) : idxD r.d (.int 4) S = .ok (.str r.r4) S := by simp [idxD, atZ, retO, RT.d]
theorem in0 (S : Store) : idxD n.d (.int 0) S = .ok (.str n.nm) S := by simp [idxD, atZ, retO, NT.d]
theorem in2 (S : Store) : idxD n.d (.int 2) S = .ok (.str n.host) S := by simp [idxD, atZ, retO, NT.d]
theorem in3 (S : Store) : idxD n.d (.int 3) S = .ok (.bl n.deep) S := by simp [idxD, atZ, retO, NT.d]
theorem in4 (S : Store) : idxD n.d (.int 4) S = .ok (.str n.path) S := by simp [idxD, atZ, retO, NT.d]
theorem in5 (S : Store) : idxD n.d (.int 5) S = .ok (finD n.fin) S := by simp [idxD, atZ, retO, NT.d]
theorem in6 (S : Store) : idxD n.d (.int 6) S = .ok (.bl n.safe) S := by simp [idxD, atZ, retO, NT.d]
theorem in7 (S : Store) : idxD n.d (.int 7) S = .ok (.str n.side) S := by simp [idxD, atZ, retO, NT.d]
theorem ia0 (S : Store) : idxD a.d (.int 0) S = .ok (.str a.host) S := by simp [idxD, atZ, retO, AT.d]
theorem ia1 (S : Store) : idxD a.d (.int 1) S = .ok (.str a.path) S := by simp [idxD, atZ, retO, AT.d]
theorem ia2 (S : Store) : idxD a.d (.int 2) S = .ok (.int a.time) S := by simp [idxD, atZ, retO, AT.d]
theorem ia3 (S : Store) : idxD a.d (.int 3) S = .ok (.bl a.safe) S := by simp [idxD, atZ, retO, AT.d]
theorem ia4 (S : Store) : idxD a.d (.int 4) S = .ok (orgD a.org) S := by simp [idxD, atZ, retO, AT.d]
theorem ia5 (S : Store) : idxD a.d (.int 5) S = .ok (.bl a.near) S := by simp [idxD, atZ, retO, AT.d]
theorem cmp_eqs {x y : List Nat} {S : Store} : cmpD .eq (.str x) (.str y) S = .ok (.bl (x == y)) S := by simp [cmpD, cmpO, eqS, der, D.pure, D.depth, eqD, blO]
def always : List Nat := [97, 108, 119, 97, 121, 115]
def never : List Nat := [110, 101, 118, 101, 114]
def told : List Nat := [116, 111, 108, 100]
def hostFits (r : RT) (n : NT) (h : List Nat) : Bool := (h == n.host) || ((r.r1 == always || (r.r1 == told && n.deep)) && (46 :: n.host).isSuffixOf h)
theorem r_host_fits {h : List Nat} (hn : n.host.length ≤ 1000) : Gives (run (PG L) (k + 2)) 17 [r.d, n.d, .str h] (.bl (hostFits r n h)) := by
  refine ⟨[], ?_⟩
  rw [run_fd (fd := fd_host_fits) rfl rfl]
  show endD (exs _ sm_host_fits [some r.d, some n.d, some (.str h), none] []) = _
  have cb := fun S => c_below (L := L) (k := k) (a := h) (b := n.host) (S := S) (by omega)
  unfold hostFits always told
  cases e1 : (h == n.host) <;> cases e2 : (r.r1 == [97, 108, 119, 97, 121, 115]) <;> cases e3 : (r.r1 == [116, 111, 108, 100]) <;> cases e4 : n.deep <;>
    simp [sm_host_fits, exs, ex, ev, evs, ir1, in2, in3, cmp_eqs, e1, e2, e3, e4, truth, cb, endD]
theorem c_host_fits {h : List Nat} {S : Store} (hn : n.host.length ≤ 1000) : callF (run (PG L) (k + 2)) 17 [r.d, n.d, .str h] S = .ok (.bl (hostFits r n h)) S := callF_ok (by simp [D.pureAll, NT.pure, RT.pure, D.pure]) (r_host_fits hn) rfl
def hasEnded (r : RT) (n : NT) (t : Int) : Bool := match n.fin with
  | none => false
  | some f => if r.r2 == [117, 110, 116, 105, 108] then decide (f ≤ t) else decide (f < t)
theorem r_ended {t : Int} : Gives (run (PG L) (k + 1)) 19 [r.d, n.d, .int t] (.bl (hasEnded r n t)) := by
  refine ⟨[], ?_⟩
  rw [run_fd (fd := fd_has_ended) rfl rfl]
  show endD (exs _ sm_has_ended [some r.d, some n.d, some (.int t)] []) = _
  unfold hasEnded
  cases e1 : n.fin with
  | none => simp [sm_has_ended, exs, ex, ev, evs, in5, e1, finD, cmpD, cmpO, isS, blO, truth, endD]
  | some f =>
    cases e2 : (r.r2 == [117, 110, 116, 105, 108]) <;>
      simp [sm_has_ended, exs, ex, ev, evs, in5, ir2, e1, e2, finD, cmpD, cmpO, isS, eqS, der, D.pure, D.depth, eqD, leO, ltO, blO, truth, endD]
theorem c_ended {t : Int} {S : Store} : callF (run (PG L) (k + 1)) 19 [r.d, n.d, .int t] S = .ok (.bl (hasEnded r n t)) S := callF_ok (by simp [D.pureAll, NT.pure, RT.pure, D.pure]) r_ended rfl
theorem r_lended {t : Int} : Gives (run (PG L) (k + 1)) 28 [r.d, n.d, .int t] (.bl (hasEnded r n t)) := by
  refine ⟨[], ?_⟩
  rw [run_fd (fd := fd__law_ended) rfl rfl]
  show endD (exs _ sm__law_ended [some r.d, some n.d, some (.int t)] []) = _
  unfold hasEnded
  cases e1 : n.fin with
  | none => simp [sm__law_ended, exs, ex, ev, evs, in5, e1, finD, cmpD, cmpO, isS, blO, truth, endD]
  | some f =>
    by_cases h1 : f < t
    · have h2 : f ≤ t := by omega
      cases e2 : (r.r2 == [117, 110, 116, 105, 108]) <;>
        simp [sm__law_ended, exs, ex, ev, evs, in5, ir2, e1, e2, h1, h2, finD, cmpD, cmpO, isS, eqS, der, D.pure, D.depth, eqD, leO, ltO, blO, truth, endD]
    · by_cases h3 : t = f
      · subst h3
        cases e2 : (r.r2 == [117, 110, 116, 105, 108]) <;>
          simp [sm__law_ended, exs, ex, ev, evs, in5, ir2, e1, e2, finD, cmpD, cmpO, isS, eqS, der, D.pure, D.depth, eqD, leO, ltO, blO, truth, endD]
      · have h2 : ¬ f ≤ t := by omega
        have h4 : (t == f) = false := beq_eq_false_iff_ne.mpr h3
        cases e2 : (r.r2 == [117, 110, 116, 105, 108]) <;>
          simp [sm__law_ended, exs, ex, ev, evs, in5, ir2, e1, e2, h1, h2, h4, finD, cmpD, cmpO, isS, eqS, der, D.pure, D.depth, eqD, leO, ltO, blO, truth, endD]
theorem c_lended {t : Int} {S : Store} : callF (run (PG L) (k + 1)) 28 [r.d, n.d, .int t] S = .ok (.bl (hasEnded r n t)) S := callF_ok (by simp [D.pureAll, NT.pure, RT.pure, D.pure]) r_lended rfl
def safeFits (r : RT) (n : NT) (a : AT) : Bool := !n.safe || a.safe || (r.r3 == [102, 114, 101, 101])
theorem r_safe : Gives (run (PG L) (k + 1)) 20 [r.d, n.d, a.d] (.bl (safeFits r n a)) := by
  refine ⟨[], ?_⟩
  rw [run_fd (fd := fd_safe_fits) rfl rfl]
  show endD (exs _ sm_safe_fits [some r.d, some n.d, some a.d] []) = _
  unfold safeFits
  cases e1 : n.safe <;> cases e2 : a.safe <;> simp [sm_safe_fits, exs, ex, ev, evs, in6, ia3, ir3, e1, e2, cmp_eqs, truth, endD]
theorem c_safe {S : Store} : callF (run (PG L) (k + 1)) 20 [r.d, n.d, a.d] S = .ok (.bl (safeFits r n a)) S := callF_ok (by simp [D.pureAll, NT.pure, RT.pure, AT.pure]) r_safe rfl
theorem r_lsafe : Gives (run (PG L) (k + 1)) 29 [r.d, n.d, a.d] (.bl (safeFits r n a)) := by
  refine ⟨[], ?_⟩
  rw [run_fd (fd := fd__law_safe_fits) rfl rfl]
  show endD (exs _ sm__law_safe_fits [some r.d, some n.d, some a.d] []) = _
  unfold safeFits
  cases e1 : n.safe <;> cases e2 : a.safe <;> simp [sm__law_safe_fits, exs, ex, ev, evs, in6, ia3, ir3, e1, e2, cmp_eqs, truth, endD]
theorem c_lsafe {S : Store} : callF (run (PG L) (k + 1)) 29 [r.d, n.d, a.d] S = .ok (.bl (safeFits r n a)) S := callF_ok (by simp [D.pureAll, NT.pure, RT.pure, AT.pure]) r_lsafe rfl
end Lw
set_option Elab.async false
set_option linter.all false
set_option maxRecDepth 100000
set_option maxHeartbeats 1000000
namespace Lw
open Ev
variable {L : FD} {k : Nat} {r : RT} {n : NT} {a : AT}
theorem cut_hi {α : Type} (xs : List α) (m : Nat) : cutL xs none (some (m : Int)) = xs.take m := by
  unfold cutL
  simp only [cutIx, List.drop_zero, Nat.sub_zero]
  rw [if_neg (by omega), Int.toNat_natCast]
  by_cases h : m ≤ xs.length
  · rw [Nat.min_eq_left h]
  · rw [Nat.min_eq_right (by omega), List.take_length, List.take_of_length_le (by omega)]
theorem prefix_take (p q : List Nat) : (q.take p.length == p) = p.isPrefixOf q := by
  rw [Bool.eq_iff_iff, beq_iff_eq, List.isPrefixOf_iff_prefix, List.prefix_iff_eq_take, eq_comm]
def pathFits (r : RT) (n : NT) (p : List Nat) : Bool := if r.r0 == [115, 105, 103, 110, 115] then n.path.isPrefixOf p else ((stepsF p).take (stepsF n.path).length == stepsF n.path)
theorem eqDs_st (a b : List (List Nat)) : eqDs (a.map D.str) (b.map D.str) = (a == b) := by
  induction a generalizing b with
  | nil => cases b <;> rfl
  | cons x xs ih =>
    cases b with
    | nil => rfl
    | cons y ys =>
      show ((x == y) && eqDs (xs.map D.str) (ys.map D.str)) = _
      rw [ih]
      rfl
theorem depth_st (a : List (List Nat)) : D.depthAll (a.map D.str) = 0 := by
  induction a with
  | nil => rfl
  | cons x xs ih => rw [List.map_cons, D.depthAll, ih]; rfl
theorem r_path_fits {p : List Nat} (hn : PathG n.path) (hp : PathG p) : Gives (run (PG L) (k + 2)) 18 [r.d, n.d, .str p] (.bl (pathFits r n p)) := by
  refine ⟨[], ?_⟩
  rw [run_fd (fd := fd_path_fits) rfl rfl]
  show endD (exs _ sm_path_fits [some r.d, some n.d, some (.str p), none] []) = _
  have c1 := fun S => c_stepsG (L := L) (k := k) (S := S) hn
  have c2 := fun S => c_stepsG (L := L) (k := k) (S := S) hp
  have ct : cutL ((stepsF p).map D.str) none (some ((stepsF n.path).length : Int)) = ((stepsF p).take (stepsF n.path).length).map D.str := by rw [cut_hi, List.map_take]
  have e3 := eqDs_st ((stepsF p).take (stepsF n.path).length) (stepsF n.path)
  have p1 := pureAll_strs ((stepsF p).take (stepsF n.path).length)
  have d1 := depth_st ((stepsF p).take (stepsF n.path).length)
  have d2 := depth_st (stepsF n.path)
  unfold pathFits
  cases e1 : (r.r0 == [115, 105, 103, 110, 115])
  · have ce : ∀ S, cmpD .eq (.tup (((stepsF p).take (stepsF n.path).length).map D.str)) (.tup ((stepsF n.path).map D.str)) S = .ok (.bl ((stepsF p).take (stepsF n.path).length == stepsF n.path)) S := fun S => by
      simp only [cmpD, cmpO, eqS, der, D.pure, p1, pureAll_strs, D.depth, d1, d2, eqD, e3, if_true]
      rfl
    simp only [List.map_take] at ce ct
    simp [sm_path_fits, exs, ex, ev, evs, ir0, in4, cmp_eqs, e1, truth, c1, c2, biD, one, lenD, seqOf, slcD, partO, ct, ce, endD]
  · simp [sm_path_fits, exs, ex, ev, evs, ir0, in4, cmp_eqs, e1, truth, tyOk, isStr, methD, one, startsD, endD]
theorem c_path_fits {p : List Nat} {S : Store} (hn : PathG n.path) (hp : PathG p) : callF (run (PG L) (k + 2)) 18 [r.d, n.d, .str p] S = .ok (.bl (pathFits r n p)) S := callF_ok (by simp [D.pureAll, NT.pure, RT.pure, D.pure]) (r_path_fits hn hp) rfl
theorem r_lhost_fits {h : List Nat} (ok : r.Ok) (hn : n.host.length ≤ 1000) (hh : h.length ≤ 1000) : Gives (run (PG L) (k + 1)) 26 [r.d, n.d, .str h] (.bl (hostFits r n h)) := by
  rw [Gives]
  rw [show run (PG L) (k + 1) 26 [r.d, n.d, .str h] [] = endD (exs (run (PG L) k) sm__law_host_fits [some r.d, some n.d, some (.str h), none, none] []) from run_fd (fd := fd__law_host_fits) rfl rfl]
  have wide : (r.r1 == always || (r.r1 == told && n.deep)) = !((r.r1 == never) || ((r.r1 == told) && !n.deep)) := by
    have o := ok.o1
    simp only [tk1, List.mem_cons, List.not_mem_nil, or_false] at o
    rcases o with o | o | o <;> rw [o] <;> cases n.deep <;> rfl
  unfold hostFits
  rw [wide]
  unfold never told
  cases e1 : (h == n.host) with
  | true => exact ⟨[], by simp [sm__law_host_fits, exs, ex, ev, evs, in2, cmp_eqs, e1, truth, endD]⟩
  | false =>
    cases e2 : ((r.r1 == [110, 101, 118, 101, 114]) || ((r.r1 == [116, 111, 108, 100]) && !n.deep)) with
    | true =>
      refine ⟨[], ?_⟩
      cases a1 : (r.r1 == [110, 101, 118, 101, 114]) <;> cases a2 : (r.r1 == [116, 111, 108, 100]) <;> cases a3 : n.deep <;> rw [a1, a2, a3] at e2 <;>
        first | (exact absurd e2 (by decide)) | simp [sm__law_host_fits, exs, ex, ev, evs, in2, in3, ir1, cmp_eqs, e1, a1, a2, a3, truth, endD]
    | false =>
      have x2 : ex (run (PG L) k) (Sm.ife (Ex.or (Ex.cmp Cop.eq (Ex.idx (Ex.var 0) (Ex.dat (D.int 1))) (Ex.dat (D.str [110, 101, 118, 101, 114]))) (Ex.and (Ex.cmp Cop.eq (Ex.idx (Ex.var 0) (Ex.dat (D.int 1))) (Ex.dat (D.str [116, 111, 108, 100]))) (Ex.not (Ex.idx (Ex.var 1) (Ex.dat (D.int 3)))))) (Sms.cons (Sm.ret (Ex.dat (D.bl false))) Sms.nil) Sms.nil) [some r.d, some n.d, some (.str h), none, none] [] = .nx [some r.d, some n.d, some (.str h), none, none] [] := by
        cases a1 : (r.r1 == [110, 101, 118, 101, 114]) <;> cases a2 : (r.r1 == [116, 111, 108, 100]) <;> cases a3 : n.deep <;> rw [a1, a2, a3] at e2 <;>
          first | (exact absurd e2 (by decide)) | simp [exs, ex, ev, evs, in3, ir1, cmp_eqs, a1, a2, a3, truth]
      have s1 := fun S => splitD_ok (s := h) (c := 46) (S := S) (by omega) (by omega)
      have s2 := fun S => splitD_ok (s := n.host) (c := 46) (S := S) (by omega) (by omega)
      rw [below_eq]
      by_cases hlt : (splitC 46 n.host).length < (splitC 46 h).length
      · have e3 : cutL ((splitC 46 h).map D.str) (some (((splitC 46 h).length : Int) - (splitC 46 n.host).length)) none = ((splitC 46 h).drop ((splitC 46 h).length - (splitC 46 n.host).length)).map D.str := by
          rw [cutL_lo, List.map_drop]
          congr 1
          rw [List.length_map, cutIx]
          split <;> omega
        have z1 : szOk ((splitC 46 h).length - ((splitC 46 h).length - (splitC 46 n.host).length)) = true := szOk_le (by have := split_len 46 h; omega)
        have q3 := eqDs_st ((splitC 46 h).drop ((splitC 46 h).length - (splitC 46 n.host).length)) (splitC 46 n.host)
        have p1 := pureAll_strs ((splitC 46 h).drop ((splitC 46 h).length - (splitC 46 n.host).length))
        have d1 := depth_st ((splitC 46 h).drop ((splitC 46 h).length - (splitC 46 n.host).length))
        have d2 := depth_st (splitC 46 n.host)
        rw [List.map_drop] at e3 q3 p1 d1
        refine ⟨[.lst ((splitC 46 h).map .str), .lst ((splitC 46 n.host).map .str), .lst (((splitC 46 h).map D.str).drop ((splitC 46 h).length - (splitC 46 n.host).length))], ?_⟩
        unfold sm__law_host_fits
        rw [exs_cons (ρ1 := [some r.d, some n.d, some (.str h), none, none]) (S1 := []) (by simp [ex, exs, ev, evs, in2, cmp_eqs, e1, truth]), exs_cons x2]
        simp [exs, ex, ev, evs, in2, tyOk, isStr, methD, one, s1, s2, setAll, biD, lenD, seqOf, listOf, cmpD, cmpO, ltO, blO, hlt, truth, binD, subD, slcD, partO, e3, newL, z1, p1, eqS, der, D.depth, d1, d2, eqD, q3, endD]
      · refine ⟨[.lst ((splitC 46 h).map .str), .lst ((splitC 46 n.host).map .str)], ?_⟩
        unfold sm__law_host_fits
        rw [exs_cons (ρ1 := [some r.d, some n.d, some (.str h), none, none]) (S1 := []) (by simp [ex, exs, ev, evs, in2, cmp_eqs, e1, truth]), exs_cons x2]
        simp [exs, ex, ev, evs, in2, tyOk, isStr, methD, one, s1, s2, setAll, biD, lenD, seqOf, listOf, cmpD, cmpO, ltO, blO, hlt, truth, endD]
theorem c_lhost_fits {h : List Nat} {S : Store} (ok : r.Ok) (hn : n.host.length ≤ 1000) (hh : h.length ≤ 1000) : callF (run (PG L) (k + 1)) 26 [r.d, n.d, .str h] S = .ok (.bl (hostFits r n h)) S := callF_ok (by simp [D.pureAll, NT.pure, RT.pure, D.pure]) (r_lhost_fits ok hn hh) rfl
end Lw
set_option Elab.async false
set_option linter.all false
set_option maxRecDepth 100000
/-! Sy: the small language by simp. -/
namespace Lw
open Ev
section
variable {F : Nat → List D → Store → Out D} {ρ : Env} {S : Store} {a b c t : Ex} {es : Exs} {i : Nat}
/-! ### outcomes -/
/-- an outcome is a datum -/
def Is (o : Out D) (d : D) : Prop := ∃ S', o = .ok d S'
def IsL (o : Out D) (xs : List D) : Prop := ∃ S' j, o = .ok (.loc j) S' ∧ S'[j]? = some (.lst xs)
@[simp] theorem is_ok {d e : D} : Is (.ok d S) e ↔ d = e := ⟨fun ⟨_, h⟩ => by cases h; rfl, fun h => by cases h; exact ⟨S, rfl⟩⟩
@[simp] theorem is_ite {p : Prop} [Decidable p] {o u : Out D} {e : D} : Is (if p then o else u) e ↔ if p then Is o e else Is u e := by split <;> rfl
@[simp] theorem isL_ok {j : Nat} {xs : List D} : IsL (.ok (.loc j) S) xs ↔ S[j]? = some (.lst xs) := ⟨fun ⟨_, _, h, q⟩ => by cases h; exact q, fun h => ⟨_, _, rfl, h⟩⟩
@[simp] theorem isL_ite {p : Prop} [Decidable p] {o u : Out D} {e : List D} : IsL (if p then o else u) e ↔ if p then IsL o e else IsL u e := by split <;> rfl
theorem gives_of {P : Nat → Option FD} {k f : Nat} {fd : FD} {ds : List D} {d : D} (h : P f = some fd) (hl : ds.length = fd.np) (q : Is (endD (exs (run P k) fd.body (start0 fd.ns ds) [])) d) : Gives (run P (k + 1)) f ds d := by
  obtain ⟨S', q⟩ := q
  exact ⟨S', by rw [run_fd h hl, q]⟩
theorem givesL_of {P : Nat → Option FD} {k f : Nat} {fd : FD} {ds : List D} {d : List D} (h : P f = some fd) (hl : ds.length = fd.np) (q : IsL (endD (exs (run P k) fd.body (start0 fd.ns ds) [])) d) : GivesL (run P (k + 1)) f ds d := by
  obtain ⟨S', j, q, e⟩ := q
  exact ⟨S', j, by rw [run_fd h hl, q], e⟩
@[simp] theorem bind_ite {α β : Type} {p : Prop} [Decidable p] {o u : Out α} {f : α → Store → Out β} : (if p then o else u).bind f = if p then o.bind f else u.bind f := by split <;> rfl
@[simp] theorem thn_ite {α : Type} {p : Prop} [Decidable p] {o u : Out α} {f : α → Store → SOut} : Out.thn ρ (if p then o else u) f = if p then o.thn ρ f else u.thn ρ f := by split <;> rfl
@[simp] theorem gcO_ite {p : Prop} [Decidable p] {n : Nat} {o u : Out D} : gcO n (if p then o else u) = if p then gcO n o else gcO n u := by split <;> rfl
@[simp] theorem endD_ite {p : Prop} [Decidable p] {o u : SOut} : endD (if p then o else u) = if p then endD o else endD u := by split <;> rfl
@[simp] theorem endD_rt {d : D} : endD (.rt d S) = .ok d S := rfl
@[simp] theorem endD_nx : endD (.nx ρ S) = .ok .non S := rfl
/-- one statement behind the other -/
def SOut.seq : SOut → (Env → Store → SOut) → SOut
  | .nx ρ S, k => k ρ S
  | o, _ => o
@[simp] theorem seq_nx {k : Env → Store → SOut} : SOut.seq (.nx ρ S) k = k ρ S := rfl
@[simp] theorem seq_rt {d : D} {k : Env → Store → SOut} : SOut.seq (.rt d S) k = .rt d S := rfl
@[simp] theorem seq_ite {p : Prop} [Decidable p] {o u : SOut} {k : Env → Store → SOut} : SOut.seq (if p then o else u) k = if p then SOut.seq o k else SOut.seq u k := by split <;> rfl
@[simp] theorem exs_nil' : exs F .nil ρ S = .nx ρ S := rfl
@[simp] theorem exs_cons' {s : Sm} {r : Sms} : exs F (.cons s r) ρ S = SOut.seq (ex F s ρ S) fun ρ S => exs F r ρ S := by
  rw [exs]
  cases ex F s ρ S <;> rfl
/-! ### truth -/
def ifK {α : Type} (z : α) : Option Bool → α → α → α
  | some true, x, _ => x
  | some false, _, y => y
  | none, _, _ => z
@[simp] theorem ifK_some {α : Type} {z x y : α} {q : Bool} : ifK z (some q) x y = if q = true then x else y := by cases q <;> rfl
@[simp] theorem truth_bl {q : Bool} : truth S (.bl q) = some q := rfl
@[simp] theorem truth_non : truth S .non = some false := rfl
@[simp] theorem truth_int {q : Int} : truth S (.int q) = some (q != 0) := rfl
@[simp] theorem truth_tup {q : List D} : truth S (.tup q) = some (!q.isEmpty) := rfl
/-! ### expressions -/
@[simp] theorem sev_var : ev F (.var i) ρ S = match ρ[i]? with
    | some (some d) => .ok d S
    | _ => .bad := rfl
@[simp] theorem sev_tup : ev F (.tup es) ρ S = (evs F es ρ S).bind fun ds S => if szOk ds.length then .ok (.tup ds) S else .bad := rfl
@[simp] theorem sev_lst : ev F (.lst es) ρ S = (evs F es ρ S).bind newL := rfl
@[simp] theorem sev_dnew : ev F .dnew ρ S = .ok (.loc S.length) (S ++ [.dic []]) := rfl
@[simp] theorem sev_bin {op : Bop} : ev F (.bin op a b) ρ S = (ev F a ρ S).bind fun x S => (ev F b ρ S).bind fun y S => binD op x y S := rfl
@[simp] theorem sev_cmp {op : Cop} : ev F (.cmp op a b) ρ S = (ev F a ρ S).bind fun x S => (ev F b ρ S).bind fun y S => cmpD op x y S := rfl
@[simp] theorem sev_chain {o1 o2 : Cop} : ev F (.chain o1 o2 a b c) ρ S = (ev F a ρ S).bind fun x S => (ev F b ρ S).bind fun y S => ifK .bad (cmpO S o1 x y) ((ev F c ρ S).bind fun z S => cmpD o2 y z S) (.ok (.bl false) S) := by
  rw [ev]
  congr 1; funext x S; congr 1; funext y S
  cases cmpO S o1 x y with
  | none => rfl
  | some q => cases q <;> rfl
/-- and, or of truths -/
def andK (S : Store) (x : D) (k : Out D) : Out D := ifK .bad (truth S x) k (.ok x S)
def orK (S : Store) (x : D) (k : Out D) : Out D := ifK .bad (truth S x) (.ok x S) k
@[simp] theorem sev_and : ev F (.and a b) ρ S = (ev F a ρ S).bind fun x S => andK S x (ev F b ρ S) := by
  rw [ev]
  congr 1; funext x S; unfold andK
  cases truth S x with
  | none => rfl
  | some q => cases q <;> rfl
@[simp] theorem sev_or : ev F (.or a b) ρ S = (ev F a ρ S).bind fun x S => orK S x (ev F b ρ S) := by
  rw [ev]
  congr 1; funext x S; unfold orK
  cases truth S x with
  | none => rfl
  | some q => cases q <;> rfl
@[simp] theorem and_bl {p q : Bool} : andK S (.bl p) (.ok (.bl q) S) = .ok (.bl (p && q)) S := by cases p <;> rfl
@[simp] theorem or_bl {p q : Bool} : orK S (.bl p) (.ok (.bl q) S) = .ok (.bl (p || q)) S := by cases p <;> rfl
theorem and_if {p : Bool} {o : Out D} : andK S (.bl p) o = if p = true then o else .ok (.bl false) S := by cases p <;> rfl
theorem or_if {p : Bool} {o : Out D} : orK S (.bl p) o = if p = true then .ok (.bl true) S else o := by cases p <;> rfl
@[simp] theorem sev_not : ev F (.not a) ρ S = (ev F a ρ S).bind fun x S => match truth S x with
    | some t => .ok (.bl (!t)) S
    | none => .bad := rfl
@[simp] theorem sev_ife : ev F (.ife t a b) ρ S = (ev F t ρ S).bind fun x S => ifK .bad (truth S x) (ev F a ρ S) (ev F b ρ S) := by
  rw [ev]
  congr 1; funext x S
  cases truth S x with
  | none => rfl
  | some q => cases q <;> rfl
@[simp] theorem sev_idx : ev F (.idx a b) ρ S = (ev F a ρ S).bind fun x S => (ev F b ρ S).bind fun y S => idxD x y S := rfl
@[simp] theorem sev_slc : ev F (.slc a b c) ρ S = (ev F a ρ S).bind fun x S => (ev F b ρ S).bind fun l S => match partO l with
    | some l => (ev F c ρ S).bind fun h S => (match partO h with
      | some h => slcD x l h S
      | none => .bad)
    | none => .bad := rfl
@[simp] theorem sev_call {f : Nat} : ev F (.call f es) ρ S = (evs F es ρ S).bind fun ds S => callF F f ds S := rfl
@[simp] theorem sev_bi {f : Bi} : ev F (.bi f es) ρ S = (evs F es ρ S).bind fun ds S => biD f ds S := rfl
@[simp] theorem sev_rev : ev F (.rev a) ρ S = (ev F a ρ S).bind revD := rfl
@[simp] theorem sev_isi {ts : List Ty} : ev F (.isi a ts) ρ S = (ev F a ρ S).bind fun x S => blO (isTys S x ts) S := rfl
@[simp] theorem sev_meth {m : Me} : ev F (.meth m a es) ρ S = (ev F a ρ S).bind fun x S => if tyOk m S x then (evs F es ρ S).bind fun ds S => methD m x ds S else .bad := rfl
@[simp] theorem sevs_cons : evs F (.cons a es) ρ S = (ev F a ρ S).bind fun d S => (evs F es ρ S).bind fun ds S => .ok (d :: ds) S := rfl
/-! ### what is walked -/
@[simp] theorem sit_of : evIt F (.of a) ρ S = (ev F a ρ S).bind fun d S1 => walkOf S.length d S1 := rfl
@[simp] theorem sit_range1 : evIt F (.range1 a) ρ S = (ev F a ρ S).bind range1D := rfl
@[simp] theorem sit_range2 : evIt F (.range2 a b) ρ S = (ev F a ρ S).bind fun x S => (ev F b ρ S).bind fun y S => range2D x y S := rfl
@[simp] theorem sit_range3 : evIt F (.range3 a b c) ρ S = (ev F a ρ S).bind fun x S => (ev F b ρ S).bind fun y S => (ev F c ρ S).bind fun z S => range3D x y z S := rfl
@[simp] theorem sit_enum : evIt F (.enum a) ρ S = (ev F a ρ S).bind fun d S1 => enumOf S.length d S1 := rfl
@[simp] theorem sit_zip : evIt F (.zip a b) ρ S = (ev F a ρ S).bind fun x S => (ev F b ρ S).bind fun y S => zipOf x y S := rfl
/-! ### statements -/
@[simp] theorem sex_asg {e : Ex} : ex F (.asg i e) ρ S = (gcO S.length (ev F e ρ S)).thn ρ fun d S => if i < ρ.length then .nx (ρ.set i (some d)) S else .bad := rfl
@[simp] theorem sex_asgT {is : List Nat} {e : Ex} : ex F (.asgT is e) ρ S = (gcO S.length (ev F e ρ S)).thn ρ fun d S => match d with
    | .tup ds => (match setAll ρ is ds with | some ρ' => .nx ρ' S | none => .bad)
    | _ => .bad := rfl
@[simp] theorem sex_par {is : List Nat} : ex F (.par is es) ρ S = (evs F es ρ S).thn ρ fun ds S => match setAll ρ is ds with | some ρ' => .nx ρ' S | none => .bad := rfl
@[simp] theorem sex_expr {e : Ex} : ex F (.expr e) ρ S = (gcO S.length ((ev F e ρ S).bind fun _ S => .ok .non S)).thn ρ fun _ S => .nx ρ S := rfl
@[simp] theorem sex_ret {e : Ex} : ex F (.ret e) ρ S = (ev F e ρ S).thn ρ fun d S => .rt d S := rfl
@[simp] theorem sex_ife {x y : Sms} : ex F (.ife t x y) ρ S = (ev F t ρ S).thn ρ fun d S1 => ifK .bad (truth S1 d) ((gc S.length .non S1).thn ρ fun _ S2 => exs F x ρ S2) ((gc S.length .non S1).thn ρ fun _ S2 => exs F y ρ S2) := by
  rw [ex]
  congr 1; funext x S1
  cases truth S1 x with
  | none => rfl
  | some q => cases q <;> rfl
@[simp] theorem sex_pass : ex F .pass ρ S = .nx ρ S := rfl
@[simp] theorem gc_same' {d : D} : gc S.length d S = .ok d S := gc_same
@[simp] theorem gc_len {d : D} {n : Nat} (h : S.length = n) : gc n d S = .ok d S := by subst h; exact gc_same
@[simp] theorem setAll_nil : setAll ρ [] [] = some ρ := rfl
@[simp] theorem setAll_cons {is : List Nat} {d : D} {ds : List D} : setAll ρ (i :: is) (d :: ds) = if i < ρ.length then setAll (ρ.set i (some d)) is ds else none := rfl
@[simp] theorem start0_eq {n : Nat} {ds : List D} : start0 n ds = ds.map some ++ List.replicate (n - ds.length) none := rfl
@[simp] theorem one_eq {f : D → Store → Out D} {d : D} : one f [d] S = f d S := rfl
@[simp] theorem two_eq {f : D → D → Store → Out D} {d e : D} : two f [d, e] S = f d e S := rfl
/-! ### operations on data of known kinds -/
@[simp] theorem add_int {x y : Int} : binD .add (.int x) (.int y) S = .ok (.int (x + y)) S := rfl
@[simp] theorem sub_int {x y : Int} : binD .sub (.int x) (.int y) S = .ok (.int (x - y)) S := rfl
theorem mul_int {x y : Int} (h : -(2 ^ 64) < x ∧ x < 2 ^ 64) : binD .mul (.int x) (.int y) S = .ok (.int (x * y)) S := by
  show (if (sm64 x || sm64 y) = true then _ else _) = _
  rw [if_pos]
  unfold sm64
  rw [decide_eq_true h.1, decide_eq_true h.2]
  rfl
@[simp] theorem mul_17 {y : Int} : binD .mul (.int 17) (.int y) S = .ok (.int (17 * y)) S := mul_int (by omega)
@[simp] theorem mul_31 {y : Int} : binD .mul (.int 31) (.int y) S = .ok (.int (31 * y)) S := mul_int (by omega)
@[simp] theorem mul_7 {y : Int} : binD .mul (.int 7) (.int y) S = .ok (.int (7 * y)) S := mul_int (by omega)
theorem mod_int {x y : Int} (h : 0 < y) : binD .mod (.int x) (.int y) S = .ok (.int (x % y)) S := by
  show (if decide (0 < y) = true then _ else _) = _
  rw [if_pos (decide_eq_true h)]
@[simp] theorem mod_9 {x : Int} : binD .mod (.int x) (.int 9) S = .ok (.int (x % 9)) S := mod_int (by omega)
theorem add_str {x y : List Nat} (h : x.length ≤ 1000000) (h2 : y.length ≤ 1000000) : binD .add (.str x) (.str y) S = .ok (.str (x ++ y)) S := by
  show (if szOk _ = true then _ else _) = _
  rw [if_pos (show szOk _ = true from decide_eq_true (by unfold lineN; omega))]
theorem add_tup {x y : List D} (h : x.length ≤ 1000000) (h2 : y.length ≤ 1000000) : binD .add (.tup x) (.tup y) S = .ok (.tup (x ++ y)) S := by
  show (if szOk _ = true then _ else _) = _
  rw [if_pos (show szOk _ = true from decide_eq_true (by unfold lineN; omega))]
@[simp] theorem szOk_lit {n : Nat} : szOk (n : Nat) = decide (n ≤ 16777216) := rfl
@[simp] theorem eq_str {x y : List Nat} : cmpD .eq (.str x) (.str y) S = .ok (.bl (x == y)) S := cmp_eqs
@[simp] theorem ne_str {x y : List Nat} : cmpD .ne (.str x) (.str y) S = .ok (.bl (!(x == y))) S := by simp [cmpD, cmpO, eqS, der, D.pure, D.depth, eqD, blO]
@[simp] theorem eq_int {x y : Int} : cmpD .eq (.int x) (.int y) S = .ok (.bl (x == y)) S := by simp [cmpD, cmpO, eqS, der, D.pure, D.depth, eqD, blO]
@[simp] theorem ne_int {x y : Int} : cmpD .ne (.int x) (.int y) S = .ok (.bl (!(x == y))) S := by simp [cmpD, cmpO, eqS, der, D.pure, D.depth, eqD, blO]
@[simp] theorem eq_bl {x y : Bool} : cmpD .eq (.bl x) (.bl y) S = .ok (.bl (x == y)) S := by simp [cmpD, cmpO, eqS, der, D.pure, D.depth, eqD, blO]
@[simp] theorem ne_bl {x y : Bool} : cmpD .ne (.bl x) (.bl y) S = .ok (.bl (!(x == y))) S := by simp [cmpD, cmpO, eqS, der, D.pure, D.depth, eqD, blO]
@[simp] theorem lt_int {x y : Int} : cmpD .lt (.int x) (.int y) S = .ok (.bl (decide (x < y))) S := rfl
@[simp] theorem gt_int {x y : Int} : cmpD .gt (.int x) (.int y) S = .ok (.bl (decide (y < x))) S := rfl
@[simp] theorem le_int {x y : Int} : cmpD .le (.int x) (.int y) S = .ok (.bl (decide (x ≤ y))) S := rfl
@[simp] theorem ge_int {x y : Int} : cmpD .ge (.int x) (.int y) S = .ok (.bl (decide (y ≤ x))) S := rfl
@[simp] theorem is_non_str {x : List Nat} : cmpD .is (.str x) .non S = .ok (.bl false) S := rfl
@[simp] theorem is_non_int {x : Int} : cmpD .is (.int x) .non S = .ok (.bl false) S := rfl
@[simp] theorem is_non_tup {x : List D} : cmpD .is (.tup x) .non S = .ok (.bl false) S := rfl
@[simp] theorem is_non_non : cmpD .is .non .non S = .ok (.bl true) S := rfl
@[simp] theorem is_fin {x : Option Int} : cmpD .is (finD x) .non S = .ok (.bl x.isNone) S := by cases x <;> rfl
@[simp] theorem isnot_fin {x : Option Int} : cmpD .isnot (finD x) .non S = .ok (.bl x.isSome) S := by cases x <;> rfl
@[simp] theorem is_org {x : Option (List Nat)} : cmpD .is (orgD x) .non S = .ok (.bl x.isNone) S := by cases x <;> rfl
@[simp] theorem starts_str {x y : List Nat} : methD .startswith (.str x) [.str y] S = .ok (.bl (y.isPrefixOf x)) S := rfl
@[simp] theorem ends_str {x y : List Nat} : methD .endswith (.str x) [.str y] S = .ok (.bl (y.isSuffixOf x)) S := rfl
@[simp] theorem tyOk_split {x : List Nat} : tyOk .split S (.str x) = true := rfl
@[simp] theorem tyOk_join {x : List Nat} : tyOk .join S (.str x) = true := rfl
@[simp] theorem tyOk_ends {x : List Nat} : tyOk .endswith S (.str x) = true := rfl
@[simp] theorem tyOk_starts {x : List Nat} : tyOk .startswith S (.str x) = true := rfl
/-! ### lists of the store -/
@[simp] theorem listOf_loc' {m : Nat} : listOf S (.loc m) = match S[m]? with
    | some (.lst xs) => some xs
    | some (.frz xs) => some xs
    | _ => none := rfl
@[simp] theorem listOf_lit {xs : List D} : listOf S (.lit xs) = some xs := rfl
@[simp] theorem seqOf_loc {m : Nat} : seqOf S (.loc m) = listOf S (.loc m) := rfl
@[simp] theorem seqOf_lit {xs : List D} : seqOf S (.lit xs) = some xs := rfl
@[simp] theorem seqOf_tup {xs : List D} : seqOf S (.tup xs) = some xs := rfl
@[simp] theorem slc_loc {m : Nat} {l u : Option Int} : slcD (.loc m) l u S = match listOf S (.loc m) with
    | some xs => newL (cutL xs l u) S
    | none => .bad := rfl
@[simp] theorem slc_lit {xs : List D} {l u : Option Int} : slcD (.lit xs) l u S = newL (cutL xs l u) S := rfl
@[simp] theorem slc_tup {xs : List D} {l u : Option Int} : slcD (.tup xs) l u S = .ok (.tup (cutL xs l u)) S := rfl
@[simp] theorem len_loc {m : Nat} : biD .len [.loc m] S = match listOf S (.loc m) with
    | some xs => .ok (.int xs.length) S
    | none => .bad := rfl
@[simp] theorem len_tup {xs : List D} : biD .len [.tup xs] S = .ok (.int xs.length) S := rfl
@[simp] theorem len_lit {xs : List D} : biD .len [.lit xs] S = .ok (.int xs.length) S := rfl
@[simp] theorem tuple_tup {xs : List D} : biD .tuple [.tup xs] S = .ok (.tup xs) S := rfl
@[simp] theorem tuple_loc {m : Nat} : biD .tuple [.loc m] S = match listOf S (.loc m) with
    | some xs => .ok (.tup xs) S
    | none => .bad := rfl
@[simp] theorem list_tup {xs : List D} : biD .list [.tup xs] S = newL xs S := rfl
@[simp] theorem list_loc {m : Nat} : biD .list [.loc m] S = match listOf S (.loc m) with
    | some xs => newL xs S
    | none => .bad := rfl
@[simp] theorem all_loc {m : Nat} : biD .all [.loc m] S = match listOf S (.loc m) with
    | some xs => (match blsOf xs with | some bs => .ok (.bl (bs.all id)) S | none => .bad)
    | none => .bad := rfl
@[simp] theorem min_int {x y : Int} : biD .min2 [.int x, .int y] S = .ok (.int (if y < x then y else x)) S := rfl
@[simp] theorem max_int {x y : Int} : biD .max2 [.int x, .int y] S = .ok (.int (if y > x then y else x)) S := rfl
@[simp] theorem der_loc {m : Nat} : der S (.loc m) = match S[m]? with
    | some (.lst xs) => some (.lit xs)
    | some (.frz xs) => some (.lit xs)
    | _ => none := rfl
/-- two data as they stand -/
theorem eqS_of {a b x y : D} (ha : der S a = some x) (hb : der S b = some y) (hd : min x.depth y.depth ≤ 60) : eqS S a b = some (eqD x y) := by
  unfold eqS
  rw [ha, hb]
  exact if_pos (decide_eq_true hd)
theorem eq_of {a b x y : D} (ha : der S a = some x) (hb : der S b = some y) (hd : min x.depth y.depth ≤ 60) : cmpD .eq a b S = .ok (.bl (eqD x y)) S := by
  show blO (eqS S a b) S = _
  rw [eqS_of ha hb hd]
  rfl
theorem ne_of {a b x y : D} (ha : der S a = some x) (hb : der S b = some y) (hd : min x.depth y.depth ≤ 60) : cmpD .ne a b S = .ok (.bl (!eqD x y)) S := by
  show blO ((eqS S a b).map _) S = _
  rw [eqS_of ha hb hd]
  rfl
theorem der_pure {a : D} (h : a.pure = true) : der S a = some a := by
  cases a with
  | loc n => exact absurd h (by simp [D.pure])
  | _ => simp [der, h]
theorem eq_pure {a b : D} (ha : a.pure = true) (hb : b.pure = true) (hd : min a.depth b.depth ≤ 60) : cmpD .eq a b S = .ok (.bl (eqD a b)) S := eq_of (der_pure ha) (der_pure hb) hd
theorem ne_pure {a b : D} (ha : a.pure = true) (hb : b.pure = true) (hd : min a.depth b.depth ≤ 60) : cmpD .ne a b S = .ok (.bl (!eqD a b)) S := ne_of (der_pure ha) (der_pure hb) hd
theorem eqD_tup {xs ys : List D} : eqD (.tup xs) (.tup ys) = eqDs xs ys := by rw [eqD]
theorem eqD_lit {xs ys : List D} : eqD (.lit xs) (.lit ys) = eqDs xs ys := by rw [eqD]
theorem depth_tup {xs : List D} : (D.tup xs).depth = D.depthAll xs + 1 := by rw [D.depth]
theorem depth_lit {xs : List D} : (D.lit xs).depth = D.depthAll xs + 1 := by rw [D.depth]
theorem newL_ok {xs : List D} (h : D.pureAll xs = true) (hl : xs.length ≤ 1000000) : newL xs S = .ok (.loc S.length) (S ++ [.lst xs]) := by
  unfold newL
  rw [if_pos]
  rw [h, show szOk xs.length = true from decide_eq_true (by unfold lineN; omega)]
  rfl
@[simp] theorem partO_non : partO .non = some none := rfl
@[simp] theorem partO_int {x : Int} : partO (.int x) = some (some x) := rfl
end
section
variable {r : RT} {n : NT} {a : AT}
@[simp] theorem ir0_ (S : Store) : idxD r.d (.int 0) S = .ok (.str r.r0) S := ir0 S
@[simp] theorem ir1_ (S : Store) : idxD r.d (.int 1) S = .ok (.str r.r1) S := ir1 S
@[simp] theorem ir2_ (S : Store) : idxD r.d (.int 2) S = .ok (.str r.r2) S := ir2 S
@[simp] theorem ir3_ (S : Store) : idxD r.d (.int 3) S = .ok (.str r.r3) S := ir3 S
@[simp] theorem ir4_ (S : Store) : idxD r.d (.int 4) S = .ok (.str r.r4) S := ir4 S
@[simp] theorem in0_ (S : Store) : idxD n.d (.int 0) S = .ok (.str n.nm) S := in0 S
@[simp] theorem in2_ (S : Store) : idxD n.d (.int 2) S = .ok (.str n.host) S := in2 S
@[simp] theorem in3_ (S : Store) : idxD n.d (.int 3) S = .ok (.bl n.deep) S := in3 S
@[simp] theorem in4_ (S : Store) : idxD n.d (.int 4) S = .ok (.str n.path) S := in4 S
@[simp] theorem in5_ (S : Store) : idxD n.d (.int 5) S = .ok (finD n.fin) S := in5 S
@[simp] theorem in6_ (S : Store) : idxD n.d (.int 6) S = .ok (.bl n.safe) S := in6 S
@[simp] theorem in7_ (S : Store) : idxD n.d (.int 7) S = .ok (.str n.side) S := in7 S
@[simp] theorem ia0_ (S : Store) : idxD a.d (.int 0) S = .ok (.str a.host) S := ia0 S
@[simp] theorem ia1_ (S : Store) : idxD a.d (.int 1) S = .ok (.str a.path) S := ia1 S
@[simp] theorem ia2_ (S : Store) : idxD a.d (.int 2) S = .ok (.int a.time) S := ia2 S
@[simp] theorem ia3_ (S : Store) : idxD a.d (.int 3) S = .ok (.bl a.safe) S := ia3 S
@[simp] theorem ia4_ (S : Store) : idxD a.d (.int 4) S = .ok (orgD a.org) S := ia4 S
@[simp] theorem ia5_ (S : Store) : idxD a.d (.int 5) S = .ok (.bl a.near) S := ia5 S
@[simp] theorem ir5_ (S : Store) : idxD r.d (.int 5) S = .ok (.str r.r5) S := by simp [idxD, atZ, retO, RT.d]
@[simp] theorem in1_ (S : Store) : idxD n.d (.int 1) S = .ok (.str n.vl) S := by simp [idxD, atZ, retO, NT.d]
end
end Lw
set_option Elab.async false
set_option linter.all false
set_option maxRecDepth 100000
set_option maxHeartbeats 1000000
namespace Lw
open Ev
variable {L : FD} {k : Nat} {r : RT} {n : NT} {a : AT}
theorem splitC_noC {c : Nat} : ∀ (s : List Nat), ∀ l ∈ splitC c s, noC c l
  | [], l, h => by
    rw [splitC, List.mem_singleton] at h
    subst h
    intro x hx; cases hx
  | x :: s, l, h => by
    have ih := splitC_noC (c := c) s
    rw [splitC] at h
    split at h
    · rcases List.mem_cons.mp h with rfl | h
      · intro x hx; cases hx
      · exact ih l h
    · rename_i hx
      split at h
      · rename_i e
        exact absurd e (splitC_ne c s)
      · rename_i p ps e
        rcases List.mem_cons.mp h with rfl | h
        · intro y hy
          rcases List.mem_cons.mp hy with rfl | hy
          · exact hx
          · exact ih p (by rw [e]; exact List.mem_cons_self) y hy
        · exact ih l (by rw [e]; exact List.mem_cons_of_mem _ h)
theorem lastTwo_ne {α : Type} {xs : List α} (h : xs ≠ []) : lastTwo xs ≠ [] := by
  unfold lastTwo
  intro z
  have := congrArg List.length z
  rw [List.length_drop, List.length_nil] at this
  have : xs.length ≠ 0 := fun q => h (List.length_eq_zero_iff.mp q)
  omega
theorem site_split (h : List Nat) : splitC 46 (siteF h) = lastTwo (splitC 46 h) := by
  unfold siteF
  exact split_join (lastTwo_ne (splitC_ne _ _)) fun l hl => splitC_noC h l (List.mem_of_mem_drop hl)
theorem site_eq (x y : List Nat) : (lastTwo (splitC 46 x) == lastTwo (splitC 46 y)) = (siteF x == siteF y) := by
  rw [Bool.eq_iff_iff, beq_iff_eq, beq_iff_eq]
  constructor
  · intro h; unfold siteF; rw [h]
  · intro h; rw [← site_split, ← site_split, h]
/-- data that are compared at once -/
theorem cmp_strs {x y : List (List Nat)} {S : Store} : cmpD .eq (.tup (x.map .str)) (.tup (y.map .str)) S = .ok (.bl (x == y)) S := by
  simp [cmpD, cmpO, eqS, der, D.pure, D.depth, depth_st, eqD, eqDs_st, blO]
def sideFits (r : RT) (n : NT) (a : AT) : Bool := a.org.isNone || (match a.org with | some o => siteF o == siteF a.host | none => false) || (r.r4 == [110, 111, 110, 101]) || (n.side == [97, 110, 121]) || (a.near && ((n.side == [110, 101, 97, 114]) || (r.r4 == [108, 111, 111, 115, 101])))
theorem r_side (ok : a.Ok) : Gives (run (PG L) (k + 2)) 21 [r.d, n.d, a.d] (.bl (sideFits r n a)) := by
  have h1 := ok.host
  refine gives_of (fd := fd_side_fits) rfl rfl ?_
  unfold sideFits
  cases ho : a.org with
  | none => simp [fd_side_fits, sm_side_fits, ho, or_if]
  | some o =>
    have h2 := ok.org o ho
    have c1 := fun S => c_site (L := L) (k := k) (h := o) (S := S) (by omega)
    have c2 := fun S => c_site (L := L) (k := k) (h := a.host) (S := S) (by omega)
    simp [fd_side_fits, sm_side_fits, ho, orgD, c1, c2]
    grind
theorem r_lside (ok : a.Ok) : Gives (run (PG L) (k + 2)) 30 [r.d, n.d, a.d] (.bl (sideFits r n a)) := by
  have h1 := ok.host
  refine gives_of (fd := fd__law_side_fits) rfl rfl ?_
  unfold sideFits
  cases ho : a.org with
  | none => simp [fd__law_side_fits, sm__law_side_fits, ho, or_if]
  | some o =>
    have h2 := ok.org o ho
    have c1 := fun S => c_lsite (L := L) (k := k) (h := o) (S := S) (by omega)
    have c2 := fun S => c_lsite (L := L) (k := k) (h := a.host) (S := S) (by omega)
    simp [fd__law_side_fits, sm__law_side_fits, ho, orgD, c1, c2, cmp_strs, site_eq]
    split <;> simp_all
theorem c_side {S : Store} (ok : a.Ok) : callF (run (PG L) (k + 2)) 21 [r.d, n.d, a.d] S = .ok (.bl (sideFits r n a)) S := callF_ok (by simp [D.pureAll, NT.pure, RT.pure, AT.pure]) (r_side ok) rfl
theorem c_lside {S : Store} (ok : a.Ok) : callF (run (PG L) (k + 2)) 30 [r.d, n.d, a.d] S = .ok (.bl (sideFits r n a)) S := callF_ok (by simp [D.pureAll, NT.pure, RT.pure, AT.pure]) (r_lside ok) rfl
theorem len_str {x : List Nat} {S : Store} (h : x.length ≤ 1000000) : biD .len [.str x] S = .ok (.int x.length) S := by
  show (if szOk _ = true then _ else _) = _
  rw [if_pos (show szOk _ = true from decide_eq_true (by unfold lineN; omega))]
theorem slc_str {x : List Nat} {S : Store} {l u : Option Int} (h : x.length ≤ 1000000) : slcD (.str x) l u S = .ok (.str (cutL x l u)) S := by
  show (if szOk _ = true then _ else _) = _
  rw [if_pos (show szOk _ = true from decide_eq_true (by unfold lineN; omega))]
theorem r_lpath_fits {p : List Nat} (hn : n.path.length ≤ 1000) (hp : p.length ≤ 1000) : Gives (run (PG L) (k + 2)) 27 [r.d, n.d, .str p] (.bl (pathFits r n p)) := by
  refine gives_of (fd := fd__law_path_fits) rfl rfl ?_
  have c1 := fun S => c_lstepsG (L := L) (k := k) (S := S) hn
  have c2 := fun S => c_lstepsG (L := L) (k := k) (S := S) hp
  have s1 := split_len 47 p
  have s2 : (stepsF p).length ≤ (splitC 47 p).length := List.length_filter_le _ _
  have s3 := fun S => slc_str (x := p) (S := S) (l := none) (u := some (n.path.length : Int)) (by omega)
  have s4 := fun S => len_str (x := n.path) (S := S) (by omega)
  have ct : cutL ((stepsF p).map D.str) none (some ((stepsF n.path).length : Int)) = ((stepsF p).take (stepsF n.path).length).map D.str := by rw [cut_hi, List.map_take]
  have nl := fun S => newL_ok (S := S) (xs := ((stepsF p).take (stepsF n.path).length).map D.str) (pureAll_strs _) (by rw [List.length_map, List.length_take]; omega)
  have e := fun S => eq_of (S := S ++ [.lst ((stepsF p).map .str), .lst ((stepsF n.path).map .str), .lst (((stepsF p).take (stepsF n.path).length).map .str)]) (a := .loc 2) (b := .loc 1) (x := .lit (((stepsF p).take (stepsF n.path).length).map .str)) (y := .lit ((stepsF n.path).map .str))
  have e := e [] rfl rfl (by rw [depth_lit, depth_st]; omega)
  simp only [List.nil_append, eqD_lit, eqDs_st] at e
  unfold pathFits
  simp [fd__law_path_fits, sm__law_path_fits, c1, c2, s3, s4, ct, nl, cut_hi, prefix_take, -List.map_take, e]
  grind
theorem c_lpath_fits {p : List Nat} {S : Store} (hn : n.path.length ≤ 1000) (hp : p.length ≤ 1000) : callF (run (PG L) (k + 2)) 27 [r.d, n.d, .str p] S = .ok (.bl (pathFits r n p)) S := callF_ok (by simp [D.pureAll, NT.pure, RT.pure, D.pure]) (r_lpath_fits hn hp) rfl
/-! ### why not -/
def whyNot (r : RT) (n : NT) (a : AT) : Option (List Nat) :=
  if !hostFits r n a.host then some [104, 111, 115, 116] else if !pathFits r n a.path then some [112, 97, 116, 104] else if hasEnded r n a.time then some [101, 110, 100]
  else if !safeFits r n a then some [115, 97, 102, 101] else if !sideFits r n a then some [115, 105, 100, 101] else none
/-- a note as the draws make it, its path as any -/
structure NT.Good (n : NT) : Prop where
  host : n.host.length ≤ 1000
  path : PathG n.path
theorem NT.Ok.good (h : n.Ok) : n.Good := ⟨by have := h.host.len; omega, h.path.g⟩
theorem r_why (hn : n.Good) (ok : a.Ok) : Gives (run (PG L) (k + 3)) 22 [r.d, n.d, a.d] (orgD (whyNot r n a)) := by
  refine gives_of (fd := fd_why_not) rfl rfl ?_
  have c1 := fun S => c_host_fits (L := L) (k := k) (r := r) (n := n) (h := a.host) (S := S) hn.host
  have c2 := fun S => c_path_fits (L := L) (k := k) (r := r) (n := n) (p := a.path) (S := S) hn.path ok.path
  have c3 := fun S => c_ended (L := L) (k := k + 1) (r := r) (n := n) (t := a.time) (S := S)
  have c4 := fun S => c_safe (L := L) (k := k + 1) (r := r) (n := n) (a := a) (S := S)
  have c5 := fun S => c_side (L := L) (k := k) (r := r) (n := n) (a := a) (S := S) ok
  unfold whyNot
  simp [fd_why_not, sm_why_not, c1, c2, c3, c4, c5]
  grind [orgD]
theorem c_why {S : Store} (hn : n.Good) (ok : a.Ok) : callF (run (PG L) (k + 3)) 22 [r.d, n.d, a.d] S = .ok (orgD (whyNot r n a)) S := callF_ok (by simp [D.pureAll, NT.pure, RT.pure, AT.pure]) (r_why hn ok) (by simp)
theorem r_lwhy (hr : r.Ok) (hn : n.Good) (ok : a.Ok) : Gives (run (PG L) (k + 3)) 31 [r.d, n.d, a.d] (orgD (whyNot r n a)) := by
  refine gives_of (fd := fd__law_why) rfl rfl ?_
  have h1 := ok.host
  have h2 := ok.path.len
  have h3 := hn.path.len
  have c1 := fun S => c_lhost_fits (L := L) (k := k + 1) (r := r) (n := n) (h := a.host) (S := S) hr hn.host (by omega)
  have c2 := fun S => c_lpath_fits (L := L) (k := k) (r := r) (n := n) (p := a.path) (S := S) (by omega) (by omega)
  have c3 := fun S => c_lended (L := L) (k := k + 1) (r := r) (n := n) (t := a.time) (S := S)
  have c4 := fun S => c_lsafe (L := L) (k := k + 1) (r := r) (n := n) (a := a) (S := S)
  have c5 := fun S => c_lside (L := L) (k := k) (r := r) (n := n) (a := a) (S := S) ok
  unfold whyNot
  simp [fd__law_why, sm__law_why, c1, c2, c3, c4, c5]
  grind [orgD]
theorem c_lwhy {S : Store} (hr : r.Ok) (hn : n.Good) (ok : a.Ok) : callF (run (PG L) (k + 3)) 31 [r.d, n.d, a.d] S = .ok (orgD (whyNot r n a)) S := callF_ok (by simp [D.pureAll, NT.pure, RT.pure, AT.pure]) (r_lwhy hr hn ok) (by simp)
def goesF (r : RT) (n : NT) (a : AT) : Bool := (whyNot r n a).isNone
theorem r_goes (hn : n.Good) (ok : a.Ok) : Gives (run (PG L) (k + 4)) 23 [r.d, n.d, a.d] (.bl (goesF r n a)) := by
  refine gives_of (fd := fd_goes) rfl rfl ?_
  have c1 := fun S => c_why (L := L) (k := k) (r := r) (n := n) (a := a) (S := S) hn ok
  simp [fd_goes, sm_goes, c1, goesF]
theorem c_goes {S : Store} (hn : n.Good) (ok : a.Ok) : callF (run (PG L) (k + 4)) 23 [r.d, n.d, a.d] S = .ok (.bl (goesF r n a)) S := callF_ok (by simp [D.pureAll, NT.pure, RT.pure, AT.pure]) (r_goes hn ok) rfl
end Lw
set_option Elab.async false
set_option linter.all false
set_option maxRecDepth 100000
/-! Sz: loops, what is asked in a law. -/
namespace Lw
open Ev
variable {L : FD} {k : Nat}
@[simp] theorem putTg_one {ρ : Env} {i : Nat} {d : D} : putTg ρ (.one i) d = if i < ρ.length then some (ρ.set i (some d)) else none := rfl
@[simp] theorem putTg_many {ρ : Env} {is : List Nat} {ds : List D} : putTg ρ (.many is) (.tup ds) = setAll ρ is ds := rfl
theorem sm62_of {j : Int} (h0 : -1000000000 ≤ j) (h1 : j ≤ 1000000000) : sm62 j = true := by
  unfold sm62; rw [Bool.and_eq_true]; constructor <;> apply decide_eq_true <;> omega
theorem turn_one {F : Nat → List D → Store → Out D} {i : Nat} {body : Sms} {x : D} {ρ : Env} {S : Store} (hi : i < ρ.length) : loopTurn F (.one i) body false x ρ S = exs F body (ρ.set i (some x)) S := by
  unfold loopTurn
  rw [putTg_one, if_pos hi]
  rfl
@[simp] theorem lockEndS_none {o : SOut} : lockEndS none o = o := by cases o <;> rfl
theorem ex_range {F : Nat → List D → Store → Out D} {tg : Tg} {sc : Bool} {n : Nat} {body : Sms} {ρ : Env} {S : Store} (hs : sm62 (n : Int) = true) : ex F (.loop tg (.range1 (.dat (.int n))) body sc) ρ S = forLoop (loopTurn F tg body sc) (upFrom 0 n) ρ S := by
  rw [ex_loop, sit_range1, ev_dat, ok_bind]
  unfold range1D
  simp only [hs]
  rw [if_pos trivial, ok_thn, lockEndS_none, Int.toNat_natCast]
/-- a loop over numbers, the store empty ahead of and behind each turn -/
theorem for_range {F : Nat → List D → Store → Out D} {i : Nat} {body : Sms} {ρ : Env} (n : Nat) {z : Int} (I : Env → Prop) (hz : z = (n : Int)) (hn : n < 1000000) (hi : ∀ ρ, I ρ → i < ρ.length) (h0 : I ρ)
    (st : ∀ (j : Nat) ρ, j < n → I ρ → ∃ ρ', exs F body (ρ.set i (some (.int j))) [] = .nx ρ' [] ∧ I ρ') :
    ∃ ρ', ex F (.loop (.one i) (.range1 (.dat (.int z))) body false) ρ [] = .nx ρ' [] ∧ I ρ' := by
  subst hz
  have hs : sm62 (n : Int) = true := sm62_of (by omega) (by omega)
  have go : ∀ (xs : List D), (∀ x ∈ xs, ∃ j : Nat, j < n ∧ x = .int j) → ∀ ρ, I ρ → ∃ ρ', forLoop (loopTurn F (.one i) body false) xs ρ [] = .nx ρ' [] ∧ I ρ' := by
    intro xs
    induction xs with
    | nil => intro _ ρ h; exact ⟨ρ, rfl, h⟩
    | cons x xs ih =>
      intro hx ρ h
      obtain ⟨j, hj, rfl⟩ := hx x List.mem_cons_self
      obtain ⟨ρ1, e1, h1⟩ := st j ρ hj h
      obtain ⟨ρ2, e2, h2⟩ := ih (fun y hy => hx y (List.mem_cons_of_mem _ hy)) ρ1 h1
      refine ⟨ρ2, ?_, h2⟩
      rw [forLoop]
      rw [turn_one (hi ρ h), e1]
      exact e2
  rw [ex_range hs]
  refine go _ ?_ ρ h0
  intro x hx
  rw [upFrom_eq] at hx
  obtain ⟨j, hj, rfl⟩ := List.mem_map.mp hx
  exact ⟨j, List.mem_range.mp hj, by rw [Int.zero_add]⟩
/-- a loop that leaves the store as it is -/
theorem for_loop {F : Nat → List D → Store → Out D} {tg : Tg} {body : Sms} {sc : Bool} {ρ : Env} {S : Store} (I : Env → Prop) : ∀ {xs : List D}, I ρ → (∀ x ∈ xs, ∀ ρ, I ρ → ∃ ρ', loopTurn F tg body sc x ρ S = .nx ρ' S ∧ I ρ') →
    ∃ ρ', forLoop (loopTurn F tg body sc) xs ρ S = .nx ρ' S ∧ I ρ'
  | [], h0, _ => ⟨ρ, rfl, h0⟩
  | x :: xs, h0, st => by
    obtain ⟨ρ1, e1, h1⟩ := st x List.mem_cons_self ρ h0
    obtain ⟨ρ2, e2, h2⟩ := for_loop (ρ := ρ1) I h1 fun y hy => st y (List.mem_cons_of_mem _ hy)
    exact ⟨ρ2, by rw [forLoop, e1]; exact e2, h2⟩
theorem turn_many {F : Nat → List D → Store → Out D} {is : List Nat} {ds : List D} {body : Sms} {ρ ρ' : Env} {S : Store} (h : setAll ρ is ds = some ρ') : loopTurn F (.many is) body false (.tup ds) ρ S = exs F body ρ' S := by
  unfold loopTurn
  rw [putTg_many, h]
  rfl
/-- a turn whose new objects are forgotten behind it -/
theorem turn_scoped {F : Nat → List D → Store → Out D} {i : Nat} {body : Sms} {x : D} {ρ ρ' : Env} {S T : Store} (hi : i < ρ.length) (hc : closedS S.length S = true) (h : exs F body (ρ.set i (some x)) S = .nx ρ' (S ++ T)) : loopTurn F (.one i) body true x ρ S = .nx (killE S.length ρ') S := by
  unfold loopTurn
  rw [putTg_one, if_pos hi]
  simp only [if_true]
  rw [h]
  unfold scopeEnd
  simp only [List.take_left, hc, if_true]
theorem gc_lst {S : Store} {ys : List D} (hc : closedS S.length S = true) : gc S.length (.loc S.length) (S ++ [.lst ys]) = .ok (.loc S.length) (S ++ [.lst ys]) := by
  unfold gc
  rw [if_neg (by simp), if_pos (by simpa using hc)]
  simp [D.low]
theorem gc_drop {d : D} {S T : Store} (hc : closedS S.length S = true) (hd : d.low S.length = true) : gc S.length d (S ++ T) = .ok d S := by
  unfold gc
  by_cases h : T = []
  · subst h; simp
  · have : T.length ≠ 0 := fun z => h (List.length_eq_zero_iff.mp z)
    rw [if_neg (by simpa using this), if_pos (by simpa using hc), if_pos hd]
    simp
mutual
theorem low_pure : ∀ (n : Nat) (d : D), d.pure = true → d.low n = true
  | n, .non, _ => rfl
  | n, .bl _, _ => rfl
  | n, .int _, _ => rfl
  | n, .str _, _ => rfl
  | n, .tup xs, h => by rw [D.low]; rw [D.pure] at h; exact lows_pure n xs h
  | n, .lit xs, h => by rw [D.low]; rw [D.pure] at h; exact lows_pure n xs h
  | n, .loc _, h => by simp [D.pure] at h
theorem lows_pure : ∀ (n : Nat) (ds : List D), D.pureAll ds = true → D.lowAll n ds = true
  | n, [], _ => rfl
  | n, d :: ds, h => by
    rw [D.pureAll, Bool.and_eq_true] at h
    rw [D.lowAll, low_pure n d h.1, lows_pure n ds h.2]
    rfl
end
theorem c_same' {d : D} {S : Store} (h : plainD d = true ∧ d.depth ≤ k) : callF (run (PG L) (k + 1)) 9 [d, d] S = .ok (.bl true) S := c_same h.1 h.2
theorem plain_fin (o : Option Int) : plainD (finD o) = true := by cases o <;> rfl
@[simp] theorem plain_org (o : Option (List Nat)) : plainD (orgD o) = true := by cases o <;> rfl
@[simp] theorem depth_org (o : Option (List Nat)) : (orgD o).depth = 0 := by cases o <;> rfl
@[simp] theorem depth_fin (o : Option Int) : (finD o).depth = 0 := by cases o <;> rfl
end Lw
set_option Elab.async false
set_option linter.all false
set_option maxRecDepth 100000
namespace Lw
open Ev
variable {L : FD} {k : Nat}
/-! ### all rules -/
def allRT : List RT := tk0.flatMap fun a => tk1.flatMap fun b => tk2.flatMap fun c => tk3.flatMap fun d => tk4.flatMap fun e => tk5.map fun f => ⟨a, b, c, d, e, f⟩
def fdN : FD := ⟨0, 0, .nil⟩
def outSt : Out D → Store
  | .ok _ S => S
  | _ => []
theorem al_run : run (PG L) (k + 1) 4 [] [] = .ok (.tup (allRT.map RT.d)) (outSt (run (PG fdN) 1 4 [] [])) := by kernel_rfl
theorem pureAll_rts (rs : List RT) : D.pureAll (rs.map RT.d) = true := by
  induction rs with
  | nil => rfl
  | cons n ns ih => rw [List.map_cons, D.pureAll, ih, RT.pure]; rfl
theorem c_all_rules {S : Store} : callF (run (PG L) (k + 1)) 4 [] S = .ok (.tup (allRT.map RT.d)) S := callF_ok rfl ⟨_, al_run⟩ (by rw [D.pure]; exact pureAll_rts _)
theorem mem_all {r : RT} (h : r ∈ allRT) : r.Ok := by
  unfold allRT at h
  simp only [List.mem_flatMap, List.mem_map] at h
  obtain ⟨a, ha, b, hb, c, hc, d, hd, e, he, f, hf, rfl⟩ := h
  exact ⟨ha, hb, hc, hd, he, hf⟩
theorem all_mem {r : RT} (h : r.Ok) : r ∈ allRT := by
  unfold allRT
  simp only [List.mem_flatMap, List.mem_map]
  exact ⟨_, h.o0, _, h.o1, _, h.o2, _, h.o3, _, h.o4, _, h.o5, rfl⟩
theorem all_len : allRT.length = 216 := by decide +kernel
theorem atZ_rt {rs : List RT} {j : Int} (h0 : 0 ≤ j) (h1 : j < rs.length) : ∃ r ∈ rs, atZ (rs.map RT.d) j = some r.d := by
  have h2 : j.toNat < rs.length := by omega
  refine ⟨rs[j.toNat], List.getElem_mem _, ?_⟩
  unfold atZ
  rw [if_pos h0, if_pos (by rw [List.length_map]; exact h1), List.getElem?_map, List.getElem?_eq_getElem h2]
  rfl
end Lw
set_option Elab.async false
set_option linter.all false
set_option maxRecDepth 100000
set_option maxHeartbeats 1000000
namespace Lw
open Ev
variable {L : FD} {k : Nat} {r : RT} {n : NT} {a : AT}
/-! ### what goes, in all -/
theorem goes_eq : goesF r n a = (hostFits r n a.host && (pathFits r n a.path && (!hasEnded r n a.time && (safeFits r n a && sideFits r n a)))) := by
  unfold goesF whyNot
  cases hostFits r n a.host <;> cases pathFits r n a.path <;> cases hasEnded r n a.time <;> cases safeFits r n a <;> cases sideFits r n a <;> rfl
theorem goes_iff : goesF r n a = true ↔ hostFits r n a.host = true ∧ pathFits r n a.path = true ∧ hasEnded r n a.time = false ∧ safeFits r n a = true ∧ sideFits r n a = true := by
  rw [goes_eq]; simp
theorem steps_prefix {p q : List Nat} (hp : PathG p) (hq : PathG q) (h : ((stepsF q).take (stepsF p).length == stepsF p) = true) : p.isPrefixOf q = true := by
  obtain ⟨ps, ep, gp⟩ := hp.ex
  obtain ⟨qs, eq, gq⟩ := hq.ex
  rw [stepsF_eq ep gp, stepsF_eq eq gq, beq_iff_eq] at h
  rw [List.isPrefixOf_iff_prefix]
  obtain ⟨rest, hr⟩ : ∃ rest, qs = ps ++ rest := ⟨qs.drop ps.length, by have t := List.take_append_drop ps.length qs; rw [h] at t; exact t.symm⟩
  rw [ep, eq]
  subst hr
  by_cases h0 : ps = []
  · subst h0
    simp [joinN]
  · by_cases h1 : rest = []
    · subst h1; simp
    · rw [join_app h1 h0]
      simp
theorem path_self (r : RT) (n : NT) : pathFits r n n.path = true := by
  unfold pathFits
  split <;> simp
theorem host_self (r : RT) (n : NT) : hostFits r n n.host = true := by
  unfold hostFits
  simp
theorem ended_mono {s t : Int} (h : s ≤ t) (e : hasEnded r n s = true) : hasEnded r n t = true := by
  unfold hasEnded at *
  revert e
  cases n.fin with
  | none => intro e; cases e
  | some f =>
    intro e
    simp only at *
    split
    · rename_i q; rw [if_pos q] at e; simp at *; omega
    · rename_i q; rw [if_neg q] at e; simp at *; omega
/-! one word wider -/
theorem wide0 (hn : PathG n.path) (ha : PathG a.path) (h : r.r0 = [115, 116, 101, 112, 115]) (g : goesF r n a = true) : goesF { r with r0 := [115, 105, 103, 110, 115] } n a = true := by
  rw [goes_iff] at *
  refine ⟨g.1, ?_, g.2.2.1, g.2.2.2.1, g.2.2.2.2⟩
  have q := g.2.1
  unfold pathFits at *
  rw [h] at q
  exact steps_prefix hn ha (by simpa using q)
theorem wide1a (h : r.r1 = [110, 101, 118, 101, 114]) (g : goesF r n a = true) : goesF { r with r1 := [116, 111, 108, 100] } n a = true := by
  rw [goes_iff] at *
  refine ⟨?_, g.2.1, g.2.2.1, g.2.2.2.1, g.2.2.2.2⟩
  have q := g.1
  unfold hostFits always told at *
  rw [h] at q
  simp at *
  exact .inl q
theorem wide1b (h : r.r1 = [116, 111, 108, 100]) (g : goesF r n a = true) : goesF { r with r1 := [97, 108, 119, 97, 121, 115] } n a = true := by
  rw [goes_iff] at *
  refine ⟨?_, g.2.1, g.2.2.1, g.2.2.2.1, g.2.2.2.2⟩
  have q := g.1
  unfold hostFits always told at *
  rw [h] at q
  simp at *
  exact q.imp id (·.2)
theorem wide2 (h : r.r2 = [117, 110, 116, 105, 108]) (g : goesF r n a = true) : goesF { r with r2 := [119, 105, 116, 104] } n a = true := by
  rw [goes_iff] at *
  refine ⟨g.1, g.2.1, ?_, g.2.2.2.1, g.2.2.2.2⟩
  have q := g.2.2.1
  unfold hasEnded at *
  rw [h] at q
  cases hf : n.fin with
  | none => rfl
  | some f => rw [hf] at q; simp at *; omega
theorem wide3 (h : r.r3 = [109, 117, 115, 116]) (g : goesF r n a = true) : goesF { r with r3 := [102, 114, 101, 101] } n a = true := by
  rw [goes_iff] at *
  refine ⟨g.1, g.2.1, g.2.2.1, ?_, g.2.2.2.2⟩
  unfold safeFits
  simp
theorem wide4a (h : r.r4 = [107, 101, 101, 112]) (g : goesF r n a = true) : goesF { r with r4 := [108, 111, 111, 115, 101] } n a = true := by
  rw [goes_iff] at *
  refine ⟨g.1, g.2.1, g.2.2.1, g.2.2.2.1, ?_⟩
  have q := g.2.2.2.2
  unfold sideFits at *
  rw [h] at q
  simp at *
  grind
theorem wide4b (h : r.r4 = [108, 111, 111, 115, 101]) (g : goesF r n a = true) : goesF { r with r4 := [110, 111, 110, 101] } n a = true := by
  rw [goes_iff] at *
  refine ⟨g.1, g.2.1, g.2.2.1, g.2.2.2.1, ?_⟩
  unfold sideFits
  simp
/-! near the note -/
def homeA (n : NT) (a : AT) : AT := ⟨n.host, n.path, a.time, true, none, a.near⟩
def bareA (a : AT) : AT := { a with safe := true, org := none }
def atHome (n : NT) (a : AT) : AT := { a with host := n.host, path := n.path }
def bareN (n : NT) : NT := { n with fin := none, safe := false, side := [97, 110, 121] }
theorem goes_home (g : goesF r n a = true) : goesF r n (homeA n a) = true := by
  rw [goes_iff] at *
  exact ⟨host_self r n, path_self r n, g.2.2.1, by simp [safeFits, homeA], by simp [sideFits, homeA]⟩
theorem goes_bareA (g : goesF r n a = true) : goesF r n (bareA a) = true := by
  rw [goes_iff] at *
  exact ⟨g.1, g.2.1, g.2.2.1, by simp [safeFits, bareA], by simp [sideFits, bareA]⟩
theorem goes_bareN (g : goesF r n a = true) : goesF r (bareN n) a = true := by
  rw [goes_iff] at *
  exact ⟨g.1, g.2.1, by simp [hasEnded, bareN], by simp [safeFits, bareN], by simp [sideFits, bareN]⟩
theorem goes_atHome : goesF r (bareN n) (atHome n a) = true := by
  rw [goes_iff]
  exact ⟨host_self r (bareN n), path_self r (bareN n), by simp [hasEnded, bareN], by simp [safeFits, bareN], by simp [sideFits, bareN]⟩
theorem why_old {w : List Nat} : whyNot { r with r5 := w } n a = whyNot r n a := rfl
/-! sorted truths -/
theorem isort_sorted {le : D → D → Bool} : ∀ {xs : List D}, xs.Pairwise (fun a b => le a b = true) → isort le xs = xs
  | [], _ => rfl
  | x :: xs, h => by
    rw [List.pairwise_cons] at h
    rw [isort, isort_sorted h.2]
    cases xs with
    | nil => rfl
    | cons y ys => rw [insD, if_pos (h.1 y List.mem_cons_self)]
theorem bls_sorted (f : Nat → Bool) (hf : ∀ i j, i ≤ j → f i = true → f j = true) (m : Nat) : ((List.range m).map fun i => D.bl (f i)).Pairwise (fun a b => leD a b = true) := by
  rw [List.pairwise_map]
  refine (List.pairwise_lt_range (n := m)).imp ?_
  intro i j h
  unfold leD
  rw [ltD]
  cases hi : f i with
  | false => simp
  | true => rw [hf i j (by omega) hi]; rfl
/-! slices of rows -/
@[simp] theorem cut_ask3 (a : AT) {S : Store} : slcD a.d none (some 3) S = .ok (.tup [.str a.host, .str a.path, .int a.time]) S := by simp [AT.d, cutL, cutIx]
@[simp] theorem cut_ask_2 (a : AT) {S : Store} : slcD a.d (some 2) none S = .ok (.tup [.int a.time, .bl a.safe, orgD a.org, .bl a.near]) S := by simp [AT.d, cutL, cutIx]
@[simp] theorem cut_note5 (n : NT) {S : Store} : slcD n.d none (some 5) S = .ok (.tup [.str n.nm, .str n.vl, .str n.host, .bl n.deep, .str n.path]) S := by simp [NT.d, cutL, cutIx]
@[simp] theorem cut_rules5 (r : RT) {S : Store} : slcD r.d none (some 5) S = .ok (.tup [.str r.r0, .str r.r1, .str r.r2, .str r.r3, .str r.r4]) S := by simp [RT.d, cutL, cutIx]
/-! ### _law_is_narrow -/
theorem goes_same (g : goesF r n a = true) : goesF r n a = true := g
def IN (n : NT) (a : AT) (r : RT) (ρ : Env) : Prop := ∃ v3 v4 v5 v6 v7, ρ = [some n.d, some a.d, some r.d, v3, v4, v5, v6, v7]
def rput (r : RT) (i : Nat) (w : List Nat) : RT := match i with
  | 0 => { r with r0 := w } | 1 => { r with r1 := w } | 2 => { r with r2 := w } | 3 => { r with r3 := w } | 4 => { r with r4 := w } | _ => { r with r5 := w }
def rget (r : RT) (i : Nat) : List Nat := match i with
  | 0 => r.r0 | 1 => r.r1 | 2 => r.r2 | 3 => r.r3 | 4 => r.r4 | _ => r.r5
theorem cut_le {α : Type} (xs : List α) (l u : Option Int) : (cutL xs l u).length ≤ xs.length := by
  unfold cutL
  rw [List.length_take, List.length_drop]
  omega
theorem rput_d {i : Nat} {w : List Nat} (hi : i < 6) : ∃ x y : List D, (∀ S, slcD r.d none (some (i : Int)) S = .ok (.tup x) S) ∧ (∀ S, slcD r.d (some ((i : Int) + 1)) none S = .ok (.tup y) S) ∧ x.length ≤ 6 ∧ y.length ≤ 6 ∧ (rput r i w).d = .tup (x ++ (.str w :: y)) := by
  have : i = 0 ∨ i = 1 ∨ i = 2 ∨ i = 3 ∨ i = 4 ∨ i = 5 := by omega
  rcases this with h | h | h | h | h | h <;> subst h <;> exact ⟨_, _, fun S => rfl, fun S => rfl, cut_le _ _ _, cut_le _ _ _, rfl⟩
theorem rget_d {i : Nat} {S : Store} (hi : i < 6) : idxD r.d (.int i) S = .ok (.str (rget r i)) S := by
  have : i = 0 ∨ i = 1 ∨ i = 2 ∨ i = 3 ∨ i = 4 ∨ i = 5 := by omega
  rcases this with h | h | h | h | h | h <;> subst h <;> rfl
theorem narrow_turn {i : Nat} {x w : List Nat} {ρ : Env} (hi : i < 6) (hn : n.Good) (oa : a.Ok) (h : IN n a r ρ) (g : rget r i = x → goesF r n a = true → goesF (rput r i w) n a = true) :
    ∃ ρ', loopTurn (run (PG L) (k + 4)) (.many [4, 5, 6]) lb__law_is_narrow_1 false (.tup [.int i, .str x, .str w]) ρ [] = .nx ρ' [] ∧ IN n a r ρ' := by
  obtain ⟨v3, v4, v5, v6, v7, rfl⟩ := h
  obtain ⟨p, q, e1, e2, l1, l2, e3⟩ := rput_d (r := r) (i := i) (w := w) hi
  have e4 := fun S => rget_d (r := r) (S := S) hi
  have c1 := fun S => c_goes (L := L) (k := k) (r := r) (S := S) hn oa
  have c2 := fun S => c_goes (L := L) (k := k) (r := rput r i w) (S := S) hn oa
  rw [e3] at c2
  rw [turn_many (ρ' := [some n.d, some a.d, some r.d, v3, some (.int i), some (.str x), some (.str w), v7]) (by simp)]
  have a1 := fun S => add_tup (S := S) (x := p) (y := [.str w]) (by omega) (by simp)
  have a2 := fun S => add_tup (S := S) (x := p ++ [.str w]) (y := q) (by simp; omega) (by omega)
  have a3 : p ++ [.str w] ++ q = p ++ .str w :: q := by simp
  rw [a3] at a2
  by_cases hx : rget r i = x
  · cases hg : goesF r n a with
    | false =>
      simp [lb__law_is_narrow_1, e1, e2, a1, a2, e4, c1, c2, hg, and_if]
      exact ⟨_, _, _, _, _, rfl⟩
    | true =>
      simp [lb__law_is_narrow_1, e1, e2, a1, a2, e4, c1, c2, hg, g hx hg]
      exact ⟨_, _, _, _, _, rfl⟩
  · have hb : (rget r i == x) = false := beq_eq_false_iff_ne.mpr hx
    simp [lb__law_is_narrow_1, e1, e2, a1, a2, e4, c1, c2, hb]
    exact ⟨_, _, _, _, _, rfl⟩
theorem r_narrow (hn : n.Good) (oa : a.Ok) : Gives (run (PG L) (k + 5)) 32 [n.d, a.d, r.d] (.bl true) := by
  refine gives_of (fd := fd__law_is_narrow) rfl rfl ?_
  obtain ⟨ρ', e, _⟩ := for_loop (F := run (PG L) (k + 4)) (tg := .many [4, 5, 6]) (body := lb__law_is_narrow_1) (sc := false) (S := [])
    (xs := [.tup [.int 0, .str [115, 116, 101, 112, 115], .str [115, 105, 103, 110, 115]], .tup [.int 3, .str [109, 117, 115, 116], .str [102, 114, 101, 101]], .tup [.int 2, .str [117, 110, 116, 105, 108], .str [119, 105, 116, 104]],
      .tup [.int 1, .str [110, 101, 118, 101, 114], .str [116, 111, 108, 100]], .tup [.int 1, .str [116, 111, 108, 100], .str [97, 108, 119, 97, 121, 115]], .tup [.int 4, .str [107, 101, 101, 112], .str [108, 111, 111, 115, 101]], .tup [.int 4, .str [108, 111, 111, 115, 101], .str [110, 111, 110, 101]]])
    (ρ := [some n.d, some a.d, some r.d, some (.tup [.tup [.int 0, .str [115, 116, 101, 112, 115], .str [115, 105, 103, 110, 115]], .tup [.int 3, .str [109, 117, 115, 116], .str [102, 114, 101, 101]], .tup [.int 2, .str [117, 110, 116, 105, 108], .str [119, 105, 116, 104]],
      .tup [.int 1, .str [110, 101, 118, 101, 114], .str [116, 111, 108, 100]], .tup [.int 1, .str [116, 111, 108, 100], .str [97, 108, 119, 97, 121, 115]]]), none, none, none, none]) (IN n a r) ⟨_, _, _, _, _, rfl⟩ (by
    intro x hx ρ h
    simp only [List.mem_cons, List.not_mem_nil, or_false] at hx
    rcases hx with rfl | rfl | rfl | rfl | rfl | rfl | rfl
    · exact narrow_turn (i := 0) (by decide) hn oa h fun e g => wide0 hn.path oa.path e g
    · exact narrow_turn (i := 3) (by decide) hn oa h fun e g => wide3 e g
    · exact narrow_turn (i := 2) (by decide) hn oa h fun e g => wide2 e g
    · exact narrow_turn (i := 1) (by decide) hn oa h fun e g => wide1a e g
    · exact narrow_turn (i := 1) (by decide) hn oa h fun e g => wide1b e g
    · exact narrow_turn (i := 4) (by decide) hn oa h fun e g => wide4a e g
    · exact narrow_turn (i := 4) (by decide) hn oa h fun e g => wide4b e g)
  simp [fd__law_is_narrow, sm__law_is_narrow, add_tup, ex_loop, walkOf, e]
theorem c_narrow {S : Store} (hn : n.Good) (oa : a.Ok) : callF (run (PG L) (k + 5)) 32 [n.d, a.d, r.d] S = .ok (.bl true) S := callF_ok (by simp [D.pureAll, NT.pure, RT.pure, AT.pure]) (r_narrow hn oa) rfl
end Lw
set_option Elab.async false
set_option linter.all false
set_option maxRecDepth 100000
set_option maxHeartbeats 4000000
namespace Lw
open Ev
variable {L : FD} {k : Nat} {ns : List Int} {sc : D} {S : Store}
def J1 (sc : D) (ρ : Env) : Prop := ∃ v2 v3 v4 v5 v6 v7 v8 v9 v10 v11, ρ = [some sc, some (.tup (allRT.map RT.d)), v2, v3, v4, v5, v6, v7, v8, v9, v10, v11, none]
def J2 (sc : D) (i : Nat) (n : NT) (a : AT) (ρ : Env) : Prop := ∃ v5 v6 v7 v8 v9 v10 v11, ρ = [some sc, some (.tup (allRT.map RT.d)), some (.int i), some n.d, some a.d, v5, v6, v7, v8, v9, v10, v11, none]
def endsF (r : RT) (n : NT) : List D := (List.range 100).map fun (i : Nat) => D.bl (hasEnded r n i)
theorem ends_comp {ρ : Env} {r : RT} {n : NT} (h6 : ρ[6]? = some (some r.d)) (h3 : ρ[3]? = some (some n.d)) (hl : 12 < ρ.length) : ev (run (PG L) (k + 1)) (.comp ce__law_once_1 (.one 12) (.range1 (.dat (.int 100))) (.dat (.bl true))) ρ S = .ok (.loc S.length) (S ++ [.lst (endsF r n)]) := by
  refine comp_of (xs := upFrom 0 100) (g := fun x => match x with | .int i => some (.bl (hasEnded r n i)) | _ => none) ?_ ?_ ?_ ?_ (by simp [endsF])
  · simp [range1D, sm62]
  · intro x hx
    rw [upFrom_eq] at hx
    obtain ⟨i, hi, rfl⟩ := List.mem_map.mp hx
    have c := fun S => c_ended (L := L) (k := k) (r := r) (n := n) (t := 0 + (i : Int)) (S := S)
    have q6 : (ρ.set 12 (some (.int (0 + (i : Int)))))[6]? = some (some r.d) := by rw [List.getElem?_set_ne (by decide), h6]
    have q3 : (ρ.set 12 (some (.int (0 + (i : Int)))))[3]? = some (some n.d) := by rw [List.getElem?_set_ne (by decide), h3]
    have q12 : (ρ.set 12 (some (.int (0 + (i : Int)))))[12]? = some (some (.int (0 + (i : Int)))) := by rw [List.getElem?_set_self hl]
    simp only [compTurn, putTg_one, hl, if_true, ev_dat, ok_bind, truth_bl, ce__law_once_1, sev_call, sevs_cons, sev_var, q6, q3, q12, evs_nil, c, ok_gcO, gc_same, D.pure]
  · rw [upFrom_eq, List.filterMap_map, endsF, ← List.filterMap_eq_map]
    congr 1
    funext i
    simp [Function.comp]
  · unfold endsF
    generalize List.range 100 = l
    induction l with
    | nil => rfl
    | cons x xs ih => rw [List.map_cons, D.pureAll, ih]; rfl
theorem ends_sort (r : RT) (n : NT) : sortO (endsF r n) = some (endsF r n) := by
  have m : ∀ x ∈ endsF r n, ∃ b, x = .bl b := by
    intro x hx
    obtain ⟨i, _, rfl⟩ := List.mem_map.mp hx
    exact ⟨_, rfl⟩
  unfold sortO
  rw [if_pos, show isort leD (endsF r n) = endsF r n from isort_sorted (bls_sorted (fun i => hasEnded r n i) (fun i j hij h => ended_mono (by omega) h) 100)]
  · rw [Bool.and_eq_true, Bool.and_eq_true]
    refine ⟨⟨List.all_eq_true.mpr fun x hx => List.all_eq_true.mpr fun y hy => ?_, List.all_eq_true.mpr fun x hx => ?_⟩, List.all_eq_true.mpr fun x hx => ?_⟩
    · obtain ⟨b, rfl⟩ := m x hx
      obtain ⟨c, rfl⟩ := m y hy
      rw [alikeD]
    · obtain ⟨b, rfl⟩ := m x hx
      rfl
    · obtain ⟨b, rfl⟩ := m x hx
      rfl
theorem eqDs_refl_bl (f : Nat → Bool) : ∀ l : List Nat, eqDs (l.map fun i => D.bl (f i)) (l.map fun i => D.bl (f i)) = true
  | [] => rfl
  | x :: l => by rw [List.map_cons, eqDs, eqDs_refl_bl f l, eqD]; simp
theorem depth_bls (f : Nat → Bool) : ∀ l : List Nat, D.depthAll (l.map fun i => D.bl (f i)) = 0
  | [] => rfl
  | x :: l => by rw [List.map_cons, D.depthAll, depth_bls f l]; rfl
theorem pure_bls (f : Nat → Bool) : ∀ l : List Nat, D.pureAll (l.map fun i => D.bl (f i)) = true
  | [] => rfl
  | x :: l => by rw [List.map_cons, D.pureAll, pure_bls f l]; rfl
theorem closed_app {n : Nat} {ys : List D} (hc : closedS n S = true) : closedS n (S ++ [.lst ys]) = true := by
  unfold closedS at *
  rw [List.all_append, hc]
  rfl
theorem closed_len {n : Nat} (h : ∀ o ∈ S, ∃ xs, o = MO.lst xs) : closedS n S = true := List.all_eq_true.mpr fun o ho => by
  obtain ⟨xs, rfl⟩ := h o ho
  rfl
theorem k4_in {i : Nat} {x : D} {n : NT} {a : AT} {ρ : Env} (hS : ∀ o ∈ S, ∃ xs, o = MO.lst xs) (hsc : sc.low S.length = true) (hn : n.Ok) (oa : a.Ok) (h : J2 sc i n a ρ) (hx : ∃ j : Int, x = .int j ∧ 0 ≤ j ∧ j < 216) :
    ∃ ρ', loopTurn (run (PG L) (k + 10)) (.one 5) lb__law_once_1 true x ρ S = .nx ρ' S ∧ J2 sc i n a ρ' := by
  obtain ⟨v5, v6, v7, v8, v9, v10, v11, rfl⟩ := h
  obtain ⟨j, rfl, j0, j1⟩ := hx
  have hc : ∀ n, closedS n S = true := fun n => closed_len hS
  have g := hn.good
  have hh := hn.host.len
  obtain ⟨r, hr, er⟩ := atZ_rt (rs := allRT) (j := j) j0 (by rw [all_len]; exact j1)
  have f1 := fun S => c_host_fits (L := L) (k := k + 8) (r := r) (n := n) (h := a.host) (S := S) g.host
  have f2 := fun S => c_path_fits (L := L) (k := k + 8) (r := r) (n := n) (p := a.path) (S := S) g.path oa.path
  have f3 := fun S => c_ended (L := L) (k := k + 9) (r := r) (n := n) (t := a.time) (S := S)
  have f4 := fun S => c_safe (L := L) (k := k + 9) (r := r) (n := n) (a := a) (S := S)
  have f5 := fun S => c_side (L := L) (k := k + 8) (r := r) (n := n) (a := a) (S := S) oa
  have f6 := fun S => c_why (L := L) (k := k + 7) (r := r) (n := n) (a := a) (S := S) g oa
  have f7 := fun S => c_goes (L := L) (k := k + 6) (r := r) (n := n) (a := a) (S := S) g oa
  have f8 := fun S => c_narrow (L := L) (k := k + 5) (r := r) (n := n) (a := a) (S := S) g oa
  have oh : (homeA n a).Ok := ⟨by show n.host.length ≤ 50; omega, g.path, oa.t0, oa.t1, by intro s hs; cases hs⟩
  have ob : (bareA a).Ok := ⟨oa.host, oa.path, oa.t0, oa.t1, by intro s hs; cases hs⟩
  have ot : (atHome n a).Ok := ⟨by show n.host.length ≤ 50; omega, g.path, oa.t0, oa.t1, oa.org⟩
  have gb : (bareN n).Good := ⟨g.host, g.path⟩
  have f9 := fun S => c_goes (L := L) (k := k + 6) (r := r) (n := n) (a := homeA n a) (S := S) g oh
  have f10 := fun S => c_goes (L := L) (k := k + 6) (r := r) (n := n) (a := bareA a) (S := S) g ob
  have f11 := fun S => c_goes (L := L) (k := k + 6) (r := r) (n := bareN n) (a := atHome n a) (S := S) gb ot
  have f12 := fun S => c_goes (L := L) (k := k + 6) (r := r) (n := bareN n) (a := a) (S := S) gb oa
  have f13 := fun S => c_why (L := L) (k := k + 7) (r := { r with r5 := [111, 108, 100] }) (n := n) (a := a) (S := S) g oa
  have d1 : (homeA n a).d = .tup [.str n.host, .str n.path, .int a.time, .bl true, .non, .bl a.near] := rfl
  have d2 : (bareA a).d = .tup [.str a.host, .str a.path, .int a.time, .bl true, .non, .bl a.near] := rfl
  have d3 : (atHome n a).d = .tup [.str n.host, .str n.path, .int a.time, .bl a.safe, orgD a.org, .bl a.near] := rfl
  have d4 : (bareN n).d = .tup [.str n.nm, .str n.vl, .str n.host, .bl n.deep, .str n.path, .non, .bl false, .str [97, 110, 121]] := rfl
  have d5 : ({ r with r5 := [111, 108, 100] } : RT).d = .tup [.str r.r0, .str r.r1, .str r.r2, .str r.r3, .str r.r4, .str [111, 108, 100]] := rfl
  rw [d1] at f9
  rw [d2] at f10
  rw [d3, d4, goes_atHome] at f11
  rw [d4] at f12
  rw [d5, why_old] at f13
  have er' : ∀ S, idxD (.tup (allRT.map RT.d)) (.int j) S = .ok r.d S := fun S => by simp only [idxD, er, retO]
  have ec := ends_comp (L := L) (k := k + 9) (S := S) (r := r) (n := n) (ρ := [some sc, some (.tup (allRT.map RT.d)), some (.int i), some n.d, some a.d, some (.int j), some r.d, some (.bl (goesF r n a)), some (.tup [.str n.host, .str n.path, .int a.time, .bl true, .non, .bl a.near]), v9, v10, v11, none]) rfl rfl (by simp)
  have eg := gc_lst (S := S) (ys := endsF r n) (hc _)
  have es : sortedD (.loc S.length) (S ++ [.lst (endsF r n)]) = .ok (.loc (S.length + 1)) (S ++ [.lst (endsF r n)] ++ [.lst (endsF r n)]) := by
    unfold sortedD
    simp only [List.getElem?_concat_length]
    unfold sortedL
    rw [ends_sort]
    simp only
    rw [newL_ok (xs := endsF r n) (pure_bls _ _) (by simp [endsF])]
    simp
  have eq := ne_of (S := S ++ [.lst (endsF r n)] ++ [.lst (endsF r n)]) (a := .loc S.length) (b := .loc (S.length + 1)) (x := .lit (endsF r n)) (y := .lit (endsF r n)) (by simp) (by simp) (by rw [depth_lit, endsF, depth_bls]; omega)
  rw [eqD_lit, endsF, eqDs_refl_bl, ← endsF] at eq
  have eo : ∀ S, cmpD .ne (orgD (whyNot r n a)) (orgD (whyNot r n a)) S = .ok (.bl false) S := fun S => by
    rw [ne_pure (by simp) (by simp) (by simp)]
    cases whyNot r n a <;> simp [orgD, eqD]
  have gd := gc_drop (d := .non) (S := S ++ [.lst (endsF r n)]) (T := [.lst (endsF r n)]) (closed_app (hc _)) rfl
  simp only [List.append_assoc, List.cons_append, List.nil_append, List.length_append, List.length_cons, List.length_nil, Nat.zero_add] at es eq gd
  refine ⟨_, turn_scoped (T := [.lst (endsF r n)]) (ρ' := [some sc, some (.tup (allRT.map RT.d)), some (.int i), some n.d, some a.d, some (.int j), some r.d, some (.bl (goesF r n a)), some (.tup [.str n.host, .str n.path, .int a.time, .bl true, .non, .bl a.near]), some (.loc S.length), some (bareN n).d, some ({ r with r5 := [111, 108, 100] } : RT).d, none]) (by simp) (hc _) ?_, ?_⟩
  · rw [d4, d5]
    have q : (hostFits r n a.host && pathFits r n a.path && !hasEnded r n a.time && (safeFits r n a && sideFits r n a)) = goesF r n a := by
      rw [goes_eq]; simp only [Bool.and_assoc]
    have w : (whyNot r n a).isNone = goesF r n a := rfl
    cases hg : goesF r n a with
    | false =>
      rw [hg] at q ec w
      simp [lb__law_once_1, er', f1, f2, f3, f4, f5, f6, f7, f8, f9, f10, f11, f12, f13, hg, q, w, add_tup, ec, eg, es, eq, eo, gd, biD]
    | true =>
      have h1 := goes_home hg
      have h2 := goes_bareA hg
      have h3 := goes_bareN hg
      rw [hg] at q ec w
      simp [lb__law_once_1, er', f1, f2, f3, f4, f5, f6, f7, f8, f9, f10, f11, f12, f13, hg, q, w, h1, h2, h3, add_tup, ec, eg, es, eq, eo, gd, biD]
  · have z : ∀ (d : D), d.pure = true → d.low S.length = true := fun d h => low_pure _ d h
    have z1 := z (.tup (allRT.map RT.d)) (pureAll_rts _)
    have z2 := z n.d (NT.pure n)
    have z3 := z a.d (AT.pure a)
    simp [killE, hsc, z1, z2, z3, D.low]
    exact ⟨_, _, _, _, _, _, _, rfl⟩
end Lw
set_option Elab.async false
set_option linter.all false
set_option maxRecDepth 100000
set_option maxHeartbeats 4000000
namespace Lw
open Ev
variable {L : FD} {k : Nat} {ns : List Int} {sc : D} {S : Store}
def Cell (L : FD) (k : Nat) (sc : D) (S : Store) (ns : List Int) : Prop := ∀ j : Int, 0 ≤ j → callF (run (PG L) (k + 10)) 7 [sc, .int j] S = .ok (.int (cellF ns j)) S
theorem steps_mem {c : Int} (hc : 0 < c) : ∀ (m : Nat) (i : Int), ∀ x ∈ stepFrom i c m, ∃ j : Int, x = .int j ∧ i ≤ j ∧ j ≤ i + (m - 1) * c
  | 0, i, x, h => by cases h
  | m + 1, i, x, h => by
    rw [stepFrom] at h
    have e : ((m + 1 : Nat) : Int) - 1 = m := by omega
    have e2 : 0 ≤ (m : Int) * c := Int.mul_nonneg (by omega) (by omega)
    rcases List.mem_cons.mp h with rfl | h
    · exact ⟨i, rfl, by omega, by rw [e]; omega⟩
    · obtain ⟨j, rfl, h1, h2⟩ := steps_mem hc m (i + c) x h
      refine ⟨j, rfl, by omega, ?_⟩
      rw [e]
      have e3 : i + c + ((m : Int) - 1) * c = i + m * c := by rw [Int.sub_mul]; omega
      omega
theorem k4_out {i : Nat} {ρ : Env} (hS : ∀ o ∈ S, ∃ xs, o = MO.lst xs) (hsc : sc.low S.length = true) (hcell : Cell L k sc S ns) (h : J1 sc ρ) :
    ∃ ρ', loopTurn (run (PG L) (k + 10)) (.one 2) lb__law_once_2 false (.int i) ρ S = .nx ρ' S ∧ J1 sc ρ' := by
  obtain ⟨v2, v3, v4, v5, v6, v7, v8, v9, v10, v11, rfl⟩ := h
  rw [turn_one (by simp)]
  have c1 := hcell ((i : Int) % 9) (Int.emod_nonneg _ (by omega))
  have c2 := hcell 9 (by omega)
  have c3 := hcell 8 (by omega)
  have on := note_ok (cellF ns ((i : Int) % 9) + 31 * (i : Int))
  have cn := c_note (L := L) (k := k + 7) (c := cellF ns ((i : Int) % 9) + 31 * (i : Int)) (S := S)
  obtain ⟨a, ca, oa⟩ := c_ask (L := L) (k := k + 7) (c := cellF ns 9 + 7 * (i : Int)) (ns := [noteF (cellF ns ((i : Int) % 9) + 31 * (i : Int))]) (S := S) (by intro m hm; rw [List.mem_singleton.mp hm]; exact on)
  simp only [List.map_cons, List.map_nil] at ca
  generalize noteF (cellF ns ((i : Int) % 9) + 31 * (i : Int)) = n at *
  have cm := c_mix (L := L) (k := k + 9) (c := cellF ns 8 + (i : Int)) (p := 9743) (m := 9) (S := S) (by omega) (by omega) (by omega)
  have m0 := mixF_nn (c := cellF ns 8 + (i : Int)) (p := 9743) (m := 9) (by omega)
  have m1 := mixF_lt (c := cellF ns 8 + (i : Int)) (p := 9743) (m := 9) (by omega)
  generalize mixF (cellF ns 8 + (i : Int)) 9743 9 = q at *
  have rg : ∀ S, range3D (.int 0) (.int 216) (.int (1 + q)) S = .ok ⟨stepFrom 0 (1 + q) (rgN 0 216 (1 + q)).toNat, none⟩ S := fun S => by
    show (if _ then _ else _) = _
    rw [if_pos]
    simp only [sm30, Bool.and_eq_true, decide_eq_true_eq]
    omega
  obtain ⟨ρ', e, w5, w6, w7, w8, w9, w10, w11, rfl⟩ := for_loop (F := run (PG L) (k + 10)) (tg := .one 5) (body := lb__law_once_1) (sc := true) (S := S) (xs := stepFrom 0 (1 + q) (rgN 0 216 (1 + q)).toNat)
    (ρ := [some sc, some (.tup (allRT.map RT.d)), some (.int i), some n.d, some a.d, v5, v6, v7, v8, v9, v10, v11, none]) (J2 sc i n a) ⟨_, _, _, _, _, _, _, rfl⟩ (fun x hx ρ h => by
      obtain ⟨j, rfl, j0, j1⟩ := steps_mem (by omega) _ _ x hx
      refine k4_in hS hsc on oa h ⟨j, rfl, j0, ?_⟩
      have : rgN 0 216 (1 + q) = 215 / (1 + q) + 1 := by
        unfold rgN
        rw [if_pos (by omega), if_pos (by omega)]
        rfl
      rw [this] at j1
      have p0 : 0 ≤ 215 / (1 + q) := Int.ediv_nonneg (by omega) (by omega)
      have p1 : 215 / (1 + q) * (1 + q) ≤ 215 := Int.ediv_mul_le _ (by omega)
      have p2 : ((215 / (1 + q) + 1).toNat : Int) - 1 = 215 / (1 + q) := by omega
      rw [p2] at j1
      omega)
  simp [lb__law_once_2, c1, c2, c3, cn, ca, cm, ex_loop, rg, e]
  exact ⟨_, _, _, _, _, _, _, _, _, _, rfl⟩
theorem r_once (hS : ∀ o ∈ S, ∃ xs, o = MO.lst xs) (hsc : sc.low S.length = true) (hcell : Cell L k sc S ns) : run (PG L) (k + 11) 33 [sc] S = .ok (.bl true) S := by
  rw [run_fd (fd := fd__law_once) rfl rfl]
  have ca := c_all_rules (L := L) (k := k + 9) (S := S)
  obtain ⟨ρ', e, w2, w3, w4, w5, w6, w7, w8, w9, w10, w11, rfl⟩ := for_loop (F := run (PG L) (k + 10)) (tg := .one 2) (body := lb__law_once_2) (sc := false) (S := S) (xs := upFrom 0 14)
    (ρ := [some sc, some (.tup (allRT.map RT.d)), none, none, none, none, none, none, none, none, none, none, none]) (J1 sc) ⟨_, _, _, _, _, _, _, _, _, _, rfl⟩ (fun x hx ρ h => by
      rw [upFrom_eq] at hx
      obtain ⟨j, hj, rfl⟩ := List.mem_map.mp hx
      rw [Int.zero_add]
      exact k4_out hS hsc hcell h)
  have rg : ∀ S, range1D (.int 14) S = .ok ⟨upFrom 0 14, none⟩ S := fun S => rfl
  simp [fd__law_once, sm__law_once, ca, ex_loop, rg, e]
theorem r_cellL {ms : List Int} {j : Int} (hj : 0 ≤ j) : run (PG L) (k + 1) 7 [.loc 0, .int j] [.lst (ms.map .int)] = .ok (.int (cellF ms j)) [.lst (ms.map .int)] := by
  rw [run_fd (fd := fd__law_cell) rfl rfl]
  unfold cellF
  by_cases h : j < ms.length
  · have h2 : j.toNat < ms.length := by omega
    simp [fd__law_cell, sm__law_cell, h, idxD, atZ, hj, h2, retO]
  · simp [fd__law_cell, sm__law_cell, h]
theorem k4_all (ns : List Int) (hl : ns.length ≤ 63) : Is (endD (exs (run (PG L) (k + 12)) sm_law [some (.lit (ns.map .int)), none] [])) (.bl true) := by
  have o1 : callF (run (PG L) (k + 12)) 33 [.lit (ns.map .int)] [] = .ok (.bl true) [] := by
    refine callF_ok (by simp [D.pureAll, D.pure]) ⟨[], ?_⟩ rfl
    exact r_once (k := k + 1) (ns := ns) (by simp) (low_pure _ _ (by simp [D.pure])) fun j hj => c_cell hj
  have pa : D.pureAll ((ns.map fun n => n + 1).reverse.map D.int) = true := pureAll_ints _
  have ec : ev (run (PG L) (k + 12)) (.comp ce_law_1 (.one 1) (.of (.rev (.var 0))) (.dat (.bl true))) [some (.lit (ns.map .int)), none] [] = .ok (.loc 0) [.lst ((ns.map fun n => n + 1).reverse.map .int)] := by
    refine comp_of (S := []) (xs := (ns.map D.int).reverse) (g := fun x => match x with | .int i => some (.int (i + 1)) | _ => none) ?_ ?_ ?_ pa (by simp; omega)
    · have nl := newL_ok (S := []) (xs := (ns.map D.int).reverse) (by rw [← List.map_reverse]; exact pureAll_ints _) (by simp; omega)
      simp [revD, nl, walkOf, closedS]
    · intro x hx
      rw [List.mem_reverse] at hx
      obtain ⟨i, _, rfl⟩ := List.mem_map.mp hx
      simp [compTurn, ce_law_1, D.pure]
    · rw [← List.map_reverse, List.filterMap_map, ← List.map_reverse, List.map_map, ← List.filterMap_eq_map]
      rfl
  generalize (ns.map fun n => n + 1).reverse = ms at *
  have o2 : callF (run (PG L) (k + 12)) 33 [.loc 0] [.lst (ms.map .int)] = .ok (.bl true) [.lst (ms.map .int)] := by
    unfold callF
    rw [if_neg (by simp [D.pureAll, D.pure])]
    have := r_once (L := L) (k := k + 1) (sc := .loc 0) (S := [.lst (ms.map .int)]) (ns := ms) (by simp) (by simp [D.low]) (fun j hj => by
      unfold callF
      rw [if_neg (by simp [D.pureAll, D.pure]), r_cellL hj]
      simp)
    rw [this]
    simp
  simp [sm_law, o1, ec, o2, and_if]
theorem fact : ∀ ns : List Int, ns.length ≤ 63 → ∃ S', run (PG fd_law) 20 0 [.lit (ns.map .int)] [] = .ok (.bl true) S' := by
  intro ns hl
  exact gives_of (k := 19) (fd := fd_law) rfl rfl (k4_all (k := 7) ns hl)
end Lw
set_option Elab.async false
set_option linter.all false
set_option maxRecDepth 100000
set_option maxHeartbeats 0
namespace Lw
open PySem PySem.Spec PyProof.Rows L2 Ev
abbrev Rr : PySem.W.OpenRow := PySem.W.OpenLaw.row PySem.Challenge.rw_noterules_k04_whole_fits
abbrev hk : PySem.W.Hook := hookE 4 tab dats blts
def ob (s : PySem.W.SharedT) : AlE := obsEG 4 tab dats blts (HandSHeadRun.getT s)
theorem ob_eq (s : PySem.W.SharedT) : ob s = hk.obs s.abs := obsEG_eq (HandSHeadRun.getT_eq s)
theorem run_eq (w : World) : HandSHeadRun.RunEq Rr (PySem.W.view Rr.prog [24]) hk ob 2000 ["WORDS", "MORE_WORDS", "is_below", "site", "steps", "all_rules", "host_fits", "path_fits", "has_ended", "safe_fits", "side_fits", "why_not", "goes", "_law_cell", "_law_mix", "_law_host", "_law_path", "_law_note", "_law_ask", "_law_is_narrow", "_law_once"] w := by
  intro os
  kernel_rfl
end Lw
open PySem PySem.W PySem.Calls PyProof.Rows
theorem PySem.Challenge.cw_noterules_k04_whole_fits_holds : PySem.Challenge.rw_noterules_k04_whole_fits.Holds := by
  w_on; o_law
  refine HandSHeadRun.head_any (r := OpenLaw.row PySem.Challenge.rw_noterules_k04_whole_fits) (q := view (OpenLaw.row PySem.Challenge.rw_noterules_k04_whole_fits).prog [24]) (H := Lw.hk) (ob := Lw.ob) (M := 2000) (loose := ["WORDS", "MORE_WORDS", "is_below", "site", "steps", "all_rules", "host_fits", "path_fits", "has_ended", "safe_fits", "side_fits", "why_not", "goes", "_law_cell", "_law_mix", "_law_host", "_law_path", "_law_note", "_law_ask", "_law_is_narrow", "_law_once"]) (d := HandSHeadRun.topDef (OpenLaw.row PySem.Challenge.rw_noterules_k04_whole_fits).prog 24) (kwd := []) Lw.ob_eq
    (by kernel_rfl) (fun s => by kernel_rfl) Lw.run_eq (by kernel_rfl) (by kernel_rfl) (by kernel_rfl) (by rfl) (by first | assumption | decide +kernel) (by decide +kernel) ⟨rfl, rfl, rfl, rfl, rfl, by decide +kernel⟩ ?hw ?hc
  case hw => w_witness2
  case hc =>
    refine L2.walk_ofE (l := PySem.Challenge.rw_noterules_k04_whole_fits) (n := 63) (k := 20) (x := "script") (CX := Ev.CXA) rfl (by decide) (by kernel_rfl) ⟨rfl, by decide, by decide⟩ ?F Ev.cxa_no
    case F =>
      intro w mg fa h Y G hmg0
      obtain ⟨K, KX, c⟩ := Y
      have hmg : mg ("law" : PySem.Str) = some (.ref fa) := by
        have e : (HandSHeadRun.topDef (OpenLaw.row PySem.Challenge.rw_noterules_k04_whole_fits).prog 24).name = ("law" : PySem.Str) := by kernel_rfl
        rw [← e]
        exact hmg0
      exact Ev.law_of (d := Lw.de19) KX G hmg c Lw.tab_ok (by simp [Lw.tab]) rfl rfl Lw.fact
