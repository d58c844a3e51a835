import PyProof.Rows.All
import Wide.All
import OpenK.AllK
import Wide.FinOn
import HandS.ForMost
import HandS.ForExc
import HandS.CallSlots
import PyProof.ReprReads
import PySem.Str
import HandS.Wide
import HandS.WideMore
import HandS.Flow
import HandS.TupAny
import HandS.TupMul
import HandS.List
import PyProof.Rows.StrOr
import HandS.Deep
import KE.DataEq
import KE.DataCmp
import HandS.Text
import HandS.TupLe
import HandS.Style
import HandS.WideBits
import HandS.Codes
import HandS.Walk
import HandS.Iter
import HandS.HeadEnd
import HandS.Ends
import HandS.Comp
import HandS.IsInst
import HandS.Conv
import HandS.RaiseMore
import KE.SortData
import KE.DataMinMax
import PyProof.ListStr
import KE.SortLaws
import HandS.Zip
import KE.KExcSuper
import KE.KSuper
import HandS.ExcInit
import HandS.Exc
import KE.KExcIs
import HandS.ExcField
import HandS.Defaults
import HandS.HeadHook1
import HandS.HeadHook2
import HandS.HeadHook4
import HandS.Head0
import HandS.Head1
import HandS.Head2
import PyProof.ReprText
import PyProof.StrLawsRepr
import PyProof.Rows.RegStrFacts
import PyProof.Rows.StrIntSpec
import PySem.Challenge.RW_puzzlebox_k74_orders_refused
section
/-! The IR and its evaluator over pure data. -/
namespace Pz

/-- plain data of Python, by value -/
inductive D where
  | non
  | bl (b : Bool)
  | int (i : Int)
  | str (s : List Nat)
  | lst (l : List D)
  | tup (l : List D)
  | dic (ks vs : List D)
  | set (l : List D)
  | fn (f : Nat)
  | exc (c : Nat) (fs : List D)
  deriving Inhabited

/-- how an evaluation fails: not told, or an exception of the text's own class -/
inductive Ex where
  | stuck
  | exc (c : Nat) (fs : List D)

abbrev R := Except Ex
abbrev Env := List (Option D)
abbrev bad {α : Type} : R α := .error .stuck

def lim : Nat := 16777216

/-! ### values -/
def b2i (b : Bool) : Int := if b then 1 else 0

mutual
/-- Python's == -/
def eqD : D → D → Bool
  | .non, y => match y with | .non => true | _ => false
  | .bl a, y => match y with | .bl b => a == b | .int j => b2i a == j | _ => false
  | .int i, y => match y with | .bl b => i == b2i b | .int j => i == j | _ => false
  | .str s, y => match y with | .str t => s == t | _ => false
  | .lst l, y => match y with | .lst m => eqL l m | _ => false
  | .tup l, y => match y with | .tup m => eqL l m | _ => false
  | .dic ks vs, y => match y with | .dic ks' vs' => ks.length == ks'.length && (match eqKV ks (ks'.zip vs') with | some ws => eqL vs ws | none => false) | _ => false
  | .set _, _ => false
  | .fn f, y => match y with | .fn g => f == g | _ => false
  | .exc _ _, _ => false
def eqL : List D → List D → Bool
  | [], m => m.isEmpty
  | x :: l, m => match m with | y :: m => eqD x y && eqL l m | [] => false
/-- the other dict's values of these keys -/
def eqKV : List D → List (D × D) → Option (List D)
  | [], _ => some []
  | k :: ks, m => match m.find? (fun p => eqD k p.1) with
    | some p => (eqKV ks m).map (p.2 :: ·)
    | none => none
end

/-- Python's order of texts -/
def ltS : List Nat → List Nat → Bool
  | [], [] => false
  | [], _ :: _ => true
  | _ :: _, [] => false
  | x :: l, y :: m => if x == y then ltS l m else decide (x < y)

mutual
/-- Python's <; none: not comparable -/
def ltD : D → D → Option Bool
  | .bl a, y => match y with | .bl b => some (decide (b2i a < b2i b)) | .int j => some (decide (b2i a < j)) | _ => none
  | .int i, y => match y with | .bl b => some (decide (i < b2i b)) | .int j => some (decide (i < j)) | _ => none
  | .str s, y => match y with | .str t => some (ltS s t) | _ => none
  | .lst l, y => match y with | .lst m => ltL l m | _ => none
  | .tup l, y => match y with | .tup m => ltL l m | _ => none
  | .non, _ | .dic _ _, _ | .set _, _ | .fn _, _ | .exc _ _, _ => none
def ltL : List D → List D → Option Bool
  | [], m => some (!m.isEmpty)
  | x :: l, m => match m with
    | [] => some false
    | y :: m => if eqD x y then ltL l m else ltD x y
end

/-- every two can be compared -/
def cmpAll (l : List D) : Bool := l.all fun x => l.all fun y => (ltD x y).isSome
def ltB (x y : D) : Bool := (ltD x y).getD false
/-- x stands ahead of the first that is not less -/
def insD (x : D) : List D → List D
  | [] => [x]
  | y :: l => if ltB y x then y :: insD x l else x :: y :: l
def insSort : List D → List D
  | [] => []
  | x :: l => insD x (insSort l)
def sortD (l : List D) : Option (List D) := if cmpAll l then some (insSort l) else none

def memD (x : D) (l : List D) : Bool := l.any fun y => eqD y x
def dedup : List D → List D → List D
  | acc, [] => acc.reverse
  | acc, x :: l => if memD x acc then dedup acc l else dedup (x :: acc) l

mutual
/-- may be a key: nothing that changes within -/
def keyOk : D → Bool
  | .non | .bl _ | .int _ | .str _ => true
  | .tup l => keysOk l
  | .lst _ | .dic _ _ | .set _ | .fn _ | .exc _ _ => false
def keysOk : List D → Bool
  | [] => true
  | x :: l => keyOk x && keysOk l
end

def isAtom : D → Bool
  | .non | .bl _ | .int _ | .str _ | .fn _ => true
  | _ => false

def truD : D → Bool
  | .non => false
  | .bl b => b
  | .int i => i != 0
  | .str s => !s.isEmpty
  | .lst l => !l.isEmpty
  | .tup l => !l.isEmpty
  | .dic ks _ => !ks.isEmpty
  | .set l => !l.isEmpty
  | .fn _ | .exc _ _ => true

def truO : D → Option Bool
  | .non => some false
  | .bl b => some b
  | .int i => some (i != 0)
  | .str s => if s.length ≤ lim then some (!s.isEmpty) else none
  | .lst l => some (!l.isEmpty)
  | .tup l => some (!l.isEmpty)
  | .dic ks _ => some (!ks.isEmpty)
  | .set _ | .fn _ | .exc _ _ => none

/-! ### dicts by parallel lists -/
def lookD (k : D) : List D → List D → Option D
  | k' :: ks, v :: vs => if eqD k' k then some v else lookD k ks vs
  | _, _ => none
def hasD (k : D) (ks : List D) : Bool := ks.any fun k' => eqD k' k
def putV (k v : D) : List D → List D → List D
  | k' :: ks, w :: vs => if eqD k' k then v :: vs else w :: putV k v ks vs
  | _, _ => [v]
def putK (k : D) (ks : List D) : List D := if hasD k ks then ks else ks ++ [k]
def delK (k : D) : List D → List D
  | [] => []
  | k' :: ks => if eqD k' k then ks else k' :: delK k ks
def delV (k : D) : List D → List D → List D
  | k' :: ks, w :: vs => if eqD k' k then vs else w :: delV k ks vs
  | _, vs => vs
def putD (d : D) (k v : D) : Option D := match d with
  | .dic ks vs => if keyOk k then some (.dic (putK k ks) (putV k v ks vs)) else none
  | _ => none
def dictOf : List D → List D → D → Option D
  | k :: ks, v :: vs, d => (putD d k v).bind (dictOf ks vs)
  | _, _, d => some d

/-! ### repr -/
def sOf (s : String) : List Nat := s.toList.map (·.toNat)
end Pz
end
section
/-! The IR and its evaluator. -/
namespace Pz
open PySem (PyData Str)

mutual
def toPy : D → PyData
  | .non => .none
  | .bl b => .bool b
  | .int i => .int i
  | .str s => .str ⟨s.toArray⟩
  | .lst l => .list (toPyL l)
  | .tup l => .tuple (toPyL l)
  | .dic ks vs => .dict ((toPyL ks).zip (toPyL vs))
  | .set _ | .fn _ | .exc _ _ => .none
def toPyL : List D → List PyData
  | [] => []
  | x :: l => toPy x :: toPyL l
end
mutual
/-- has a repr -/
def plainD : D → Bool
  | .non | .bl _ | .int _ | .str _ => true
  | .lst l | .tup l => plainL l
  | .dic ks vs => plainL ks && plainL vs && ks.length == vs.length
  | .set _ | .fn _ | .exc _ _ => false
def plainL : List D → Bool
  | [] => true
  | x :: l => plainD x && plainL l
end
mutual
def depthD : D → Nat
  | .lst l | .tup l => depthL l + 1
  | .dic ks vs => max (depthL ks) (depthL vs) + 1
  | .set l => depthL l + 1
  | .exc _ fs => depthL fs + 1
  | .non | .bl _ | .int _ | .str _ | .fn _ => 0
def depthL : List D → Nat
  | [] => 0
  | x :: l => max (depthD x) (depthL l)
end
mutual
/-- no set, no function within -/
def noLst : D → Bool
  | .non | .bl _ | .int _ | .str _ => true
  | .lst l => noLstL l
  | .tup l => noLstL l
  | .dic _ vs => noLstL vs
  | .set _ | .fn _ | .exc _ _ => false
def noLstL : List D → Bool
  | [] => true
  | x :: l => noLst x && noLstL l
end
mutual
/-- no dict, set, function within; at most so deep -/
def okD : Nat → D → Bool
  | _, .non | _, .bl _ | _, .int _ | _, .str _ => true
  | n, .lst l => (match n with | 0 => false | n + 1 => okL n l)
  | n, .tup l => (match n with | 0 => false | n + 1 => okL n l)
  | _, .dic _ _ | _, .set _ | _, .fn _ | _, .exc _ _ => false
def okL : Nat → List D → Bool
  | _, [] => true
  | n, x :: l => okD n x && okL n l
end
def reprD (d : D) : Option D :=
  if (okD 60 d || noLst d) && (toPy d).showable && decide ((toPy d).depth ≤ 60) && decide ((toPy d).shown.length ≤ lim) then some (.str (toPy d).shown.cps.toList) else none

/-! ### operators -/
inductive Bop where | add | cat | sub | mul | rep | fdiv | mod | pow
  deriving DecidableEq
inductive Cop where | eq | ne | lt | le | gt | ge | isin | notin | is | isnot
  deriving DecidableEq
/-- what isinstance asks -/
inductive Ty where | int | bool | str | list | tuple | dict | cls (c : Nat)
  deriving DecidableEq
/-- built-in functions of plain values -/
inductive Bi where | len | int | abs | repr | str | sum | sum2 | min | max | min2 | max2 | min3 | list | tuple | dict | set | sorted | all | any
  deriving DecidableEq
/-- methods that change nothing -/
inductive Me where | get | get2 | index | count | join | split | replace | bitlen | copy
  deriving DecidableEq

def bits (i : Int) : Nat := i.natAbs.log2 + 1
def mulOk (i j : Int) : Bool := decide (i.natAbs < 2 ^ 64) || decide (j.natAbs < 2 ^ 64) || decide (bits i + bits j < 900000)

def repL (n : Nat) (l : List D) : List D := (List.replicate n l).flatten

def two2 : D → D → Option (Int × Int)
  | .int i, y => match y with | .int j => some (i, j) | _ => none
  | _, _ => none
def addD : D → D → Option D
  | .int i, y => match y with | .int j => some (.int (i + j)) | _ => none
  | .str s, y => match y with | .str t => if s.length + t.length ≤ lim then some (.str (s ++ t)) else none | _ => none
  | .lst l, y => match y with | .lst m => if l.length + m.length ≤ lim then some (.lst (l ++ m)) else none | _ => none
  | .tup l, y => match y with | .tup m => if l.length + m.length ≤ lim then some (.tup (l ++ m)) else none | _ => none
  | _, _ => none
def catD : D → D → Option D
  | .lst l, y => match y with | .lst m => if l.length + m.length ≤ lim then some (.lst (l ++ m)) else none | _ => none
  | _, _ => none
def mulD : D → D → Option D
  | .int i, y => match y with | .int j => if mulOk i j then some (.int (i * j)) else none | _ => none
  | .str s, y => match y with | .int j => if 2 ≤ j ∧ j < 16777216 ∧ 0 < s.length ∧ s.length * j.toNat ≤ lim then some (.str ((List.replicate j.toNat s).flatten)) else none | _ => none
  | _, _ => none
def repD : D → D → Option D
  | .lst l, y => match y with | .int j => if -1000 ≤ j ∧ j < 16777216 ∧ l.length * j.toNat ≤ lim then some (.lst (repL j.toNat l)) else none | _ => none
  | _, _ => none
def binD (op : Bop) (x y : D) : Option D := match op with
  | .add => addD x y
  | .cat => catD x y
  | .mul => mulD x y
  | .rep => repD x y
  | .sub => (two2 x y).map fun p => .int (p.1 - p.2)
  | .fdiv => (two2 x y).bind fun p => if p.2 ≠ 0 ∧ p.2.natAbs.log2 < 8000 then some (.int (p.1.fdiv p.2)) else none
  | .mod => (two2 x y).bind fun p => if p.2 ≠ 0 then some (.int (p.1.fmod p.2)) else none
  | .pow => (two2 x y).bind fun p => if 0 ≤ p.2 ∧ bits p.1 * p.2.toNat ≤ 100000 then some (.int (p.1 ^ p.2.toNat)) else none

/-- sign by sign: does a text stand in another? -/
def subS (x : List Nat) : List Nat → Bool
  | [] => x.isEmpty
  | c :: l => x.isPrefixOf (c :: l) || subS x l
/-- is: told of None, and of two bools -/
def isD (x y : D) : Option Bool := match y with
  | .non => (match x with | .non => some true | .bl _ => some false | .int _ => some false | .str _ => some false | .lst _ => some false | .tup _ => some false | .dic _ _ => some false | .exc _ _ => some false | _ => none)
  | .bl b => (match x with | .bl a => some (a == b) | .non => some false | .int _ => some false | .str _ => some false | .lst _ => some false | .tup _ => some false | .dic _ _ => some false | _ => none)
  | _ => none
def eqO (x y : D) : Option Bool := if okD 60 x && okD 60 y then some (eqD x y) else none
/-! ### order -/
mutual
/-- place by place of one kind -/
def alk : D → D → Bool
  | .non, y => match y with | .non => true | _ => false
  | .bl _, y => match y with | .bl _ => true | _ => false
  | .int _, y => match y with | .int _ => true | _ => false
  | .str _, y => match y with | .str _ => true | _ => false
  | .lst l, y => match y with | .lst m => alkL l m | _ => false
  | .tup l, y => match y with | .tup m => alkL l m | _ => false
  | .dic _ _, _ | .set _, _ | .fn _, _ | .exc _ _, _ => false
def alkL : List D → List D → Bool
  | [], _ => true
  | x :: l, m => match m with | y :: m => alk x y && alkL l m | [] => true
end
mutual
/-- x < y, both of one kind -/
def ltT : D → D → Bool
  | .bl a, y => match y with | .bl b => decide (b2i a < b2i b) | _ => false
  | .int i, y => match y with | .int j => decide (i < j) | _ => false
  | .str s, y => match y with | .str t => decide (s < t) | _ => false
  | .lst l, y => match y with | .lst m => ltTL l m | _ => false
  | .tup l, y => match y with | .tup m => ltTL l m | _ => false
  | .non, _ | .dic _ _, _ | .set _, _ | .fn _, _ | .exc _ _, _ => false
def ltTL : List D → List D → Bool
  | [], m => !m.isEmpty
  | x :: l, m => match m with
    | [] => false
    | y :: m => if eqD x y then ltTL l m else ltT x y
end
def isNonD : D → Bool
  | .non => true
  | _ => false
def ltG (x y : D) : Option Bool := if alk x y && !isNonD x && okD 60 x && okD 60 y then some (ltT x y) else none
/-- x < y -/
def ltO : D → D → Option Bool
  | .int i, y => match y with | .int j => some (decide (i < j)) | _ => none
  | .str s, y => match y with | .str t => some (decide (s < t)) | _ => none
  | x, y => ltG x y
/-- x <= y -/
def leO : D → D → Option Bool
  | .int i, y => match y with | .int j => some (decide (i ≤ j)) | _ => none
  | .str s, y => match y with | .str t => some (!decide (t < s)) | _ => none
  | x, y => (ltG y x).map (!·)
/-- all of one kind -/
def allAlk (l : List D) : Bool := l.all fun x => !isNonD x && l.all fun y => alk x y
/-- the first of the least -/
def minO : List D → Option D
  | [] => none
  | x :: l => if allAlk (x :: l) && okL 60 (x :: l) then some (l.foldl (fun a y => if ltT y a then y else a) x) else none
def maxO : List D → Option D
  | [] => none
  | x :: l => if allAlk (x :: l) && okL 60 (x :: l) then some (l.foldl (fun a y => if ltT a y then y else a) x) else none
def insT (x : D) : List D → List D
  | [] => [x]
  | y :: l => if ltT y x then y :: insT x l else x :: y :: l
def isort : List D → List D
  | [] => []
  | x :: l => insT x (isort l)
def srtOk (l : List D) : Bool := (l.all fun x => match x with | .tup (_ :: _) => true | _ => false) || (l.all fun x => match x with | .tup _ => false | _ => true)
def sortO (l : List D) : Option (List D) := if allAlk l && okL 60 l && srtOk l && decide (l.length ≤ lim) then some (isort l) else none
def inD (x y : D) : Option Bool := match y with
  | .lst l => if okD 60 x && okL 60 l then some (memD x l) else none
  | .tup l => if okD 60 x && okL 60 l then some (memD x l) else none
  | .str s => (match x with | .str [c] => some (s.contains c) | _ => none)
  | _ => none
def cmpB (op : Cop) (x y : D) : Option Bool := match op with
  | .eq => eqO x y
  | .ne => (eqO x y).map (!·)
  | .lt => ltO x y
  | .gt => ltO y x
  | .le => leO x y
  | .ge => leO y x
  | .isin => inD x y
  | .notin => (inD x y).map (!·)
  | .is => isD x y
  | .isnot => (isD x y).map (!·)

def isTy (d : D) : Ty → Bool
  | .int => match d with | .int _ | .bl _ => true | _ => false
  | .bool => match d with | .bl _ => true | _ => false
  | .str => match d with | .str _ => true | _ => false
  | .list => match d with | .lst _ => true | _ => false
  | .tuple => match d with | .tup _ => true | _ => false
  | .dict => match d with | .dic _ _ => true | _ => false
  | .cls c => match d with | .exc c' _ => c == 0 || c == c' | _ => false

/-- isinstance is told -/
def tyOk : D → Bool
  | .set _ | .fn _ | .exc _ _ => false
  | _ => true
/-- isinstance of an own error's class -/
def isCls (j : Nat) : D → Option Bool
  | .exc k _ => some (j == 0 || j == k)
  | d => if tyOk d then some false else none
def isTs (d : D) : List Ty → Option Bool
  | [] => some false
  | t :: ts => (match t with
    | .cls j => if ts.isEmpty then isCls j d else none
    | t => if tyOk d then (if isTy d t then some true else isTs d ts) else none)
/-- an index from either end -/
def ixI (n : Nat) (i : Int) : Option Nat :=
  if 0 ≤ i then (if i < n then some i.toNat else none) else (if -(n : Int) ≤ i then some (i + n).toNat else none)
def asIx : D → Option Int
  | .int i => some i
  | .bl b => some (b2i b)
  | _ => none
def getD (o k : D) : Option D := match o with
  | .lst l => (match k with | .int i => ((ixI l.length i).bind fun n => l[n]?) | _ => none)
  | .tup l => (match k with | .int i => ((ixI l.length i).bind fun n => l[n]?) | _ => none)
  | .str s => (match k with | .int i => if s.length ≤ lim then ((ixI s.length i).bind fun n => (s[n]?).map fun c => .str [c]) else none | _ => none)
  | _ => none
/-- a slice's end -/
def cut (n : Nat) (i : Int) : Nat := if i < 0 then (i + n).toNat else min i.toNat n
def slcL {α : Type} (l : List α) (lo hi : Option Int) : List α :=
  let a := match lo with | none => 0 | some i => cut l.length i
  let b := match hi with | none => l.length | some i => cut l.length i
  (l.drop a).take (b - a)
def intO : D → Option Int
  | .int i => some i
  | _ => none
def slcV (lo hi : Option Int) : D → Option D
  | .lst l => some (.lst (slcL l lo hi))
  | .tup l => some (.tup (slcL l lo hi))
  | .str s => if s.length ≤ lim then some (.str (slcL s lo hi)) else none
  | _ => none
/-- [::-1] -/
def revD : D → Option D
  | .lst l => some (.lst l.reverse)
  | _ => none
def lenD : D → Option D
  | .lst l | .tup l => some (.int l.length)
  | .str s => if s.length ≤ lim then some (.int s.length) else none
  | _ => none
/-- what a for walks -/
def itemsD : D → Option (List D)
  | .lst l | .tup l => some l
  | .str s => some (s.map fun c => .str [c])
  | _ => none
def rangeL (lo hi : Int) : List D := (List.range (hi - lo).toNat).map fun (i : Nat) => .int (lo + i)
def rangeDown (lo hi : Int) : List D := (List.range (lo - hi).toNat).map fun (i : Nat) => .int (lo - i)

def digits (i : Int) : List Nat := (toString i).toList.map (·.toNat)
def sumL : Int → List D → Option Int
  | a, [] => some a
  | a, .int i :: l => sumL (a + i) l
  | _, _ => none
def catL : List D → List D → Option (List D)
  | a, [] => some a
  | a, .lst m :: l => if a.length + m.length ≤ lim then catL (a ++ m) l else none
  | _, _ => none
def allB : List D → Option Bool
  | [] => some true
  | .bl b :: l => (allB l).map (b && ·)
  | _ => none
def anyB : List D → Option Bool
  | [] => some false
  | .bl b :: l => (anyB l).map (b || ·)
  | _ => none
def seqO : D → Option (List D)
  | .lst l | .tup l => some l
  | _ => none
def pairsD : List D → D → Option D
  | [], d => some d
  | .tup [k, v] :: l, d => (putD d k v).bind (pairsD l)
  | _, _ => none
def biD (b : Bi) (as : List D) : Option D := match b, as with
  | .len, [x] => lenD x
  | .int, [.int i] => some (.int i)
  | .int, [.bl b] => some (.int (b2i b))
  | .abs, [.int i] => some (.int (if i < 0 then -i else i))
  | .repr, [x] => reprD x
  | .str, [.int i] => if i.natAbs.log2 < 12900 then some (.str (digits i)) else none
  | .str, [.str s] => some (.str s)
  | .sum, [.lst l] => (sumL 0 l).map D.int
  | .sum2, [x, .lst l] => (itemsD x).bind fun m => (catL l m).map D.lst
  | .min, [x] => (seqO x).bind minO
  | .max, [x] => (seqO x).bind maxO
  | .min2, [.int i, .int j] => some (.int (if j < i then j else i))
  | .max2, [.int i, .int j] => some (.int (if j > i then j else i))
  | .min3, [x, y, z] => minO [x, y, z]
  | .list, [.str s] => if s.length ≤ lim then some (.lst (s.map fun c => .str [c])) else none
  | .list, [x] => (seqO x).map D.lst
  | .tuple, [x] => (seqO x).map D.tup
  | .dict, [.dic ks vs] => some (.dic ks vs)
  | .dict, [.lst l] => pairsD l (.dic [] [])
  | .set, [x] => (itemsD x).bind fun l => if keysOk l then some (.set (dedup [] l)) else none
  | .sorted, [.set l] => (sortO l).map D.lst
  | .sorted, [.lst l] => (sortO l).map D.lst
  | .all, [.lst l] => (allB l).map D.bl
  | .any, [.lst l] => (anyB l).map D.bl
  | _, _ => none

def firstIx (x : D) : List D → Nat → Option Nat
  | [], _ => none
  | y :: l, n => if eqD y x then some n else firstIx x l (n + 1)
def strsOf : List D → Option (List (List Nat))
  | [] => some []
  | .str s :: l => (strsOf l).map (s :: ·)
  | _ :: _ => none
def joinS (sep : List Nat) : List (List Nat) → List Nat
  | [] => []
  | [x] => x
  | x :: l => x ++ sep ++ joinS sep l
/-- split at one sign -/
def splitS (c : Nat) : List Nat → List (List Nat)
  | [] => [[]]
  | x :: l => if x == c then [] :: splitS c l else (match splitS c l with | w :: r => (x :: w) :: r | [] => [[x]])
def bitLen (i : Int) : Nat := if i == 0 then 0 else i.natAbs.log2 + 1
def meD (m : Me) (o : D) (as : List D) : Option D := match m, o, as with
  | .get, .dic ks vs, [k] => if keyOk k then some ((lookD k ks vs).getD .non) else none
  | .get2, .dic ks vs, [k, z] => if keyOk k then some ((lookD k ks vs).getD z) else none
  | .index, .lst l, [x] => if okD 60 x && okL 60 l then ((firstIx x l 0).map fun n : Nat => D.int n) else none
  | .count, .lst l, [x] => if okD 60 x && okL 60 l then some (.int ((l.filter fun y => eqD y x).length)) else none
  | .count, .tup l, [x] => if okD 60 x && okL 60 l then some (.int ((l.filter fun y => eqD y x).length)) else none
  | .join, .str sep, [.lst l] => ((strsOf l)).bind fun ws => if (joinS sep ws).length ≤ lim ∧ (ws.map (·.length)).sum + ws.length * sep.length ≤ lim then some (.str (joinS sep ws)) else none
  | .split, .str s, [.str [c]] => some (.lst ((splitS c s).map .str))
  | .bitlen, .int i, [] => some (.int (bitLen i))
  | _, _, _ => none


def negD : D → Option D
  | .int i => some (.int (-i))
  | _ => none
def atomD (d : D) : Option D := if isAtom d then some d else none
/-- what pop hands back, and leaves -/
def popD : D → List D → Option (D × D)
  | .lst l, as => (match as with
    | [] => l.getLast?.map fun x => (x, .lst l.dropLast)
    | [.int k] => (ixI l.length k).bind fun n => l[n]?.map fun x => (x, .lst (l.eraseIdx n))
    | _ => none)
  | .dic ks vs, as => (match as with
    | [k] => (lookD k ks vs).map fun x => (x, .dic (delK k ks) (delV k ks vs))
    | _ => none)
  | _, _ => none
/-- pop(k) of a list: what it hands back, and leaves -/
def popL (o : D) (k : D) : Option (D × D) := match o with
  | .lst l => (match k with
    | .int k => if l.length ≤ lim then ((ixI l.length k).bind fun n => l[n]?.map fun x => (x, .lst (l.eraseIdx n))) else none
    | _ => none)
  | _ => none
def attrD (n : Nat) : D → Option D
  | .exc _ fs => fs[n]?
  | _ => none
def zipD : List D → List D → List D
  | x :: l, y :: m => .tup [x, y] :: zipD l m
  | _, _ => []
def lstO : D → Option (List D)
  | .lst l => some l
  | _ => none
def zipO : D → D → Option (List D)
  | .lst l, y => match y with | .lst m => some (zipD l m) | _ => none
  | .tup l, y => match y with | .tup m => some (zipD l m) | _ => none
  | _, _ => none
def enumD : Nat → List D → List D
  | _, [] => []
  | n, x :: l => .tup [.int n, x] :: enumD (n + 1) l
def pairsOf : D → Option (List D)
  | .dic ks vs => some (zipD ks vs)
  | _ => none
def valsOf : D → Option (List D)
  | .dic _ vs => some vs
  | _ => none
def small (i : Int) : Bool := decide (i.natAbs < 2 ^ 62)
def rngD : List D → Option (List D)
  | [.int n] => if small n then some (rangeL 0 n) else none
  | [.int a, .int b] => if small a && small b then some (rangeL a b) else none
  | [.int a, .int b, .int c] => if small a && small b && decide (c = -1) then some (rangeDown a b) else none
  | _ => none
def itemsT (n : Nat) : D → Option (List D)
  | .tup l => if l.length = n then some l else none
  | _ => none

/-! ### environments -/
def gt (ρ : Env) (i : Nat) : Option D := match ρ[i]? with
  | some (some d) => some d
  | _ => none
def st (ρ : Env) (i : Nat) (d : D) : Env := ρ.set i (some d)
def unset (ρ : Env) : List Nat → Env
  | [] => ρ
  | i :: l => unset (ρ.set i none) l
/-- the slots of a block's own names as they were outside -/
def back (ρ₀ ρ : Env) : List Nat → Env
  | [] => ρ
  | i :: l => back ρ₀ (ρ.set i ((ρ₀[i]?).getD none)) l
/-- what is lent, as it stands now: the arguments at these places -/
def lend (ρ : Env) (as : List D) : List (Nat × Nat) → Option (List D)
  | [] => some as
  | (j, i) :: l => (gt ρ i).bind fun d => lend ρ (as.set j d) l
/-- .. and what comes back -/
def setIO (ρ : Env) : List (Nat × Nat) → List D → Env
  | (_, i) :: l, d :: ds => setIO (st ρ i d) l ds
  | _, _ => ρ
/-- keywords: the arguments by the parameters' order -/
def permD (as : List D) : List Nat → Option (List D)
  | [] => some []
  | i :: l => as[i]?.bind fun d => (permD as l).map (d :: ·)

/-- a path of keys: what stands there is turned by f -/
def updAt (f : D → Option D) : List D → D → Option D
  | [], o => f o
  | k :: ks, o => match o with
    | .lst l => (match k with
      | .int i => (ixI l.length i).bind fun n => l[n]?.bind fun x => (updAt f ks x).map fun x' => .lst (l.set n x')
      | _ => none)
    | .tup l => (match k with
      | .int i => (ixI l.length i).bind fun n => l[n]?.bind fun x => (updAt f ks x).map fun x' => .tup (l.set n x')
      | _ => none)
    | .dic dk dv => (lookD k dk dv).bind fun x => (updAt f ks x).map fun x' => .dic dk (putV k x' dk dv)
    | _ => none
def setItemD (k v : D) : D → Option D
  | .lst l => (match k with
    | .int i => (ixI l.length i).map fun n => .lst (l.set n v)
    | _ => none)
  | _ => none
def appD (v : D) : D → Option D
  | .lst l => if l.length < lim then some (.lst (l ++ [v])) else none
  | _ => none
/-- a def's number -/
def fnO : D → Option Nat
  | .fn f => some f
  | _ => none
def lstD : D → Option D
  | .lst l => some (.lst l)
  | _ => none
def insD' (k : D) (v : D) : D → Option D
  | .lst l => (match k with
    | .int i => if l.length < lim then some (.lst (l.take (cut l.length i) ++ v :: l.drop (cut l.length i))) else none
    | _ => none)
  | _ => none

/-! ### the IR -/
inductive T where
  -- expressions
  | v (i : Nat)
  | non | tt | ff | int (i : Int) | str (s : List Nat)
  | glob (g : Nat)
  | fnv (f : Nat)
  | atm (a : T)
  | bin (op : Bop) (a b : T)
  | neg (a : T) | not (a : T)
  | and (a b : T) | or (a b : T)
  | cmp (op : Cop) (a b : T)
  | chain (o1 o2 : Cop) (a b c : T)
  | ite (c a b : T)
  | isi (a : T) (ts : List Ty)
  | call (f : Nat) (as : T) (io : List (Nat × Nat))
  | callk (f : Nat) (as : T) (perm : List Nat) (io : List (Nat × Nat))
  | callv (i : Nat) (as : T)
  | bi (b : Bi) (as : T)
  | biw (b : Bi) (it : T)
  | me (m : Me) (o as : T)
  | pop (i : Nat) (a : T)
  | idx (a k : T) | slc (a lo hi : T) | rev (a : T)
  | tup (as : T) | lst (n : Nat) (as : T) | dct (ks vs : T)
  | lc (e tg it c : T) (own : List Nat)
  | lc2 (e tg it c tg2 it2 c2 : T) (own own2 : List Nat)
  | dc (k e tg it c : T) (own : List Nat)
  | dc2 (k e tg it c tg2 it2 c2 : T) (own own2 : List Nat)
  | attr (a : T) (n : Nat)
  -- what is walked
  | rng (as : T) | enum (it : T) | zip (a b : T) | items (a : T) | vals (a : T) | rvd (a : T) | wlk (a : T)
  -- lists
  | nil | cons (a b : T)
  -- statements
  | asg (tg e : T)
  | mov (j i : Nat)
  | par (tgs es : T)
  | aug (i : Nat) (e : T)
  | app (o e : T)
  | ins (o k e : T)
  | upd (o e : T)
  | exp (e : T)
  | sif (c a b : T)
  | whl (c b : T) (mask : List Nat)
  | for (tg it b : T) (mask : List Nat)
  | ret (e : T)
  | retv (i : Nat)
  | retn
  | rai (c : Nat) (as : T)
  | try (b : T) (c : Nat) (i : Nat) (h : T) (mask : List Nat)
  | pas | brk | cnt
  | frz (i n : Nat)
  | mask (l : List Nat)
  deriving Inhabited

inductive Fl where
  | nx (ρ : Env)
  | rt (d : D) (ρ : Env)
  | bk (ρ : Env)
  | ct (ρ : Env)

def lenT : T → Nat
  | .cons _ b => lenT b + 1
  | _ => 0
def optR {α : Type} : Option α → R α
  | some a => .ok a
  | none => bad

/-- the constants of a display's keys -/
def keysT : T → List D
  | .cons a r => (match a with | .str s => .str s | .int i => .int i | _ => .non) :: keysT r
  | _ => []
structure Cfg where
  call : Nat → List D → R (D × List D)
  glob : Nat → D
  fuel : Nat

def isNonT : T → Bool
  | .non => true
  | _ => false
/-- a slice's end -/
def partR (n : Bool) (f : Env → R (D × Env)) (ρ : Env) : R (Option Int × Env) := if n then .ok (none, ρ) else (f ρ).bind fun p => (optR (intO p.1)).bind fun i => .ok (some i, p.2)
/-- no exception of the text's own here -/
def nox {α : Type} : R α → R α
  | .ok a => .ok a
  | .error _ => bad
/-- a comprehension's walk -/
def compR {α : Type} (f : D → Env → α → R (α × Env)) : List D → Env → α → R (α × Env)
  | [], ρ, acc => .ok (acc, ρ)
  | x :: l, ρ, acc => (f x ρ acc).bind fun p => compR f l p.2 p.1

/-- a for's walk -/
def forR (f : D → Env → R Fl) : List D → Env → R Fl
  | [], ρ => .ok (.nx ρ)
  | x :: l, ρ => (f x ρ).bind fun r => match r with
    | .nx ρ' => forR f l ρ'
    | .ct ρ' => forR f l ρ'
    | .bk ρ' => .ok (.nx ρ')
    | .rt d ρ' => .ok (.rt d ρ')
def whlR (c : Env → R (Bool × Env)) (b : Env → R Fl) : Nat → Env → R Fl
  | 0, _ => bad
  | n + 1, ρ => (c ρ).bind fun p => if p.1 then (b p.2).bind fun r => match r with
      | .nx ρ' => whlR c b n ρ'
      | .ct ρ' => whlR c b n ρ'
      | .bk ρ' => .ok (.nx ρ')
      | .rt d ρ' => .ok (.rt d ρ')
    else .ok (.nx p.2)
def maskFl (m : List Nat) : Fl → Fl
  | .nx ρ => .nx (unset ρ m)
  | .ct ρ => .ct (unset ρ m)
  | .bk ρ => .bk (unset ρ m)
  | .rt d ρ => .rt d ρ
/-- behind an except suite its name is gone -/
def sufFl (i : Nat) : Fl → Fl
  | .nx ρ => .nx (ρ.set i none)
  | .ct ρ => .ct (ρ.set i none)
  | .bk ρ => .bk (ρ.set i none)
  | .rt d ρ => .rt d ρ
/-- one more item of a list that is made -/
def push (acc : List D) (p : D × Env) : R (List D × Env) := if acc.length < lim then .ok (acc ++ [p.1], p.2) else bad

mutual
/-- the slot and the keys of a place that is changed -/
def evP (C : Cfg) : T → Env → R (Nat × List D × Env)
  | .v i, ρ => (optR (gt ρ i)).bind fun _ => .ok (i, [], ρ)
  | .idx a k, ρ => (evP C a ρ).bind fun p => (evE C k p.2.2).bind fun q => .ok (p.1, p.2.1 ++ [q.1], q.2)
  | _, _ => bad
/-- an assignment's target -/
def evG (C : Cfg) : T → D → Env → R Env
  | .v i, d, ρ => .ok (st ρ i d)
  | .tup as, d, ρ => (optR (itemsT (lenT as) d)).bind fun l => evGs C as l ρ
  | .idx a k, d, ρ => (evP C a ρ).bind fun p => (evE C k p.2.2).bind fun q =>
      (optR (gt q.2 p.1)).bind fun o => (optR (updAt (setItemD q.1 d) p.2.1 o)).bind fun o' => .ok (st q.2 p.1 o')
  | _, _, _ => bad
def evGs (C : Cfg) : T → List D → Env → R Env
  | .nil, l, ρ => if l.isEmpty then .ok ρ else bad
  | .cons a b, l, ρ => (match l with
    | x :: l => (evG C a x ρ).bind fun ρ' => evGs C b l ρ'
    | [] => bad)
  | _, _, _ => bad
/-- an expression's list -/
def evA (C : Cfg) : T → Env → R (List D × Env)
  | .nil, ρ => .ok ([], ρ)
  | .cons a b, ρ => (evE C a ρ).bind fun p => (evA C b p.2).bind fun q => .ok (p.1 :: q.1, q.2)
  | _, _ => bad
/-- what is walked -/
def evI (C : Cfg) : T → Env → R (List D × Env)
  | .rng as, ρ => (evA C as ρ).bind fun p => (optR (rngD p.1)).bind fun l => .ok (l, p.2)
  | .enum a, ρ => (evE C a ρ).bind fun p => (optR (lstO p.1)).bind fun l => .ok (enumD 0 l, p.2)
  | .zip a b, ρ => (evE C a ρ).bind fun p => (evE C b p.2).bind fun q => (optR (zipO p.1 q.1)).bind fun l => .ok (l, q.2)
  | .items a, ρ => (evE C a ρ).bind fun p => (optR (pairsOf p.1)).bind fun l => .ok (l, p.2)
  | .vals a, ρ => (evE C a ρ).bind fun p => (optR (valsOf p.1)).bind fun l => .ok (l, p.2)
  | .rvd a, ρ => (evI C a ρ).bind fun p => .ok (p.1.reverse, p.2)
  | .wlk a, ρ => (evE C a ρ).bind fun p => (optR (itemsD p.1)).bind fun l => .ok (l, p.2)
  | _, _ => bad
def evE (C : Cfg) : T → Env → R (D × Env)
  | .v i, ρ => (optR (gt ρ i)).bind fun d => .ok (d, ρ)
  | .non, ρ => .ok (.non, ρ)
  | .tt, ρ => .ok (.bl true, ρ)
  | .ff, ρ => .ok (.bl false, ρ)
  | .int i, ρ => .ok (.int i, ρ)
  | .str s, ρ => .ok (.str s, ρ)
  | .glob g, ρ => .ok (C.glob g, ρ)
  | .fnv f, ρ => .ok (.fn f, ρ)
  | .atm a, ρ => (evE C a ρ).bind fun p => (optR (atomD p.1)).bind fun d => .ok (d, p.2)
  | .bin op a b, ρ => (evE C a ρ).bind fun p => (evE C b p.2).bind fun q => (optR (binD op p.1 q.1)).bind fun d => .ok (d, q.2)
  | .neg a, ρ => (evE C a ρ).bind fun p => (optR (negD p.1)).bind fun d => .ok (d, p.2)
  | .not a, ρ => (evE C a ρ).bind fun p => (optR (truO p.1)).bind fun b => .ok (.bl (!b), p.2)
  | .and a b, ρ => (evE C a ρ).bind fun p => (optR (truO p.1)).bind fun t => if t then evE C b p.2 else .ok p
  | .or a b, ρ => (evE C a ρ).bind fun p => (optR (truO p.1)).bind fun t => if t then .ok p else evE C b p.2
  | .cmp op a b, ρ => (evE C a ρ).bind fun p => (evE C b p.2).bind fun q => (optR (cmpB op p.1 q.1)).bind fun d => .ok (.bl d, q.2)
  | .chain o1 o2 a b c, ρ => (evE C a ρ).bind fun p => (evE C b p.2).bind fun q => (optR (cmpB o1 p.1 q.1)).bind fun d =>
      if d then (evE C c q.2).bind fun r => (optR (cmpB o2 q.1 r.1)).bind fun d' => .ok (.bl d', r.2) else .ok (.bl false, q.2)
  | .ite c a b, ρ => (evE C c ρ).bind fun p => (optR (truO p.1)).bind fun t => if t then evE C a p.2 else evE C b p.2
  | .isi a ts, ρ => (evE C a ρ).bind fun p => (optR (isTs p.1 ts)).bind fun b => .ok (.bl b, p.2)
  | .call f as io, ρ => (evA C as ρ).bind fun p => (optR (lend p.2 p.1 io)).bind fun ds => (C.call f ds).bind fun r => .ok (r.1, setIO p.2 io r.2)
  | .callk f as pm io, ρ => (evA C as ρ).bind fun p => (optR (permD p.1 pm)).bind fun as' => (optR (lend p.2 as' io)).bind fun ds => (C.call f ds).bind fun r => .ok (r.1, setIO p.2 io r.2)
  | .callv i as, ρ => (optR ((gt ρ i).bind fnO)).bind fun f => (evA C as ρ).bind fun p => (C.call f p.1).bind fun r => .ok (r.1, p.2)
  | .bi b as, ρ => (evA C as ρ).bind fun p => (optR (biD b p.1)).bind fun d => .ok (d, p.2)
  | .biw b it, ρ => (evI C it ρ).bind fun p => (optR (biD b [.lst p.1])).bind fun d => .ok (d, p.2)
  | .me m o as, ρ => (evE C o ρ).bind fun p => (evA C as p.2).bind fun q => (optR (meD m p.1 q.1)).bind fun d => .ok (d, q.2)
  | .pop i a, ρ => (optR ((gt ρ i).bind lstD)).bind fun _ => (evE C a ρ).bind fun q => (optR ((gt q.2 i).bind lstD)).bind fun o => (optR (popL o q.1)).bind fun r => .ok (r.1, st q.2 i r.2)
  | .idx a k, ρ => (evE C a ρ).bind fun p => (evE C k p.2).bind fun q => (optR (getD p.1 q.1)).bind fun d => .ok (d, q.2)
  | .slc a lo hi, ρ => (evE C a ρ).bind fun p => (partR (isNonT lo) (evE C lo) p.2).bind fun q => (partR (isNonT hi) (evE C hi) q.2).bind fun r => (optR (slcV q.1 r.1 p.1)).bind fun d => .ok (d, r.2)
  | .rev a, ρ => (evE C a ρ).bind fun p => (optR (revD p.1)).bind fun d => .ok (d, p.2)
  | .tup as, ρ => (evA C as ρ).bind fun p => .ok (.tup p.1, p.2)
  | .lst _ as, ρ => (evA C as ρ).bind fun p => .ok (.lst p.1, p.2)
  | .dct ks vs, ρ => (evA C vs ρ).bind fun p => .ok (.dic (keysT ks) p.1, p.2)
  | .lc e tg it c own, ρ => (evI C it ρ).bind fun p =>
      (nox (compR (fun x ρ acc => (evG C tg x (unset ρ own)).bind fun ρ1 => (evC C c ρ1).bind fun t => if t.1 then (evE C e t.2).bind (push acc) else .ok (acc, t.2)) p.1 p.2 [])).bind fun r =>
      .ok (.lst r.1, back p.2 r.2 own)
  | .lc2 e tg it c tg2 it2 c2 own own2, ρ => (evI C it ρ).bind fun p =>
      (nox (compR (fun x ρ acc => (evG C tg x (unset ρ own)).bind fun ρ1 => (evC C c ρ1).bind fun t => if t.1 then (evI C it2 t.2).bind fun p2 =>
        compR (fun x ρ acc => (evG C tg2 x (unset ρ own2)).bind fun ρ1 => (evC C c2 ρ1).bind fun t => if t.1 then (evE C e t.2).bind (push acc) else .ok (acc, t.2)) p2.1 p2.2 acc else .ok (acc, t.2)) p.1 p.2 [])).bind fun r =>
      .ok (.lst r.1, back p.2 r.2 own)
  | .dc k e tg it c own, ρ => (evI C it ρ).bind fun p =>
      (compR (fun x ρ acc => (evG C tg x (unset ρ own)).bind fun ρ1 => (evC C c ρ1).bind fun t => if t.1 then (evE C k t.2).bind fun q1 => (evE C e q1.2).bind fun q => (optR (putD acc q1.1 q.1)).bind fun d => .ok (d, q.2) else .ok (acc, t.2)) p.1 p.2 (D.dic [] [])).bind fun r =>
      .ok (r.1, back p.2 r.2 own)
  | .dc2 k e tg it c tg2 it2 c2 own own2, ρ => (evI C it ρ).bind fun p =>
      (compR (fun x ρ acc => (evG C tg x (unset ρ own)).bind fun ρ1 => (evC C c ρ1).bind fun t => if t.1 then (evI C it2 t.2).bind fun p2 =>
        compR (fun x ρ acc => (evG C tg2 x (unset ρ own2)).bind fun ρ1 => (evC C c2 ρ1).bind fun t => if t.1 then (evE C k t.2).bind fun q1 => (evE C e q1.2).bind fun q => (optR (putD acc q1.1 q.1)).bind fun d => .ok (d, q.2) else .ok (acc, t.2)) p2.1 p2.2 acc else .ok (acc, t.2)) p.1 p.2 (D.dic [] [])).bind fun r =>
      .ok (r.1, back p.2 r.2 own)
  | .attr a n, ρ => (evE C a ρ).bind fun p => (optR (attrD n p.1)).bind fun d => .ok (d, p.2)
  | _, _ => bad
/-- a comprehension's test -/
def evC (C : Cfg) : T → Env → R (Bool × Env)
  | .nil, ρ => .ok (true, ρ)
  | .cons a _, ρ => (evE C a ρ).bind fun p => (optR (truO p.1)).bind fun t => .ok (t, p.2)
  | _, _ => bad
end

/-- the values of several targets, stored one behind the other -/
def parG (C : Cfg) (tgs : T) (l : List D) (ρ : Env) : R Env := evGs C tgs l ρ

mutual
def evS (C : Cfg) : T → Env → R Fl
  | .asg tg e, ρ => (evE C e ρ).bind fun p => (evG C tg p.1 p.2).bind fun ρ' => .ok (.nx ρ')
  | .mov j i, ρ => (optR (gt ρ i)).bind fun d => .ok (.nx (st (ρ.set i none) j d))
  | .par tgs es, ρ => (evA C es ρ).bind fun p => (optR (itemsT (lenT tgs) (.tup p.1))).bind fun l => (evGs C tgs l p.2).bind fun ρ' => .ok (.nx ρ')
  | .aug i e, ρ => (optR (gt ρ i)).bind fun x => (evE C e ρ).bind fun p => (optR (binD .add x p.1)).bind fun d => .ok (.nx (st p.2 i d))
  | .app o e, ρ => (evP C o ρ).bind fun p => (optR ((gt p.2.2 p.1).bind (updAt lstD p.2.1))).bind fun _ => (evE C e p.2.2).bind fun q => (optR (gt q.2 p.1)).bind fun x => (optR (updAt (appD q.1) p.2.1 x)).bind fun x' => .ok (.nx (st q.2 p.1 x'))
  | .ins o k e, ρ => (evP C o ρ).bind fun p => (evE C k p.2.2).bind fun r => (evE C e r.2).bind fun q => (optR (gt q.2 p.1)).bind fun x => (optR (updAt (insD' r.1 q.1) p.2.1 x)).bind fun x' => .ok (.nx (st q.2 p.1 x'))
  | .exp e, ρ => (evE C e ρ).bind fun p => .ok (.nx p.2)
  | .sif c a b, ρ => (evE C c ρ).bind fun p => (optR (truO p.1)).bind fun t => if t then evB C a p.2 else evB C b p.2
  | .whl c b m, ρ => whlR (fun ρ => (evE C c ρ).bind fun p => (optR (truO p.1)).bind fun t => .ok (t, p.2)) (fun ρ => (evB C b ρ).map (maskFl m)) C.fuel ρ
  | .for tg it b m, ρ => (evI C it ρ).bind fun p => forR (fun x ρ => (evG C tg x ρ).bind fun ρ' => (evB C b ρ').map (maskFl m)) p.1 p.2
  | .ret e, ρ => (evE C e ρ).bind fun p => .ok (.rt p.1 p.2)
  | .retv i, ρ => (optR (gt ρ i)).bind fun d => .ok (.rt d (ρ.set i none))
  | .retn, ρ => .ok (.rt .non ρ)
  | .rai k as, ρ => (match as with
    | .cons a .nil => (evE C a ρ).bind fun p => .error (.exc k [p.1])
    | _ => bad)
  | .try b c i h m, ρ => (match evB C b ρ with
    | .ok r => .ok r
    | .error .stuck => bad
    | .error (.exc c' fs) => if c == 0 || c == c' then (evB C h (st (unset ρ m) i (.exc c' fs))).map (sufFl i) else .error (.exc c' fs))
  | .pas, ρ => .ok (.nx ρ)
  | .brk, ρ => .ok (.bk ρ)
  | .cnt, ρ => .ok (.ct ρ)
  | .frz _ _, ρ => .ok (.nx ρ)
  | .mask l, ρ => .ok (.nx (unset ρ l))
  | _, _ => bad
def evB (C : Cfg) : T → Env → R Fl
  | .nil, ρ => .ok (.nx ρ)
  | .cons a b, ρ => (evS C a ρ).bind fun r => (match r with
    | .nx ρ' => evB C b ρ'
    | r => .ok r)
  | _, _ => bad
end

/-- a def: how many parameters, which of them are lent, how many slots, the body -/
structure Fn where
  np : Nat
  io : List Nat
  ns : Nat
  body : T

def initE (f : Fn) (as : List D) : Env := as.map some ++ List.replicate (f.ns - f.np) none
def outs (ρ : Env) : List Nat → Option (List D)
  | [] => some []
  | i :: l => (gt ρ i).bind fun d => (outs ρ l).map (d :: ·)
def endFn (f : Fn) : Fl → R (D × List D)
  | .nx ρ => (optR (outs ρ f.io)).bind fun o => .ok (.non, o)
  | .rt d ρ => (optR (outs ρ f.io)).bind fun o => .ok (d, o)
  | _ => bad
def runFn (C : Cfg) (f : Fn) (as : List D) : R (D × List D) :=
  if as.length = f.np then (evB C f.body (initE f as)).bind (endFn f) else bad

structure Prog where
  fn : Nat → Option Fn
  glob : Nat → D

def FUEL : Nat := 1000000000

def run (P : Prog) : Nat → Nat → List D → R (D × List D)
  | 0, _, _ => bad
  | n + 1, f, as => (optR (P.fn f)).bind fun F => runFn { call := run P n, glob := P.glob, fuel := FUEL } F as
end Pz
end
section
set_option Elab.async false
set_option linter.all false
/-! What a value of the machine says as plain data: frozen (RD), owned (OT), a frame's slots (Rep). -/
namespace Pz
open PySem PySem.Spec PyProof.Rows L2

abbrev sV (s : List Nat) : V := .str ⟨s.toArray⟩

/-- where the text's defs and classes stand -/
structure Tx where
  K : PySem.W.Frag
  fa : Nat → Option Addr
  ca : Nat → Option Addr
/-- at a: an exception that was caught, of the class at C, its dict at dx -/
def CaO (a C dx : Addr) : HO := .ext fun h => ∃ oe vs, h.get? a = some oe ∧ Zc (.ref C) (some dx) oe ∧ oe.data = .fields vs

/-- a key that is an int or a text, as data -/
def kD : Key → D
  | .inl i => .int i
  | .inr x => .str x.cps.toList
abbrev Sl := L2.St

inductive RD (X : Tx) (F : Hp) : V → D → Prop
  | non : RD X F .non .non
  | bl (b : Bool) : RD X F (.bl b) (.bl b)
  | int (i : Int) : RD X F (.int i) (.int i)
  | str (s : List Nat) : RD X F (sV s) (.str s)
  | fn {f : Nat} {a : Addr} : X.fa f = some a → RD X F (.ref a) (.fn f)
  | lst {a : Addr} {l : List D} (ps : List (V × D)) : l = ps.map (·.2) → SqL X.K F a (ps.map (·.1)) → (∀ p ∈ ps, RD X F p.1 p.2) → RD X F (.ref a) (.lst l)
  | tup {a : Addr} {l : List D} (ps : List (V × D)) : l = ps.map (·.2) → SqT X.K F a (ps.map (·.1)) → (∀ p ∈ ps, RD X F p.1 p.2) → RD X F (.ref a) (.tup l)
  | dic {a : Addr} {ks vs : List D} (ps : List (Key × V × D)) (ds : List D) : vs = ps.map (·.2.2) → F a = some (.dK (ps.map fun p => (p.1, p.2.1))) → ks = ps.map (fun p => kD p.1) →
      (∀ p ∈ ps, RD X F p.2.1 p.2.2) → RD X F (.ref a) (.dic ks vs)
  | exc {a C dx : Addr} {k : Nat} {v : V} {d : D} : X.ca k = some C → F a = some (CaO a C dx) → F dx = some (.xd [("value", v)]) → RD X F v d → RD X F (.ref a) (.exc k [d])

/-- a heap that grows -/
abbrev Sub (F G : Hp) : Prop := ∀ a o, F a = some o → G a = some o
theorem Sub.refl (F : Hp) : Sub F F := fun _ _ h => h
theorem Sub.trans {F G H : Hp} (a : Sub F G) (b : Sub G H) : Sub F H := fun c o h => b c o (a c o h)
theorem Sub.rd {F G : Hp} (h : Sub F G) {a : Addr} {u : HO} (r : Rd F a u) : Rd G a u := r.elim (fun z => .inl (h _ _ z)) fun ⟨o, z⟩ => .inr ⟨o, h _ _ z⟩
theorem Sub.sqL {K : PySem.W.Frag} {F G : Hp} (h : Sub F G) {a : Addr} {xs : List V} (r : SqL K F a xs) : SqL K G a xs := r.elim (fun z => .inl (h.rd z)) .inr
theorem Sub.sqT {K : PySem.W.Frag} {F G : Hp} (h : Sub F G) {a : Addr} {xs : List V} (r : SqT K F a xs) : SqT K G a xs := r.elim (fun z => .inl (h.rd z)) .inr
theorem RD.mono {X : Tx} {F G : Hp} (h : Sub F G) {v : V} {d : D} (r : RD X F v d) : RD X G v d := by
  induction r with
  | non => exact .non
  | bl b => exact .bl b
  | int i => exact .int i
  | str s => exact .str s
  | fn e => exact .fn e
  | lst ps e s _ ih => exact .lst ps e (h.sqL s) ih
  | tup ps e s _ ih => exact .tup ps e (h.sqT s) ih
  | dic ps ds e s k _ ih => exact .dic ps ds e (h _ _ s) k ih
  | exc e1 e2 e3 _ ih => exact .exc e1 (h _ _ e2) (h _ _ e3) ih

/-! ### owned trees -/
section
variable (X : Tx) (H F : Hp)
def OT : Nat → V → D → List Addr → Prop
  | 0, v, d, A => A = [] ∧ RD X F v d
  | n + 1, v, d, A => match d with
    | .lst l => ∃ (a : Addr) (qs : List (V × D × List Addr)), v = .ref a ∧ l = qs.map (·.2.1) ∧ H a = some (.lst (qs.map (·.1))) ∧ F a = none ∧ A = a :: (qs.map (·.2.2)).flatten ∧ ∀ q ∈ qs, OT n q.1 q.2.1 q.2.2
    | .tup l => ∃ (a : Addr) (qs : List (V × D × List Addr)), v = .ref a ∧ l = qs.map (·.2.1) ∧ H a = some (.tup (qs.map (·.1))) ∧ F a = none ∧ A = a :: (qs.map (·.2.2)).flatten ∧ ∀ q ∈ qs, OT n q.1 q.2.1 q.2.2
    | .dic ks vs => ∃ (a : Addr) (qs : List (Key × V × D × List Addr)), v = .ref a ∧ vs = qs.map (·.2.2.1) ∧ H a = some (.dK (qs.map fun q => (q.1, q.2.1))) ∧ F a = none ∧
        ks = qs.map (fun p => kD p.1) ∧ A = a :: (qs.map (·.2.2.2)).flatten ∧ ∀ q ∈ qs, OT n q.2.1 q.2.2.1 q.2.2.2
    | _ => A = [] ∧ RD X F v d
end

/-- the heaps, and what was owned, go on -/
structure Nxt (H F : Hp) (P : Addr → Prop) (H' F' : Hp) (P' : Addr → Prop) : Prop where
  keep : ∀ a o, H a = some o → ¬ P a → H' a = some o
  fro : Sub F F'
  new : ∀ a, F' a ≠ none → F a ≠ none ∨ P a ∨ H a = none
  own : ∀ a, P' a → P a ∨ H a = none
theorem Nxt.refl {H F : Hp} {P : Addr → Prop} : Nxt H F P H F P := ⟨fun _ _ h _ => h, Sub.refl F, fun _ h => .inl h, fun _ h => .inl h⟩
theorem Nxt.free {H F H' F' : Hp} {P P' : Addr → Prop} (n : Nxt H F P H' F' P') {a : Addr} (h : H' a = none) : P a ∨ H a = none := by
  by_cases p : P a
  · exact .inl p
  · cases e : H a with
    | none => exact .inr rfl
    | some o => rw [n.keep a o e p] at h; cases h
theorem Nxt.trans {H F H1 F1 H2 F2 : Hp} {P P1 P2 : Addr → Prop} (m : Nxt H F P H1 F1 P1) (n : Nxt H1 F1 P1 H2 F2 P2) : Nxt H F P H2 F2 P2 := by
  refine ⟨fun a o h p => n.keep a o (m.keep a o h p) fun q => ?_, m.fro.trans n.fro, fun a h => ?_, fun a h => ?_⟩
  · rcases m.own a q with z | z
    · exact p z
    · rw [h] at z; cases z
  · rcases n.new a h with z | z | z
    · exact m.new a z
    · exact .inr (m.own a z)
    · exact .inr (m.free z)
  · rcases n.own a h with z | z
    · exact m.own a z
    · exact m.free z
/-- .. beside something else that is owned -/
theorem Nxt.beside {H F H' F' : Hp} {P P' B : Addr → Prop} (n : Nxt H F P H' F' P') : Nxt H F (fun a => P a ∨ B a) H' F' (fun a => P' a ∨ B a) :=
  ⟨fun a o h p => n.keep a o h fun q => p (.inl q), n.fro, fun a h => (n.new a h).elim .inl fun z => .inr (z.elim (fun q => .inl (.inl q)) .inr),
   fun a h => h.elim (fun q => (n.own a q).elim (fun z => .inl (.inl z)) .inr) fun q => .inl (.inr q)⟩
theorem Nxt.weak {H F H' F' : Hp} {P P' Q Q' : Addr → Prop} (n : Nxt H F P H' F' P') (h : ∀ a, P a → Q a) (h' : ∀ a, Q' a → P' a ∨ Q a) : Nxt H F Q H' F' Q' :=
  ⟨fun a o e p => n.keep a o e fun q => p (h a q), n.fro, fun a e => (n.new a e).elim .inl fun z => .inr (z.elim (fun q => .inl (h a q)) .inr),
   fun a e => (h' a e).elim (fun q => (n.own a q).elim (fun z => .inl (h a z)) .inr) .inl⟩
/-- the heap grows alone -/
theorem Nxt.grow {H F H' : Hp} {P : Addr → Prop} (s : Sub H H') : Nxt H F P H' F P := ⟨fun a o h _ => s a o h, Sub.refl F, fun _ h => .inl h, fun _ h => .inl h⟩

section
variable {X : Tx} {H F H' F' : Hp}
theorem OT.atom {n : Nat} {v : V} {d : D} (h : RD X F v d) (a : isAtom d = true) : OT X H F n v d [] := by
  cases n with
  | zero => exact ⟨rfl, h⟩
  | succ n => cases d <;> first | exact ⟨rfl, h⟩ | exact absurd a (by simp [isAtom])
theorem flat_mem {α : Type} {qs : List α} {f : α → List Addr} {q : α} {a : Addr} (h : q ∈ qs) (m : a ∈ f q) : a ∈ (qs.map f).flatten :=
  List.mem_flatten.mpr ⟨f q, List.mem_map.mpr ⟨q, h, rfl⟩, m⟩
/-- what is owned stands, and isn't frozen -/
theorem OT.dom : ∀ {n : Nat} {v : V} {d : D} {A : List Addr}, OT X H F n v d A → ∀ a ∈ A, H a ≠ none ∧ F a = none
  | 0, _, _, _, h, a, m => by rw [h.1] at m; cases m
  | n + 1, v, d, A, h, a, m => by
    cases d <;> try (have h : A = [] ∧ RD X F v _ := h; rw [h.1] at m; cases m; done)
    · obtain ⟨b, qs, _, _, e3, e4, e5, e6⟩ := h
      rw [e5] at m
      rcases List.mem_cons.mp m with rfl | m
      · exact ⟨by rw [e3]; simp, e4⟩
      · obtain ⟨x, hx, m⟩ := List.mem_flatten.mp m
        obtain ⟨q, hq, rfl⟩ := List.mem_map.mp hx
        exact OT.dom (e6 q hq) a m
    · obtain ⟨b, qs, _, _, e3, e4, e5, e6⟩ := h
      rw [e5] at m
      rcases List.mem_cons.mp m with rfl | m
      · exact ⟨by rw [e3]; simp, e4⟩
      · obtain ⟨x, hx, m⟩ := List.mem_flatten.mp m
        obtain ⟨q, hq, rfl⟩ := List.mem_map.mp hx
        exact OT.dom (e6 q hq) a m
    · obtain ⟨b, qs, _, _, e3, e4, _, e5, e6⟩ := h
      rw [e5] at m
      rcases List.mem_cons.mp m with rfl | m
      · exact ⟨by rw [e3]; simp, e4⟩
      · obtain ⟨x, hx, m⟩ := List.mem_flatten.mp m
        obtain ⟨q, hq, rfl⟩ := List.mem_map.mp hx
        exact OT.dom (e6 q hq) a m
/-- it stays where its objects stay -/
theorem OT.stay : ∀ {n : Nat} {v : V} {d : D} {A : List Addr}, OT X H F n v d A → (∀ a ∈ A, ∀ o, H a = some o → H' a = some o) → Sub F F' → (∀ a ∈ A, F' a = none) → OT X H' F' n v d A
  | 0, _, _, _, h, _, s, _ => ⟨h.1, h.2.mono s⟩
  | n + 1, v, d, A, h, k, s, z => by
    cases d <;> try (have h : A = [] ∧ RD X F v _ := h; exact ⟨h.1, h.2.mono s⟩)
    · obtain ⟨b, qs, e1, e2, e3, e4, e5, e6⟩ := h
      subst e5
      exact ⟨b, qs, e1, e2, k b List.mem_cons_self _ e3, z b List.mem_cons_self, rfl, fun q hq => OT.stay (e6 q hq) (fun a m => k a (List.mem_cons_of_mem _ (flat_mem (f := fun q : V × D × List Addr => q.2.2) hq m))) s fun a m => z a (List.mem_cons_of_mem _ (flat_mem (f := fun q : V × D × List Addr => q.2.2) hq m))⟩
    · obtain ⟨b, qs, e1, e2, e3, e4, e5, e6⟩ := h
      subst e5
      exact ⟨b, qs, e1, e2, k b List.mem_cons_self _ e3, z b List.mem_cons_self, rfl, fun q hq => OT.stay (e6 q hq) (fun a m => k a (List.mem_cons_of_mem _ (flat_mem (f := fun q : V × D × List Addr => q.2.2) hq m))) s fun a m => z a (List.mem_cons_of_mem _ (flat_mem (f := fun q : V × D × List Addr => q.2.2) hq m))⟩
    · obtain ⟨b, qs, e1, e2, e3, e4, e7, e5, e6⟩ := h
      subst e5
      exact ⟨b, qs, e1, e2, k b List.mem_cons_self _ e3, z b List.mem_cons_self, e7, rfl, fun q hq => OT.stay (e6 q hq) (fun a m => k a (List.mem_cons_of_mem _ (flat_mem (f := fun q : Key × V × D × List Addr => q.2.2.2) hq m))) s fun a m => z a (List.mem_cons_of_mem _ (flat_mem (f := fun q : Key × V × D × List Addr => q.2.2.2) hq m))⟩
/-- .. over a step by which it isn't touched -/
theorem OT.step {P P' : Addr → Prop} {n : Nat} {v : V} {d : D} {A : List Addr} (h : OT X H F n v d A) (nx : Nxt H F P H' F' P') (hp : ∀ a ∈ A, ¬ P a) : OT X H' F' n v d A :=
  h.stay (fun a m o e => nx.keep a o e (hp a m)) nx.fro fun a m => by
    obtain ⟨d1, d2⟩ := h.dom a m
    cases e : F' a with
    | none => rfl
    | some o =>
      rcases nx.new a (by rw [e]; simp) with z | z | z
      · exact absurd d2 z
      · exact absurd z (hp a m)
      · exact absurd z d1
theorem map_fst_snd {α β γ : Type} (qs : List (α × β × γ)) : (qs.map fun q => (q.1, q.2.1)).map (·.1) = qs.map (·.1) ∧ (qs.map fun q => (q.1, q.2.1)).map (·.2) = qs.map (·.2.1) := by
  constructor <;> rw [List.map_map] <;> rfl
/-- all of it frozen: read in any heap that holds what is frozen and what is owned -/
theorem OT.frozen : ∀ {n : Nat} {v : V} {d : D} {A : List Addr}, OT X H F n v d A → ∀ {G : Hp}, Sub F G → (∀ a ∈ A, G a = H a) → RD X G v d
  | 0, _, _, _, h, _, s, _ => h.2.mono s
  | n + 1, v, d, A, h, G, s, z => by
    cases d <;> try (have h : A = [] ∧ RD X F v _ := h; exact h.2.mono s)
    · obtain ⟨b, qs, rfl, e2, e3, e4, e5, e6⟩ := h
      subst e5
      refine .lst (qs.map fun q => (q.1, q.2.1)) (by rw [e2, (map_fst_snd qs).2]) (by rw [(map_fst_snd qs).1]; exact .of (by rw [z b List.mem_cons_self]; exact e3)) fun p hp => ?_
      obtain ⟨q, hq, rfl⟩ := List.mem_map.mp hp
      exact OT.frozen (e6 q hq) s fun a m => z a (List.mem_cons_of_mem _ (flat_mem (f := fun q : V × D × List Addr => q.2.2) hq m))
    · obtain ⟨b, qs, rfl, e2, e3, e4, e5, e6⟩ := h
      subst e5
      refine .tup (qs.map fun q => (q.1, q.2.1)) (by rw [e2, (map_fst_snd qs).2]) (by rw [(map_fst_snd qs).1]; exact .of (by rw [z b List.mem_cons_self]; exact e3)) fun p hp => ?_
      obtain ⟨q, hq, rfl⟩ := List.mem_map.mp hp
      exact OT.frozen (e6 q hq) s fun a m => z a (List.mem_cons_of_mem _ (flat_mem (f := fun q : V × D × List Addr => q.2.2) hq m))
    · obtain ⟨b, qs, rfl, e2, e3, e4, e7, e5, e6⟩ := h
      subst e5
      refine .dic (qs.map fun q => (q.1, q.2.1, q.2.2.1)) [] (by rw [e2, List.map_map]; rfl) (by rw [z b List.mem_cons_self, e3, List.map_map]; rfl) (by rw [e7, List.map_map]; rfl) fun p hp => ?_
      obtain ⟨q, hq, rfl⟩ := List.mem_map.mp hp
      exact OT.frozen (e6 q hq) s fun a m => z a (List.mem_cons_of_mem _ (flat_mem (f := fun q : Key × V × D × List Addr => q.2.2.2) hq m))
theorem OT.read {n : Nat} {v : V} {d : D} {A : List Addr} (h : OT X H F n v d A) (s : Sub F H) : RD X H v d := h.frozen s fun _ _ => rfl
end
end Pz
end
section
set_option Elab.async false
set_option linter.all false
/-! A frame's slots as data; what an expression's evaluation says of the machine. -/
namespace Pz
open PySem PySem.Spec PyProof.Rows L2

section
variable {X : Tx} {H F : Hp}
/-- less is owned: the rest is frozen -/
theorem OT.lower : ∀ {m n : Nat} {v : V} {d : D} {A : List Addr}, OT X H F n v d A → A.Nodup → m ≤ n →
    ∃ A', (∀ a ∈ A', a ∈ A) ∧ A'.Nodup ∧ ∀ F', Sub F F' → (∀ b ∈ A, b ∉ A' → F' b = H b) → (∀ b ∈ A', F' b = none) → OT X H F' m v d A'
  | 0, n, v, d, A, h, nd, _ => ⟨[], fun _ z => absurd z (by simp), List.nodup_nil, fun F' s k _ => ⟨rfl, h.frozen s fun a m => k a m (by simp)⟩⟩
  | m + 1, 0, _, _, _, _, _, hm => absurd hm (by omega)
  | m + 1, n + 1, v, d, A, h, nd, hm => by
    have kids : ∀ (qs : List (V × D × List Addr)), (qs.map (·.2.2)).flatten.Nodup → (∀ q ∈ qs, OT X H F n q.1 q.2.1 q.2.2) →
        ∃ rs : List (V × D × List Addr), rs.map (·.1) = qs.map (·.1) ∧ rs.map (·.2.1) = qs.map (·.2.1) ∧ (∀ a ∈ (rs.map (·.2.2)).flatten, a ∈ (qs.map (·.2.2)).flatten) ∧ (rs.map (·.2.2)).flatten.Nodup ∧
          ∀ F', Sub F F' → (∀ b ∈ (qs.map (·.2.2)).flatten, b ∉ (rs.map (·.2.2)).flatten → F' b = H b) → (∀ b ∈ (rs.map (·.2.2)).flatten, F' b = none) → ∀ q ∈ rs, OT X H F' m q.1 q.2.1 q.2.2 := by
      intro qs
      induction qs with
      | nil => exact fun _ _ => ⟨[], rfl, rfl, fun a z => z, List.nodup_nil, fun _ _ _ _ q hq => absurd hq (by simp)⟩
      | cons q qs ih =>
        intro nd' hq
        simp only [List.map_cons, List.flatten_cons] at nd'
        obtain ⟨n1, n2, n3⟩ := List.nodup_append.mp nd'
        obtain ⟨rs, e1, e2, e3, e4, e5⟩ := ih n2 fun q' h' => hq q' (List.mem_cons_of_mem _ h')
        obtain ⟨B, b1, b2, b3⟩ := OT.lower (m := m) (hq q List.mem_cons_self) n1 (by omega)
        refine ⟨(q.1, q.2.1, B) :: rs, by simp [e1], by simp [e2], ?_, ?_, ?_⟩
        · intro a ha
          simp only [List.map_cons, List.flatten_cons, List.mem_append] at ha ⊢
          exact ha.elim (fun z => .inl (b1 a z)) fun z => .inr (e3 a z)
        · simp only [List.map_cons, List.flatten_cons]
          exact List.nodup_append.mpr ⟨b2, e4, fun a ha b hb => n3 a (b1 a ha) b (e3 b hb)⟩
        · intro F' s k z q' hq'
          simp only [List.map_cons, List.flatten_cons, List.mem_append] at k z
          rcases List.mem_cons.mp hq' with rfl | hq'
          · exact b3 F' s (fun b hb nb => k b (.inl hb) fun y => y.elim nb fun y => n3 b hb b (e3 b y) rfl) fun b hb => z b (.inl hb)
          · exact e5 F' s (fun b hb nb => k b (.inr hb) fun y => y.elim (fun y => n3 b (b1 b y) b hb rfl) nb) (fun b hb => z b (.inr hb)) q' hq'
    have kidsD : ∀ (qs : List (Key × V × D × List Addr)), (qs.map (·.2.2.2)).flatten.Nodup → (∀ q ∈ qs, OT X H F n q.2.1 q.2.2.1 q.2.2.2) →
        ∃ rs : List (Key × V × D × List Addr), rs.map (fun q => (q.1, q.2.1)) = qs.map (fun q => (q.1, q.2.1)) ∧ rs.map (·.2.2.1) = qs.map (·.2.2.1) ∧ rs.map (·.1) = qs.map (·.1) ∧ (∀ a ∈ (rs.map (·.2.2.2)).flatten, a ∈ (qs.map (·.2.2.2)).flatten) ∧ (rs.map (·.2.2.2)).flatten.Nodup ∧
          ∀ F', Sub F F' → (∀ b ∈ (qs.map (·.2.2.2)).flatten, b ∉ (rs.map (·.2.2.2)).flatten → F' b = H b) → (∀ b ∈ (rs.map (·.2.2.2)).flatten, F' b = none) → ∀ q ∈ rs, OT X H F' m q.2.1 q.2.2.1 q.2.2.2 := by
      intro qs
      induction qs with
      | nil => exact fun _ _ => ⟨[], rfl, rfl, rfl, fun a z => z, List.nodup_nil, fun _ _ _ _ q hq => absurd hq (by simp)⟩
      | cons q qs ih =>
        intro nd' hq
        simp only [List.map_cons, List.flatten_cons] at nd'
        obtain ⟨n1, n2, n3⟩ := List.nodup_append.mp nd'
        obtain ⟨rs, e1, e2, e0, e3, e4, e5⟩ := ih n2 fun q' h' => hq q' (List.mem_cons_of_mem _ h')
        obtain ⟨B, b1, b2, b3⟩ := OT.lower (m := m) (hq q List.mem_cons_self) n1 (by omega)
        refine ⟨(q.1, q.2.1, q.2.2.1, B) :: rs, by simp [e1], by simp [e2], by simp [e0], ?_, ?_, ?_⟩
        · intro a ha
          simp only [List.map_cons, List.flatten_cons, List.mem_append] at ha ⊢
          exact ha.elim (fun z => .inl (b1 a z)) fun z => .inr (e3 a z)
        · simp only [List.map_cons, List.flatten_cons]
          exact List.nodup_append.mpr ⟨b2, e4, fun a ha b hb => n3 a (b1 a ha) b (e3 b hb)⟩
        · intro F' s k z q' hq'
          simp only [List.map_cons, List.flatten_cons, List.mem_append] at k z
          rcases List.mem_cons.mp hq' with rfl | hq'
          · exact b3 F' s (fun b hb nb => k b (.inl hb) fun y => y.elim nb fun y => n3 b hb b (e3 b y) rfl) fun b hb => z b (.inl hb)
          · exact e5 F' s (fun b hb nb => k b (.inr hb) fun y => y.elim (fun y => n3 b (b1 b y) b hb rfl) nb) (fun b hb => z b (.inr hb)) q' hq'
    cases d <;> try (have h : A = [] ∧ RD X F v _ := h; exact ⟨[], fun _ z => absurd z (by simp), List.nodup_nil, fun F' s _ _ => ⟨rfl, h.2.mono s⟩⟩)
    · obtain ⟨b, qs, r1, r2, r3, r4, r5, r6⟩ := h
      subst r5
      obtain ⟨nb, nd2⟩ := List.nodup_cons.mp nd
      obtain ⟨rs, e1, e2, e3, e4, e5⟩ := kids qs nd2 r6
      refine ⟨b :: (rs.map (·.2.2)).flatten, fun a ha => ?_, List.nodup_cons.mpr ⟨fun z => nb (e3 b z), e4⟩, fun F' s k z => ⟨b, rs, r1, by rw [e2]; exact r2, by rw [e1]; exact r3, z b List.mem_cons_self, rfl, e5 F' s (fun c hc nc => ?_) fun c hc => z c (List.mem_cons_of_mem _ hc)⟩⟩
      · rcases List.mem_cons.mp ha with rfl | ha
        · exact List.mem_cons_self
        · exact List.mem_cons_of_mem _ (e3 a ha)
      · exact k c (List.mem_cons_of_mem _ hc) fun y => (List.mem_cons.mp y).elim (fun y => nb (y ▸ hc)) nc
    · obtain ⟨b, qs, r1, r2, r3, r4, r5, r6⟩ := h
      subst r5
      obtain ⟨nb, nd2⟩ := List.nodup_cons.mp nd
      obtain ⟨rs, e1, e2, e3, e4, e5⟩ := kids qs nd2 r6
      refine ⟨b :: (rs.map (·.2.2)).flatten, fun a ha => ?_, List.nodup_cons.mpr ⟨fun z => nb (e3 b z), e4⟩, fun F' s k z => ⟨b, rs, r1, by rw [e2]; exact r2, by rw [e1]; exact r3, z b List.mem_cons_self, rfl, e5 F' s (fun c hc nc => ?_) fun c hc => z c (List.mem_cons_of_mem _ hc)⟩⟩
      · rcases List.mem_cons.mp ha with rfl | ha
        · exact List.mem_cons_self
        · exact List.mem_cons_of_mem _ (e3 a ha)
      · exact k c (List.mem_cons_of_mem _ hc) fun y => (List.mem_cons.mp y).elim (fun y => nb (y ▸ hc)) nc
    · obtain ⟨b, qs, r1, r2, r3, r4, r7, r5, r6⟩ := h
      subst r5
      obtain ⟨nb, nd2⟩ := List.nodup_cons.mp nd
      obtain ⟨rs, e1, e2, e0, e3, e4, e5⟩ := kidsD qs nd2 r6
      have ek : ∀ f : Key → D, rs.map (fun q => f q.1) = qs.map (fun q => f q.1) := fun f => by
        have := congrArg (List.map f) e0
        rw [List.map_map, List.map_map] at this
        exact this
      refine ⟨b :: (rs.map (·.2.2.2)).flatten, fun a ha => ?_, List.nodup_cons.mpr ⟨fun z => nb (e3 b z), e4⟩, fun F' s k z => ⟨b, rs, r1, by rw [e2]; exact r2, by rw [e1]; exact r3, z b List.mem_cons_self, by rw [r7]; exact (ek kD).symm, rfl, e5 F' s (fun c hc nc => ?_) fun c hc => z c (List.mem_cons_of_mem _ hc)⟩⟩
      · rcases List.mem_cons.mp ha with rfl | ha
        · exact List.mem_cons_self
        · exact List.mem_cons_of_mem _ (e3 a ha)
      · exact k c (List.mem_cons_of_mem _ hc) fun y => (List.mem_cons.mp y).elim (fun y => nb (y ▸ hc)) nc
end

/-! ### a frame's slots -/
abbrev Own (A : Nat → List Addr) : Addr → Prop := fun a => ∃ i, a ∈ A i
structure Rep (X : Tx) (Γ : List Nat) (ρ : Env) (σ : Sl) (H F : Hp) (A : Nat → List Addr) : Prop where
  sub : Sub F H
  len : ρ.length = σ.length
  val : ∀ i d, ρ[i]? = some (some d) → ∃ v, σ[i]? = some (some v) ∧ OT X H F (Γ.getD i 0) v d (A i)
  non : ∀ i, (∀ d, ρ[i]? ≠ some (some d)) → A i = []
  nd : ∀ i, (A i).Nodup
  dis : ∀ i j, i ≠ j → ∀ a ∈ A i, a ∉ A j
section
variable {X : Tx} {Γ : List Nat} {ρ : Env} {σ : Sl} {H F H' F' : Hp} {A : Nat → List Addr}
theorem gt_ok {ρ : Env} {i : Nat} {d : D} (h : gt ρ i = some d) : ρ[i]? = some (some d) := by
  unfold gt at h
  split at h
  · rename_i d' e; cases h; exact e
  · cases h
theorem gt_of {ρ : Env} {i : Nat} {d : D} (h : ρ[i]? = some (some d)) : gt ρ i = some d := by
  unfold gt; rw [h]
theorem Rep.dom (r : Rep X Γ ρ σ H F A) {a : Addr} (h : Own A a) : H a ≠ none ∧ F a = none := by
  obtain ⟨i, h⟩ := h
  by_cases e : ∃ d, ρ[i]? = some (some d)
  · obtain ⟨d, e⟩ := e
    obtain ⟨v, _, o⟩ := r.val i d e
    exact o.dom a h
  · rw [r.non i fun d z => e ⟨d, z⟩] at h; cases h
/-- .. over a step that touches nothing of it -/
theorem Rep.step {P P' : Addr → Prop} (r : Rep X Γ ρ σ H F A) (n : Nxt H F P H' F' P') (s : Sub F' H') (hp : ∀ a, Own A a → ¬ P a) : Rep X Γ ρ σ H' F' A :=
  ⟨s, r.len, fun i d e => let ⟨v, e', o⟩ := r.val i d e; ⟨v, e', o.step n fun a m => hp a ⟨i, m⟩⟩, r.non, r.nd, r.dis⟩
theorem getD_set_self {Γ : List Nat} {i n : Nat} (h : i < Γ.length) : (Γ.set i n).getD i 0 = n := by
  rw [List.getD_eq_getElem?_getD, List.getElem?_set_self h]; rfl
theorem getD_set_ne {Γ : List Nat} {i j n : Nat} (h : i ≠ j) : (Γ.set i n).getD j 0 = Γ.getD j 0 := by
  rw [List.getD_eq_getElem?_getD, List.getElem?_set_ne h, List.getD_eq_getElem?_getD]
/-- a slot gets a value -/
theorem Rep.put {i n : Nat} {v : V} {d : D} {B : List Addr} (r : Rep X Γ ρ σ H F A) (hi : i < ρ.length) (hg : i < Γ.length) (o : OT X H F n v d B) (nb : B.Nodup) (dj : ∀ a ∈ B, ∀ j, j ≠ i → a ∉ A j) :
    Rep X (Γ.set i n) (st ρ i d) (σ.set i (some v)) H F (fun j => if j = i then B else A j) := by
  refine ⟨r.sub, by unfold st; simp [r.len], fun j d' e => ?_, fun j e => ?_, fun j => ?_, fun j k hjk a ha => ?_⟩
  · unfold st at e
    by_cases h : j = i
    · subst h
      rw [List.getElem?_set_self hi] at e
      cases e
      refine ⟨v, by rw [List.getElem?_set_self (by rw [← r.len]; exact hi)], ?_⟩
      rw [getD_set_self hg]; simpa using o
    · rw [List.getElem?_set_ne (Ne.symm h)] at e
      obtain ⟨v', e', o'⟩ := r.val j d' e
      refine ⟨v', by rw [List.getElem?_set_ne (Ne.symm h)]; exact e', ?_⟩
      rw [getD_set_ne (Ne.symm h)]; simpa [h] using o'
  · unfold st at e
    by_cases h : j = i
    · subst h
      exact absurd (List.getElem?_set_self hi) (e d)
    · simp only [h, if_false]
      exact r.non j fun d' z => e d' (by rw [List.getElem?_set_ne (Ne.symm h)]; exact z)
  · by_cases h : j = i <;> simp only [h, if_true, if_false]
    · exact nb
    · exact r.nd j
  · by_cases h : j = i <;> by_cases h' : k = i <;> simp only [h, h', if_true, if_false] at ha ⊢
    · exact absurd (h.trans h'.symm) hjk
    · exact dj a ha k h'
    · exact fun z => dj a z j h ha
    · exact r.dis j k hjk a ha
/-- a slot is forgotten -/
theorem Rep.drop (r : Rep X Γ ρ σ H F A) (i : Nat) : Rep X Γ (ρ.set i none) σ H F (fun j => if j = i then [] else A j) := by
  refine ⟨r.sub, by simp [r.len], fun j d' e => ?_, fun j e => ?_, fun j => ?_, fun j k hjk a ha => ?_⟩
  · by_cases h : j = i
    · subst h
      by_cases hl : j < ρ.length
      · rw [List.getElem?_set_self hl] at e; cases e
      · rw [List.getElem?_eq_none (by simpa using hl)] at e; cases e
    · rw [List.getElem?_set_ne (Ne.symm h)] at e
      simpa [h] using r.val j d' e
  · by_cases h : j = i
    · simp [h]
    · simp only [h, if_false]
      exact r.non j fun d' z => e d' (by rw [List.getElem?_set_ne (Ne.symm h)]; exact z)
  · by_cases h : j = i <;> simp only [h, if_true, if_false]
    · exact List.nodup_nil
    · exact r.nd j
  · by_cases h : j = i <;> by_cases h' : k = i <;> simp only [h, h', if_true, if_false] at ha ⊢
    · cases ha
    · cases ha
    · simp
    · exact r.dis j k hjk a ha
theorem Rep.unset (r : Rep X Γ ρ σ H F A) : ∀ l : List Nat, ∃ A', Rep X Γ (unset ρ l) σ H F A' ∧ ∀ a, Own A' a → Own A a := by
  intro l
  induction l generalizing ρ A with
  | nil => exact ⟨A, r, fun _ h => h⟩
  | cons i l ih =>
    obtain ⟨A', r', h'⟩ := ih (r.drop i)
    refine ⟨A', r', fun a h => ?_⟩
    obtain ⟨j, hj⟩ := h' a h
    by_cases e : j = i
    · simp [e] at hj
    · simp only [e, if_false] at hj; exact ⟨j, hj⟩
/-- the levels of slots that hold nothing don't matter; a lower level: by freezing -/
theorem Rep.relevel {Γ' : List Nat} (r : Rep X Γ ρ σ H F A) (h : ∀ i d, ρ[i]? = some (some d) → Γ'.getD i 0 ≤ Γ.getD i 0) :
    ∃ F' A', Rep X Γ' ρ σ H F' A' ∧ Nxt H F (Own A) H F' (Own A') := by
  classical
  -- what each slot keeps
  have ex : ∀ i, ∃ B : List Addr, (∀ a ∈ B, a ∈ A i) ∧ B.Nodup ∧ ((∀ d, ρ[i]? ≠ some (some d)) → B = []) ∧ ∀ d, ρ[i]? = some (some d) → ∀ v, σ[i]? = some (some v) → OT X H F (Γ.getD i 0) v d (A i) → ∀ F', Sub F F' → (∀ b ∈ A i, b ∉ B → F' b = H b) → (∀ b ∈ B, F' b = none) → OT X H F' (Γ'.getD i 0) v d B := by
    intro i
    by_cases e : ∃ d, ρ[i]? = some (some d)
    · obtain ⟨d, e⟩ := e
      obtain ⟨v, ev, o⟩ := r.val i d e
      obtain ⟨B, b1, b2, b3⟩ := o.lower (r.nd i) (h i d e)
      refine ⟨B, b1, b2, fun z => absurd e (z d), fun d' e' v' ev' o' F' => ?_⟩
      rw [e] at e'; rw [ev] at ev'; cases e'; cases ev'
      exact b3 F'
    · exact ⟨[], fun a z => absurd z (by simp), List.nodup_nil, fun _ => rfl, fun d e' => absurd ⟨d, e'⟩ e⟩
  obtain ⟨B, hB⟩ := Classical.axiomOfChoice ex
  refine ⟨fun a => if ∃ i, a ∈ A i ∧ a ∉ B i then H a else F a, B, ⟨fun a o e => ?_, r.len, fun i d e => ?_, fun i e => (hB i).2.2.1 e, fun i => (hB i).2.1, fun i j hij a ha hb => r.dis i j hij a ((hB i).1 a ha) ((hB j).1 a hb)⟩, ⟨fun a o e _ => e, fun a o e => ?_, fun a e => ?_, fun a ⟨i, ha⟩ => .inl ⟨i, (hB i).1 a ha⟩⟩⟩
  · have e : (if ∃ i, a ∈ A i ∧ a ∉ B i then H a else F a) = some o := e
    split at e
    · exact e
    · exact r.sub a o e
  · obtain ⟨v, ev, o⟩ := r.val i d e
    refine ⟨v, ev, (hB i).2.2.2 d e v ev o _ (fun a o' e' => ?_) (fun b hb nb => if_pos ⟨i, hb, nb⟩) fun b hb => ?_⟩
    · show (if ∃ i, a ∈ A i ∧ a ∉ B i then H a else F a) = some o'
      split
      · exact r.sub a o' e'
      · exact e'
    · show (if ∃ i, b ∈ A i ∧ b ∉ B i then H b else F b) = none
      rw [if_neg]
      · exact (r.dom ⟨i, (hB i).1 b hb⟩).2
      · rintro ⟨j, hj, nj⟩
        by_cases hij : j = i
        · exact nj (hij ▸ hb)
        · exact r.dis j i hij b hj ((hB i).1 b hb)
  · show (if ∃ i, a ∈ A i ∧ a ∉ B i then H a else F a) = some o
    split
    · exact r.sub a o e
    · exact e
  · have e : (if ∃ i, a ∈ A i ∧ a ∉ B i then H a else F a) ≠ none := e
    split at e
    · rename_i z; obtain ⟨i, hi, _⟩ := z; exact .inr (.inl ⟨i, hi⟩)
    · exact .inl e
end

/-! ### what an evaluation says -/
/-- an exception's class and fields, as it lies behind -/
structure XP (X : Tx) (H F : Hp) (P : Addr → Prop) (k : Nat) (fs : List D) (cls : Value) (dx : Option Addr) (H' : Hp) : Prop where
  ex : ∃ (F' : Hp) (C d : Addr) (v : V) (x : D), X.ca k = some C ∧ cls = .ref C ∧ dx = some d ∧ fs = [x] ∧ F' d = some (.xd [("value", v)]) ∧ RD X F' v x ∧ Sub F' H' ∧ Sub F F' ∧
    (∀ a, F' a ≠ none → F a ≠ none ∨ P a ∨ H a = none) ∧ (∀ a o, H a = some o → ¬ P a → H' a = some o) ∧ (∀ a, H' a = none → P a ∨ H a = none)
end Pz
end
section
set_option Elab.async false
set_option linter.all false
/-! The judgement of an expression: what its evaluation over data says of the machine. -/
namespace Pz
open PySem PySem.Spec PyProof.Rows L2

/-- fixed for the law: the text, the exceptions' classes -/
structure Cf where
  X : Tx

/-- m ends well (then ok), or raises (then the wish is met) -/
def Run (c : Cf) (W : WX) (σ : Sl) (H F : Hp) (P : Addr → Prop) {β : Type} (m : R β) (ok : β → Prop) : Prop :=
  match m with
  | .ok b => ok b
  | .error (.exc k fs) => ∀ cls dx H', XP c.X H F P k fs cls dx H' → W cls dx σ H'
  | .error .stuck => False
section
variable {c : Cf} {W : WX} {σ : Sl} {H F H' F' : Hp} {P P' Q' : Addr → Prop} {β γ : Type}
theorem Run.bind {m : R β} {k : β → R γ} {ok : γ → Prop} (h : Run c W σ H F P (m.bind k) ok) : Run c W σ H F P m fun b => Run c W σ H F P (k b) ok := by
  cases m with
  | ok b => exact h
  | error e => cases e <;> exact h
theorem Run.imp {m : R β} {ok ok' : β → Prop} (h : Run c W σ H F P m ok) (i : ∀ b, m = .ok b → ok b → ok' b) : Run c W σ H F P m ok' := by
  cases m with
  | ok b => exact i b rfl h
  | error e => cases e <;> exact h
theorem XP.back {X : Tx} {k : Nat} {fs : List D} {cls : Value} {dx : Option Addr} {H2 : Hp} (n : Nxt H F P H' F' P') (s : ∀ a, Q' a → P' a) (x : XP X H' F' Q' k fs cls dx H2) : XP X H F P k fs cls dx H2 := by
  obtain ⟨G, C, d, v, y, e1, e2, e3, e4, e5, e6, e7, e8, e9, e10, e11⟩ := x.ex
  refine ⟨G, C, d, v, y, e1, e2, e3, e4, e5, e6, e7, n.fro.trans e8, fun a h => ?_, fun a o h p => e10 a o (n.keep a o h p) fun q => ?_, fun a h => ?_⟩
  · rcases e9 a h with z | z | z
    · exact n.new a z
    · exact .inr (n.own a (s a z))
    · exact .inr (n.free z)
  · rcases n.own a (s a q) with z | z
    · exact p z
    · rw [h] at z; cases z
  · rcases e11 a h with z | z
    · exact n.own a (s a z)
    · exact n.free z
/-- .. seen from a later state -/
theorem Run.at {m : R β} {ok : β → Prop} (h : Run c W σ H F P m ok) (n : Nxt H F P H' F' P') (s : ∀ a, Q' a → P' a) : Run c W σ H' F' Q' m ok := by
  cases m with
  | ok b => exact h
  | error e =>
    cases e with
    | stuck => exact h
    | exc k fs => exact fun cls dx H2 x => h cls dx H2 (x.back n s)
end

/-- an expression's kind: what it hands on is its own (or borrowed), it changes nothing, how deep it is owned -/
structure Kd where
  own : Bool
  pu : Bool
  lv : Nat
  deriving DecidableEq

/-- a state behind some evaluations: q what is owned beside the slots, p nothing of the slots was changed -/
structure Mid (c : Cf) (Γ : List Nat) (σ : Sl) (ρ : Env) (H F : Hp) (A : Nat → List Addr) (ρ' : Env) (H' F' : Hp) (A' : Nat → List Addr) (q : Addr → Prop) (p : Bool) : Prop where
  rep : Rep c.X Γ ρ' σ H' F' A'
  nx : Nxt H F (Own A) H' F' fun a => Own A' a ∨ q a
  pu : p = true → ρ' = ρ ∧ A' = A ∧ Nxt H F (fun _ => False) H' F' (fun _ => False)
/-- .. and a value v, that reads d -/
structure Out (c : Cf) (Γ : List Nat) (k : Kd) (σ : Sl) (ρ : Env) (H F : Hp) (A : Nat → List Addr) (ρ' : Env) (H' F' : Hp) (A' : Nat → List Addr) (v : V) (d : D) (B : List Addr) : Prop where
  mid : Mid c Γ σ ρ H F A ρ' H' F' A' (fun a => k.own = true ∧ a ∈ B) k.pu
  ot : OT c.X H' F' k.lv v d B
  nd : k.own = true → B.Nodup
  dj : k.own = true → ∀ a ∈ B, ¬ Own A' a

def tX (c : Cf) (W : WX) (Γ : List Nat) (k : Kd) (f : Env → R (D × Env)) : TE := fun σ H Q =>
  ∃ F A ρ, Rep c.X Γ ρ σ H F A ∧ Run c W σ H F (Own A) (f ρ) fun p => ∀ v H' F' A' B, Out c Γ k σ ρ H F A p.2 H' F' A' v p.1 B → Q v H'
abbrev SX (c : Cf) (W : WX) (Γ : List Nat) (k : Kd) (Y : Cx) (e : Expr) (f : Env → R (D × Env)) : Prop := PE Y e (tX c W Γ k f)

theorem PE.imp {Y : Cx} {e : Expr} {t u : TE} (h : PE Y e t) (i : ∀ σ H Q, u σ H Q → t σ H Q) : PE Y e u := ⟨fun pins s σ H Q I z => h.run pins s σ H Q I (i σ H Q z)⟩

section
variable {X : Tx} {H F : Hp} {n : Nat} {v : V} {A : List Addr}
theorem RD.non_eq (h : RD X F v .non) : v = .non := by cases h; rfl
theorem RD.bl_eq {b : Bool} (h : RD X F v (.bl b)) : v = .bl b := by cases h; rfl
theorem RD.int_eq {i : Int} (h : RD X F v (.int i)) : v = .int i := by cases h; rfl
theorem RD.str_eq {s : List Nat} (h : RD X F v (.str s)) : v = sV s := by cases h; rfl
theorem RD.lst_eq {l : List D} (h : RD X F v (.lst l)) : ∃ (a : Addr) (ps : List (V × D)), v = .ref a ∧ l = ps.map (·.2) ∧ SqL X.K F a (ps.map (·.1)) ∧ ∀ p ∈ ps, RD X F p.1 p.2 := by
  cases h with | lst ps e s r => exact ⟨_, ps, rfl, e, s, r⟩
theorem RD.tup_eq {l : List D} (h : RD X F v (.tup l)) : ∃ (a : Addr) (ps : List (V × D)), v = .ref a ∧ l = ps.map (·.2) ∧ SqT X.K F a (ps.map (·.1)) ∧ ∀ p ∈ ps, RD X F p.1 p.2 := by
  cases h with | tup ps e s r => exact ⟨_, ps, rfl, e, s, r⟩
theorem OT.rd_of_atom {d : D} (h : OT X H F n v d A) (a : isAtom d = true) : RD X F v d := by
  cases n with
  | zero => exact h.2
  | succ n => cases d <;> first | exact h.2 | exact absurd a (by simp [isAtom])
theorem OT.non_eq (h : OT X H F n v .non A) : v = .non := (h.rd_of_atom rfl).non_eq
theorem OT.bl_eq {b : Bool} (h : OT X H F n v (.bl b) A) : v = .bl b := (h.rd_of_atom rfl).bl_eq
theorem OT.int_eq {i : Int} (h : OT X H F n v (.int i) A) : v = .int i := (h.rd_of_atom rfl).int_eq
theorem OT.str_eq {s : List Nat} (h : OT X H F n v (.str s) A) : v = sV s := (h.rd_of_atom rfl).str_eq
/-- a list whose items are frozen -/
theorem OT.lst1 {l : List D} (h : OT X H F n v (.lst l) A) (hn : n ≤ 1) (s : Sub F H) : ∃ (a : Addr) (ps : List (V × D)), v = .ref a ∧ l = ps.map (·.2) ∧ SqL X.K H a (ps.map (·.1)) ∧ ∀ p ∈ ps, RD X F p.1 p.2 := by
  match n, h, hn with
  | 0, h, _ =>
    obtain ⟨a, ps, e1, e2, e3, e4⟩ := h.2.lst_eq
    exact ⟨a, ps, e1, e2, s.sqL e3, e4⟩
  | 1, h, _ =>
    obtain ⟨a, qs, e1, e2, e3, _, _, e4⟩ := h
    refine ⟨a, qs.map fun q => (q.1, q.2.1), e1, by rw [e2, (map_fst_snd qs).2], by rw [(map_fst_snd qs).1]; exact .of e3, fun p hp => ?_⟩
    obtain ⟨q, hq, rfl⟩ := List.mem_map.mp hp
    exact (e4 q hq).2
theorem OT.tup1 {l : List D} (h : OT X H F n v (.tup l) A) (hn : n ≤ 1) (s : Sub F H) : ∃ (a : Addr) (ps : List (V × D)), v = .ref a ∧ l = ps.map (·.2) ∧ SqT X.K H a (ps.map (·.1)) ∧ ∀ p ∈ ps, RD X F p.1 p.2 := by
  match n, h, hn with
  | 0, h, _ =>
    obtain ⟨a, ps, e1, e2, e3, e4⟩ := h.2.tup_eq
    exact ⟨a, ps, e1, e2, s.sqT e3, e4⟩
  | 1, h, _ =>
    obtain ⟨a, qs, e1, e2, e3, _, _, e4⟩ := h
    refine ⟨a, qs.map fun q => (q.1, q.2.1), e1, by rw [e2, (map_fst_snd qs).2], by rw [(map_fst_snd qs).1]; exact .of e3, fun p hp => ?_⟩
    obtain ⟨q, hq, rfl⟩ := List.mem_map.mp hp
    exact (e4 q hq).2
end
/-- the heap and what is frozen, with what is owned at B frozen too -/
def frz (H F : Hp) (B : List Addr) : Hp := fun a => if a ∈ B then H a else F a
theorem frz_sub {H F : Hp} {B : List Addr} (s : Sub F H) : Sub F (frz H F B) ∧ Sub (frz H F B) H := by
  refine ⟨fun a o e => ?_, fun a o e => ?_⟩
  · unfold frz; split
    · exact s a o e
    · exact e
  · unfold frz at e; split at e
    · exact e
    · exact s a o e
theorem frz_at {H F : Hp} {B : List Addr} {a : Addr} (h : a ∈ B) : frz H F B a = H a := if_pos h
theorem frz_ne {H F : Hp} {B : List Addr} {a : Addr} (h : frz H F B a ≠ none) : F a ≠ none ∨ a ∈ B := by
  unfold frz at h; split at h
  · rename_i m; exact .inr m
  · exact .inl h
theorem upd_sub {H : Hp} {p : Addr} {o : HO} (h : H p = none) : Sub H (upd H p o) := fun a u e => by rw [upd_ne (ne_of_none e h)]; exact e

section
variable {c : Cf} {W : WX} {Γ : List Nat} {k k' ka kb : Kd} {σ : Sl} {ρ ρ' ρ1 ρ2 : Env} {H F H' F' H1 F1 H2 F2 : Hp} {A A' A1 A2 : Nat → List Addr} {v x y : V} {d d1 d2 : D} {B B1 B2 : List Addr} {q q1 q2 : Addr → Prop} {p p1 p2 : Bool}
theorem Mid.refl (r : Rep c.X Γ ρ σ H F A) : Mid c Γ σ ρ H F A ρ H F A (fun _ => False) p := ⟨r, Nxt.refl.weak (fun _ h => h) fun _ h => h.elim .inl False.elim, fun _ => ⟨rfl, rfl, Nxt.refl⟩⟩
/-- what was owned beside the slots is dropped -/
theorem Mid.weak (m : Mid c Γ σ ρ H F A ρ' H' F' A' q p) (h : ∀ a, q1 a → q a) (hp : p1 = true → p = true) : Mid c Γ σ ρ H F A ρ' H' F' A' q1 p1 :=
  ⟨m.rep, m.nx.weak (fun _ z => z) fun a z => .inl (z.elim .inl fun w => .inr (h a w)), fun z => m.pu (hp z)⟩
theorem Mid.nx0 (m : Mid c Γ σ ρ H F A ρ' H' F' A' q p) : Nxt H F (Own A) H' F' (Own A') := m.nx.weak (fun _ h => h) fun a h => .inl (.inl h)
theorem Mid.trans (m : Mid c Γ σ ρ H F A ρ1 H1 F1 A1 q1 p1) (n : Mid c Γ σ ρ1 H1 F1 A1 ρ2 H2 F2 A2 q2 p2) : Mid c Γ σ ρ H F A ρ2 H2 F2 A2 (fun a => q1 a ∨ q2 a) (p1 && p2) := by
  refine ⟨n.rep, (m.nx.trans (n.nx.beside (B := q1))).weak (fun _ h => h) fun z h => .inl ?_, fun h => ?_⟩
  · rcases h with h | h | h
    · exact .inl (.inl h)
    · exact .inr h
    · exact .inl (.inr h)
  · obtain ⟨h1, h2⟩ : p1 = true ∧ p2 = true := by simpa using h
    obtain ⟨e1, e2, e3⟩ := m.pu h1
    obtain ⟨f1, f2, f3⟩ := n.pu h2
    exact ⟨f1.trans e1, f2.trans e2, e3.trans f3⟩
/-- the heap grows; some of what is new or owned beside the slots is frozen -/
theorem Mid.grow (m : Mid c Γ σ ρ H F A ρ' H' F' A' q p) {H2 F2 : Hp} (s : Sub H' H2) (f : Sub F' F2) (s2 : Sub F2 H2) (new : ∀ a, F2 a ≠ none → F' a ≠ none ∨ (q a ∧ ¬ Own A' a ∧ (p = true → H a = none)) ∨ H' a = none) {q2 : Addr → Prop} (hq : ∀ a, q2 a → q a ∨ H' a = none) :
    Mid c Γ σ ρ H F A ρ' H2 F2 A' q2 p := by
  have n : Nxt H' F' (fun a => q a ∧ ¬ Own A' a) H2 F2 (fun _ => False) := ⟨fun a o e _ => s a o e, f, fun a e => (new a e).elim .inl fun z => .inr (z.elim (fun w => .inl ⟨w.1, w.2.1⟩) .inr), fun _ z => z.elim⟩
  have n2 : Nxt H' F' (fun a => Own A' a ∨ q a) H2 F2 (fun a => Own A' a ∨ q2 a) := ⟨fun a o e _ => s a o e, f, fun a e => (new a e).elim .inl fun z => .inr (z.elim (fun w => .inl (.inr w.1)) .inr), fun a z => z.elim (fun w => .inl (.inl w)) fun w => (hq a w).elim (fun w => .inl (.inr w)) .inr⟩
  refine ⟨m.rep.step n s2 fun a o z => z.2 o, m.nx.trans n2, fun h => ?_⟩
  obtain ⟨e1, e2, e3⟩ := m.pu h
  refine ⟨e1, e2, ⟨fun a o e z => s a o (e3.keep a o e z), e3.fro.trans f, fun a e => ?_, fun _ z => z.elim⟩⟩
  rcases new a e with z | z | z
  · exact e3.new a z
  · exact .inr (.inr (z.2.2 h))
  · exact .inr (e3.free z)
/-- behind a value: its own state -/
theorem Out.rep (o : Out c Γ k σ ρ H F A ρ' H' F' A' v d B) : Rep c.X Γ ρ' σ H' F' A' := o.mid.rep
theorem Out.nx0 (o : Out c Γ k σ ρ H F A ρ' H' F' A' v d B) : Nxt H F (Own A) H' F' (Own A') := o.mid.nx0
/-- a frozen value, an atom -/
theorem Mid.val (m : Mid c Γ σ ρ H F A ρ' H' F' A' q p) (r : RD c.X F' v d) (hp : k.pu = true → p = true) (hk : k.lv = 0 ∨ isAtom d = true) : Out c Γ k σ ρ H F A ρ' H' F' A' v d [] :=
  ⟨m.weak (fun _ z => absurd z.2 (by simp)) hp, hk.elim (fun e => by rw [e]; exact ⟨rfl, r⟩) fun a => .atom r a, fun _ => List.nodup_nil, fun _ _ z => absurd z (by simp)⟩
/-- a new list or tuple whose items are frozen -/
theorem Mid.newL (m : Mid c Γ σ ρ H F A ρ' H' F' A' q p) {a : Addr} {ps : List (V × D)} (ha : H' a = none) (hr : ∀ x ∈ ps, RD c.X F' x.1 x.2) (hp : k.pu = true → p = true) (hk : k.lv = 1) :
    Out c Γ k σ ρ H F A ρ' (upd H' a (.lst (ps.map (·.1)))) F' A' (.ref a) (.lst (ps.map (·.2))) [a] := by
  have sb := upd_sub (o := .lst (ps.map (·.1))) ha
  refine ⟨(m.grow sb (Sub.refl _) (m.rep.sub.trans sb) (fun _ e => .inl e) (q2 := fun b => k.own = true ∧ b ∈ [a]) fun b z => .inr (by rw [List.mem_singleton.mp z.2]; exact ha)).weak (fun _ h => h) hp, ?_, fun _ => by simp, fun _ b hb z => ?_⟩
  · rw [hk]
    refine ⟨a, ps.map fun x => (x.1, x.2, []), rfl, by rw [List.map_map]; rfl, by rw [upd_same, List.map_map]; rfl, ?_, ?_, fun x hx => ?_⟩
    · cases e : F' a with
      | none => rfl
      | some o => rw [m.rep.sub a o e] at ha; cases ha
    · rw [List.map_map]
      have : (List.map ((fun x : V × D × List Addr => x.2.2) ∘ fun x : V × D => (x.1, x.2, [])) ps).flatten = [] := by
        simp [List.flatten_eq_nil_iff]
      rw [this]
    · obtain ⟨y, hy, rfl⟩ := List.mem_map.mp hx
      exact ⟨rfl, hr y hy⟩
  · rw [List.mem_singleton.mp hb] at z
    exact (m.rep.dom z).1 ha
/-- .. frozen at once -/
theorem Mid.newT (m : Mid c Γ σ ρ H F A ρ' H' F' A' q p) {a : Addr} {ps : List (V × D)} (ha : H' a = none) (hr : ∀ x ∈ ps, RD c.X F' x.1 x.2) (hp : k.pu = true → p = true) (hk : k.lv = 0) :
    Out c Γ k σ ρ H F A ρ' (upd H' a (.tup (ps.map (·.1)))) (upd F' a (.tup (ps.map (·.1)))) A' (.ref a) (.tup (ps.map (·.2))) [] := by
  have sb := upd_sub (o := .tup (ps.map (·.1))) ha
  have hf : F' a = none := by
    cases e : F' a with
    | none => rfl
    | some o => rw [m.rep.sub a o e] at ha; cases ha
  have sf := upd_sub (o := .tup (ps.map (·.1))) hf
  have ss : Sub (upd F' a (.tup (ps.map (·.1)))) (upd H' a (.tup (ps.map (·.1)))) := fun b o e => by
    by_cases hb : b = a
    · rw [hb, upd_same] at e ⊢; exact e
    · rw [upd_ne hb] at e ⊢; exact m.rep.sub b o e
  have g := m.grow sb sf ss (fun b e => by
    by_cases hb : b = a
    · rw [hb]; exact .inr (.inr ha)
    · rw [upd_ne hb] at e; exact .inl e) (q2 := fun _ => False) fun _ z => z.elim
  exact g.val (.tup ps rfl (.of upd_same) fun x hx => (hr x hx).mono sf) hp (.inl hk)
/-- what an own value owns is frozen -/
theorem Out.low (o : Out c Γ k σ ρ H F A ρ' H' F' A' v d B) (ho : k.own = true) (hk : k'.lv ≤ k.lv) (hp : k'.pu = true → k.pu = true) : ∃ F2 B2, Out c Γ k' σ ρ H F A ρ' H' F2 A' v d B2 := by
  obtain ⟨B2, b1, b2, b3⟩ := o.ot.lower (o.nd ho) hk
  refine ⟨frz H' F' (B.filter fun a => decide (a ∉ B2)), B2, (o.mid.grow (Sub.refl _) (frz_sub o.rep.sub).1 (frz_sub o.rep.sub).2 (fun a e => ?_) (q2 := fun a => k.own = true ∧ a ∈ B2) fun a z => .inl ⟨ho, b1 a z.2⟩).weak (fun _ z => ⟨ho, z.2⟩) hp, b3 _ (frz_sub o.rep.sub).1 (fun b hb nb => frz_at (List.mem_filter.mpr ⟨hb, by simp [nb]⟩)) (fun b hb => ?_), fun _ => b2, fun _ a ha => o.dj ho a (b1 a ha)⟩
  · rcases frz_ne e with z | z
    · exact .inl z
    · have hb := (List.mem_filter.mp z).1
      refine .inr (.inl ⟨⟨ho, hb⟩, o.dj ho a hb, fun hpu => ?_⟩)
      obtain ⟨_, e2, e3⟩ := o.mid.pu hpu
      rcases o.mid.nx.own a (.inr ⟨ho, hb⟩) with w | w
      · exact absurd (by rw [e2]; exact w) (o.dj ho a hb)
      · exact w
  · unfold frz
    rw [if_neg fun z => by have := (List.mem_filter.mp z).2; simp at this; exact this hb]
    exact (o.ot.dom b (b1 b hb)).2
end
end Pz
end
section
set_option Elab.async false
set_option linter.all false
/-! Rules of expressions: names, constants, operators. -/
namespace Pz
open PySem PySem.Spec PyProof.Rows L2

section
variable {c : Cf} {W : WX} {Γ : List Nat} {k k' ka kb : Kd} {σ : Sl} {ρ ρ' ρ1 ρ2 : Env} {H F H' F' H1 F1 H2 F2 : Hp} {A A' A1 A2 : Nat → List Addr} {v x y : V} {d d1 d2 : D} {B B1 B2 : List Addr} {q q1 q2 : Addr → Prop} {p p1 p2 : Bool}

structure Two (c : Cf) (Γ : List Nat) (ka kb : Kd) (σ : Sl) (ρ : Env) (H F : Hp) (A : Nat → List Addr) (ρ2 : Env) (H2 F2 : Hp) (A2 : Nat → List Addr) (x y : V) (d1 d2 : D) (B1 B2 : List Addr) : Prop where
  mid : Mid c Γ σ ρ H F A ρ2 H2 F2 A2 (fun a => (ka.own = true ∧ a ∈ B1) ∨ (kb.own = true ∧ a ∈ B2)) (ka.pu && kb.pu)
  o1 : OT c.X H2 F2 ka.lv x d1 B1
  o2 : OT c.X H2 F2 kb.lv y d2 B2
/-- an own value stays over a further evaluation; a borrowed one if that changes nothing -/
theorem Out.later (a : Out c Γ ka σ ρ H F A ρ1 H1 F1 A1 x d1 B1) (m : Mid c Γ σ ρ1 H1 F1 A1 ρ2 H2 F2 A2 q p) (hc : ka.own = true ∨ p = true) : OT c.X H2 F2 ka.lv x d1 B1 := by
  by_cases ho : ka.own = true
  · exact a.ot.step m.nx0 (a.dj ho)
  · obtain ⟨e1, e2, e3⟩ := m.pu (hc.resolve_left ho)
    exact a.ot.step e3 fun _ _ z => z
theorem Out.two (a : Out c Γ ka σ ρ H F A ρ1 H1 F1 A1 x d1 B1) (b : Out c Γ kb σ ρ1 H1 F1 A1 ρ2 H2 F2 A2 y d2 B2) (hc : ka.own = true ∨ kb.pu = true) : Two c Γ ka kb σ ρ H F A ρ2 H2 F2 A2 x y d1 d2 B1 B2 :=
  ⟨a.mid.trans b.mid, a.later b.mid hc, b.ot⟩
/-- one operand -/
theorem tX.one {fa : Env → R (D × Env)} {β : Type} {g : D → Env → R β} {ok : β → Prop} {Rr : V → Hp → Prop} (r : Rep c.X Γ ρ σ H F A)
    (h : Run c W σ H F (Own A) ((fa ρ).bind fun p => g p.1 p.2) ok)
    (k : ∀ x H1 F1 A1 d ρ1 B, Out c Γ ka σ ρ H F A ρ1 H1 F1 A1 x d B → Run c W σ H1 F1 (Own A1) (g d ρ1) ok → Rr x H1) : tX c W Γ ka fa σ H Rr :=
  ⟨F, A, ρ, r, h.bind.imp fun p _ hp v H' F' A' B o => k v H' F' A' p.1 p.2 B o (hp.at o.nx0 fun _ z => z)⟩
/-- two operands -/
theorem tX.two {fa fb : Env → R (D × Env)} {β : Type} {g : D → D → Env → R β} {ok : β → Prop} {Rr : V → V → Hp → Prop} (hc : ka.own = true ∨ kb.pu = true) (r : Rep c.X Γ ρ σ H F A)
    (h : Run c W σ H F (Own A) ((fa ρ).bind fun p => (fb p.2).bind fun q => g p.1 q.1 q.2) ok)
    (k : ∀ x y H2 F2 A2 d1 d2 ρ2 B1 B2, Two c Γ ka kb σ ρ H F A ρ2 H2 F2 A2 x y d1 d2 B1 B2 → Run c W σ H2 F2 (Own A2) (g d1 d2 ρ2) ok → Rr x y H2) :
    tX c W Γ ka fa σ H fun x H1 => tX c W Γ kb fb σ H1 fun y H2 => Rr x y H2 :=
  tX.one (g := fun d ρ1 => (fb ρ1).bind fun q => g d q.1 q.2) r h fun x H1 F1 A1 d1 ρ1 B1 o1 h1 =>
    tX.one (g := fun d2 ρ2 => g d1 d2 ρ2) o1.rep h1 fun y H2 F2 A2 d2 ρ2 B2 o2 h2 => k x y H2 F2 A2 d1 d2 ρ2 B1 B2 (o1.two o2 hc) h2
/-- what is known of a value whose reading ends -/
abbrev Ends' (c : Cf) (Γ : List Nat) (k : Kd) (σ : Sl) (ρ : Env) (H F : Hp) (A : Nat → List Addr) (Q : VK) : D × Env → Prop :=
  fun p => ∀ v H' F' A' B, Out c Γ k σ ρ H F A p.2 H' F' A' v p.1 B → Q v H'
theorem Run.ok_of {β : Type} {m : R β} {ok : β → Prop} {P : Addr → Prop} {b : β} (h : Run c W σ H F P m ok) (e : m = .ok b) : ok b := by rw [e] at h; exact h
theorem Run.not_bad {β : Type} {m : R β} {ok : β → Prop} {P : Addr → Prop} (h : Run c W σ H F P m ok) (e : m = bad) : False := by rw [e] at h; exact h
end

section
variable {c : Cf} {W : WX} {σ : Sl} {H F : Hp} {P : Addr → Prop} {α β : Type}
/-- a part that may fail alone -/
theorem Run.opt {m : Option α} {k : α → R β} {ok : β → Prop} (h : Run c W σ H F P ((optR m).bind k) ok) : ∃ a, m = some a ∧ Run c W σ H F P (k a) ok := by
  cases m with
  | none => exact False.elim h
  | some a => exact ⟨a, rfl, h⟩
end

section
variable {c : Cf} {W : WX} {Γ : List Nat} {Y : Cx} {e a b : Expr} {pos : Pos} {k ka kb : Kd} {fa fb : Env → R (D × Env)}

/-- an atom's kind -/
abbrev kA (pu : Bool) : Kd := ⟨true, pu, 9⟩

theorem sx_var {i : Nat} {x : Str} (hN : Y.N[i]? = some x) (hv : Vis Y.env.scope x) (hd : (x == ("__debug__" : Str)) = false) (hcd : (x == ("__classdict__" : Str)) = false) :
    SX c W Γ ⟨Γ.getD i 0 == 0, true, Γ.getD i 0⟩ Y (.Name x pos) (fun ρ => (optR (gt ρ i)).bind fun d => .ok (d, ρ)) :=
  PE.imp (pe_var (i := i) hN hv hd hcd) fun σ H Q ⟨F, A, ρ, r, h⟩ => by
    obtain ⟨d, e, h⟩ := Run.opt h
    obtain ⟨v, ev, o⟩ := r.val i d (gt_ok e)
    have own0 : (Γ.getD i 0 == 0) = true → A i = [] := fun z => by
      have z' : Γ.getD i 0 = 0 := by simpa using z
      rw [z'] at o; exact o.1
    refine ⟨v, ev, h v H F A (A i) ⟨⟨r, Nxt.refl.weak (fun _ z => z) fun z hz => ?_, fun _ => ⟨rfl, rfl, Nxt.refl⟩⟩, o, fun _ => r.nd i, fun ho z hz => ?_⟩⟩
    · rcases hz with w | w
      · exact .inl w
      · have := own0 w.1; rw [this] at w; exact absurd w.2 (by simp)
    · rw [own0 ho] at hz; exact absurd hz (by simp)

theorem sx_const {d : D} {v : V} (h : PE Y e (tC v)) (r : ∀ F, RD c.X F v d) (ha : isAtom d = true) : SX c W Γ (kA true) Y e (fun ρ => .ok (d, ρ)) :=
  PE.imp h fun σ H Q ⟨F, A, ρ, rp, hq⟩ => hq v H F A [] ((Mid.refl rp).val (r F) (fun z => z) (.inr ha))
theorem sx_int {i : Int} {j} : SX c W Γ (kA true) Y (.Constant (.int i) j pos) (fun ρ => .ok (.int i, ρ)) := sx_const pe_int (fun _ => .int i) rfl
theorem sx_bl {i : Bool} {j} : SX c W Γ (kA true) Y (.Constant (.bool i) j pos) (fun ρ => .ok (.bl i, ρ)) := sx_const pe_bl (fun _ => .bl i) rfl
theorem sx_non {j} : SX c W Γ (kA true) Y (.Constant .none j pos) (fun ρ => .ok (.non, ρ)) := sx_const pe_non (fun _ => .non) rfl
theorem sx_str {x : Str} {s : List Nat} {j} (h : x = ⟨s.toArray⟩) : SX c W Γ (kA true) Y (.Constant (.str x) j pos) (fun ρ => .ok (.str s, ρ)) := by
  subst h; exact sx_const pe_str (fun _ => .str s) rfl

/-- the value is an atom -/
theorem sx_atm (h : SX c W Γ ka Y e fa) : SX c W Γ (kA ka.pu) Y e (fun ρ => (fa ρ).bind fun p => (optR (atomD p.1)).bind fun d => .ok (d, p.2)) :=
  PE.imp h fun σ H Q ⟨F, A, ρ, r, h⟩ => tX.one (g := fun d ρ1 => (optR (atomD d)).bind fun d => .ok (d, ρ1)) r h fun x H1 F1 A1 d ρ1 B o h1 => by
    obtain ⟨d', e, h1⟩ := Run.opt h1
    unfold atomD at e
    split at e
    · rename_i ha
      cases e
      exact h1 x H1 F1 A1 [] (o.mid.val (o.ot.rd_of_atom ha) (fun z => z) (.inr ha))
    · cases e
/-- less is owned -/
theorem sx_low (h : SX c W Γ k Y e fa) (ho : k.own = true) {n : Nat} (hn : n ≤ k.lv) : SX c W Γ ⟨true, k.pu, n⟩ Y e fa :=
  PE.imp h fun σ H Q ⟨F, A, ρ, r, h⟩ => ⟨F, A, ρ, r, h.imp fun p _ hp v H' F' A' B o => by
    obtain ⟨F2, B2, o2⟩ := o.low (k' := ⟨true, k.pu, n⟩) ho hn fun z => z
    exact hp v H' F2 A' B2 o2⟩

/-- a binary operator whose result is an atom -/
theorem sx_bin_atom {op : Operator} {r : R2} {g : D → D → Option D} (ho : OpR Y (binaryOp op) r) (ha : SX c W Γ ka Y a fa) (hb : SX c W Γ kb Y b fb) (hc : ka.own = true ∨ kb.pu = true)
    (hr : ∀ (X : Tx) (H F : Hp) (x y : V) (d1 d2 d : D) (n m : Nat) (A B : List Addr), Sub F H → OT X H F n x d1 A → OT X H F m y d2 B → g d1 d2 = some d → ∃ v, RD X F v d ∧ isAtom d = true ∧ ∀ Q : VK, Q v H → r x y H Q) :
    SX c W Γ (kA (ka.pu && kb.pu)) Y (.BinOp a op b pos) (fun ρ => (fa ρ).bind fun p => (fb p.2).bind fun q => (optR (g p.1 q.1)).bind fun d => .ok (d, q.2)) :=
  PE.imp (pe_op ho ha hb) fun σ H Q ⟨F, A, ρ, rp, h⟩ => tX.two (g := fun d1 d2 ρ2 => (optR (g d1 d2)).bind fun d => .ok (d, ρ2)) hc rp h fun x y H2 F2 A2 d1 d2 ρ2 B1 B2 t h2 => by
    obtain ⟨d, e, h2⟩ := Run.opt h2
    obtain ⟨v, rv, av, hq⟩ := hr c.X H2 F2 x y d1 d2 d _ _ _ _ t.mid.rep.sub t.o1 t.o2 e
    exact hq _ (h2 v H2 F2 A2 [] (t.mid.val rv (fun z => z) (.inr av)))

theorem two2_inv {d1 d2 : D} {p : Int × Int} (e : two2 d1 d2 = some p) : d1 = .int p.1 ∧ d2 = .int p.2 := by
  cases d1 <;> first | cases e | skip
  cases d2 <;> cases e
  exact ⟨rfl, rfl⟩
theorem op_pow' {X : Cx} : OpR X (binaryOp .Pow) (rI (fun i j => 0 ≤ j ∧ (Builtin.Int.intBits i : Int) * j ≤ 2 ^ 27) fun i j => .int (i ^ j.toNat)) := opI fun _ _ _ _ _ _ _ hc q => pow_int hc.1 hc.2 q
theorem intBits_le (x : Int) : Builtin.Int.intBits x ≤ x.natAbs.log2 + 1 := by
  unfold Builtin.Int.intBits
  split <;> omega

theorem sx_sub (ha : SX c W Γ ka Y a fa) (hb : SX c W Γ kb Y b fb) (hc : ka.own = true ∨ kb.pu = true) :
    SX c W Γ (kA (ka.pu && kb.pu)) Y (.BinOp a .Sub b pos) (fun ρ => (fa ρ).bind fun p => (fb p.2).bind fun q => (optR (binD .sub p.1 q.1)).bind fun d => .ok (d, q.2)) :=
  sx_bin_atom op_sub ha hb hc fun X H F x y d1 d2 d n m A B _ o1 o2 e => by
    obtain ⟨p, ep, e'⟩ := Option.map_eq_some_iff.mp e
    obtain ⟨rfl, rfl⟩ := two2_inv ep
    subst e'
    exact ⟨_, .int _, rfl, fun Q q => ⟨p.1, p.2, o1.int_eq, o2.int_eq, q⟩⟩
theorem sx_mod (ha : SX c W Γ ka Y a fa) (hb : SX c W Γ kb Y b fb) (hc : ka.own = true ∨ kb.pu = true) :
    SX c W Γ (kA (ka.pu && kb.pu)) Y (.BinOp a .Mod b pos) (fun ρ => (fa ρ).bind fun p => (fb p.2).bind fun q => (optR (binD .mod p.1 q.1)).bind fun d => .ok (d, q.2)) :=
  sx_bin_atom op_modN ha hb hc fun X H F x y d1 d2 d n m A B _ o1 o2 e => by
    obtain ⟨p, ep, e'⟩ := Option.bind_eq_some_iff.mp e
    obtain ⟨rfl, rfl⟩ := two2_inv ep
    split at e'
    · cases e'; exact ⟨_, .int _, rfl, fun Q q => ⟨p.1, p.2, o1.int_eq, o2.int_eq, by assumption, q⟩⟩
    · cases e'
theorem op_fdivL {X : Cx} : OpR X (binaryOp .FloorDiv) (rI (fun _ j => j ≠ 0 ∧ j.natAbs.log2 < 9000) fun i j => .int (i.fdiv j)) := opI fun i j _ _ _ _ _ hc q => floordiv_int hc.1 q (.inl (PyProof.noPylong_of_log2 hc.2))
theorem sx_fdiv (ha : SX c W Γ ka Y a fa) (hb : SX c W Γ kb Y b fb) (hc : ka.own = true ∨ kb.pu = true) :
    SX c W Γ (kA (ka.pu && kb.pu)) Y (.BinOp a .FloorDiv b pos) (fun ρ => (fa ρ).bind fun p => (fb p.2).bind fun q => (optR (binD .fdiv p.1 q.1)).bind fun d => .ok (d, q.2)) :=
  sx_bin_atom op_fdivL ha hb hc fun X H F x y d1 d2 d n m A B _ o1 o2 e => by
    obtain ⟨p, ep, e'⟩ := Option.bind_eq_some_iff.mp e
    obtain ⟨rfl, rfl⟩ := two2_inv ep
    split at e'
    · rename_i hh
      cases e'; exact ⟨_, .int _, rfl, fun Q q => ⟨p.1, p.2, o1.int_eq, o2.int_eq, ⟨hh.1, by omega⟩, q⟩⟩
    · cases e'
theorem pow_bound {i j : Int} {n : Nat} (h0 : 0 ≤ j) (hn : n ≤ bits i) (h : bits i * j.toNat ≤ 100000) : (n : Int) * j ≤ 2 ^ 27 := by
  have h2 : n * j.toNat ≤ 100000 := Nat.le_trans (Nat.mul_le_mul_right _ hn) h
  have h3 : (j.toNat : Int) = j := Int.toNat_of_nonneg h0
  have h4 : ((n * j.toNat : Nat) : Int) ≤ ((100000 : Nat) : Int) := Int.ofNat_le.mpr h2
  rw [Int.natCast_mul, h3] at h4
  exact Int.le_trans h4 (by decide)
theorem sx_pow (ha : SX c W Γ ka Y a fa) (hb : SX c W Γ kb Y b fb) (hc : ka.own = true ∨ kb.pu = true) :
    SX c W Γ (kA (ka.pu && kb.pu)) Y (.BinOp a .Pow b pos) (fun ρ => (fa ρ).bind fun p => (fb p.2).bind fun q => (optR (binD .pow p.1 q.1)).bind fun d => .ok (d, q.2)) :=
  sx_bin_atom op_pow' ha hb hc fun X H F x y d1 d2 d n m A B _ o1 o2 e => by
    obtain ⟨p, ep, e'⟩ := Option.bind_eq_some_iff.mp e
    obtain ⟨rfl, rfl⟩ := two2_inv ep
    split at e'
    · rename_i hh
      cases e'
      exact ⟨_, .int _, rfl, fun Q q => ⟨p.1, p.2, o1.int_eq, o2.int_eq, ⟨hh.1, pow_bound hh.1 (intBits_le _) hh.2⟩, q⟩⟩
    · cases e'
end
end Pz
end
section
set_option Elab.async false
set_option linter.all false
/-! Rules of expressions: +, * of all kinds. -/
namespace Pz
open PySem PySem.Spec PyProof.Rows L2 HT

/-! ### lists that are read, added -/
section
variable {prog : Program} {w : World} {A : Around} {E : Value → Shared → Prop} {s : Shared}
theorem add_listsP {l b : Addr} {vs ws : List Value} {Q : Value → Shared → Prop} (hl : s.heap.IsList l vs.toArray) (hb : s.heap.IsList b ws.toArray)
    (h : Q (.ref s.heap.objs.size) { s with heap := s.heap.push { cls := .type "list", data := .seq (vs ++ ws).toArray } }) (hsz : vs.length + ws.length ≤ sizeLine) :
    wpAny (model prog w) A (binaryOp .Add (.ref l) (.ref b)) Q E s := by
  obtain ⟨⟨cls, dd, data, sl⟩, ho, hc, n, hd⟩ := id hl
  obtain ⟨⟨cls2, dd2, data2, sl2⟩, ho2, hc2, n2, hd2⟩ := id hb
  simp only at hc hd hc2 hd2
  subst hc hd hc2 hd2
  have e : vs.toArray ++ ws.toArray = (vs ++ ws).toArray := by simp
  refine concat_meets ⟨_, ho, rfl⟩ ⟨_, ho2, rfl⟩ noFill_list_add seq_list_add PySem.F.slot_list_add PySem.F.entry_list_add (PySem.F.args_list_add_2 _ _) (list_addW l b vs.toArray ws.toArray n n2 dd dd2 sl sl2 (by simpa using hsz)) ⟨ho, ho2, ?_⟩
  rw [e]
  exact h
end
def rCatL (K : PySem.W.Frag) : R2 := fun x y H Q => ∃ l b xs zs, x = .ref l ∧ y = .ref b ∧ SqL K H l xs ∧ SqL K H b zs ∧ xs.length + zs.length ≤ sizeLine ∧ ∀ p, H p = none → Q (.ref p) (upd H p (.lst (xs ++ zs)))
theorem op_catL {X : Cx} : OpR X (binaryOp .Add) (rCatL X.K) := by
  intro pins s σ H x y v u Q I rx ry h
  obtain ⟨l, b, xs, zs, rfl, rfl, hH, hB, hz, q⟩ := h
  cases rx
  cases ry
  obtain ⟨its, r, p1, z1⟩ := I.list hH
  obtain ⟨its2, r2, p2, z2⟩ := I.list hB
  refine add_listsP p1.isList p2.isList ?_ (by rw [← r.length, ← r2.length]; exact hz)
  have hf : H s.heap.objs.size = none := I.hok.fresh (Nat.le_refl _)
  exact ⟨.ref s.heap.objs.size, _, I.laid (t' := s.toks) (fun b u e => Heap.get?_push_of_some _ e) (Nat.le_refl _) (show ObjOk X.prog X.w _ _ _ (.lst (xs ++ zs)) from ⟨by rw [List.length_append]; exact hz, its ++ its2, 0, r.append r2, Heap.get?_push_size _ rfl⟩), rfl, q _ hf⟩

section
variable {c : Cf} {W : WX} {Γ : List Nat} {k k' ka kb : Kd} {σ : Sl} {ρ ρ' ρ1 ρ2 : Env} {H F H' F' H1 F1 H2 F2 : Hp} {A A' A1 A2 : Nat → List Addr} {v x y : V} {d d1 d2 : D} {B B1 B2 : List Addr} {q q1 q2 : Addr → Prop} {p p1 p2 : Bool}
/-- a new object, frozen at once -/
theorem Mid.newF (m : Mid c Γ σ ρ H F A ρ' H' F' A' q p) {a : Addr} {o : HO} (ha : H' a = none) (hr : RD c.X (upd F' a o) (.ref a) d) (hp : k.pu = true → p = true) (hk : k.lv = 0) :
    Out c Γ k σ ρ H F A ρ' (upd H' a o) (upd F' a o) A' (.ref a) d [] := by
  have sb := upd_sub (o := o) ha
  have hf : F' a = none := by
    cases e : F' a with
    | none => rfl
    | some o => rw [m.rep.sub a o e] at ha; cases ha
  have sf := upd_sub (o := o) hf
  have ss : Sub (upd F' a o) (upd H' a o) := fun b u e => by
    by_cases hb : b = a
    · rw [hb, upd_same] at e ⊢; exact e
    · rw [upd_ne hb] at e ⊢; exact m.rep.sub b u e
  have g := m.grow sb sf ss (fun b e => by
    by_cases hb : b = a
    · rw [hb]; exact .inr (.inr ha)
    · rw [upd_ne hb] at e; exact .inl e) (q2 := fun _ => False) fun _ z => z.elim
  exact g.val hr hp (.inl hk)
theorem Mid.fresh (m : Mid c Γ σ ρ H F A ρ' H' F' A' q p) {a : Addr} (ha : H' a = none) : F' a = none := by
  cases e : F' a with
  | none => rfl
  | some o => rw [m.rep.sub a o e] at ha; cases ha
theorem Mid.newLF (m : Mid c Γ σ ρ H F A ρ' H' F' A' q p) {a : Addr} {ps : List (V × D)} (ha : H' a = none) (hr : ∀ x ∈ ps, RD c.X F' x.1 x.2) (hp : k.pu = true → p = true) (hk : k.lv = 0) :
    Out c Γ k σ ρ H F A ρ' (upd H' a (.lst (ps.map (·.1)))) (upd F' a (.lst (ps.map (·.1)))) A' (.ref a) (.lst (ps.map (·.2))) [] :=
  m.newF ha (.lst ps rfl (.of upd_same) fun x hx => (hr x hx).mono (upd_sub (m.fresh ha))) hp hk
end

theorem line_lim : lim = sizeLine := by rw [sizeLine_eq]; rfl
theorem sV_append (s t : List Nat) : (⟨s.toArray⟩ : Str) ++ ⟨t.toArray⟩ = ⟨(s ++ t).toArray⟩ := by
  show Str.append _ _ = _
  simp [Str.append]
theorem sV_length (s : List Nat) : (⟨s.toArray⟩ : Str).length = s.length := by simp [Str.length]

section
variable {c : Cf} {W : WX} {Γ : List Nat} {Y : Cx} {e a b : Expr} {pos : Pos} {k ka kb : Kd} {fa fb : Env → R (D × Env)}

def rAddAll (K : PySem.W.Frag) : R2 := fun x y H Q => (∃ i j, x = .int i ∧ y = .int j ∧ Q (.int (i + j)) H) ∨ (∃ i j, x = .str i ∧ y = .str j ∧ i.length + j.length ≤ sizeLine ∧ Q (.str (i ++ j)) H) ∨ rCatL K x y H Q ∨ rCatT K x y H Q ∨
  (∃ t b ys, x = .ref t ∧ y = .ref b ∧ SqT K H t [] ∧ SqT K H b ys ∧ Q (.ref b) H)
theorem op_catT0 {X : Cx} : OpR X (binaryOp .Add) (fun x y H Q => ∃ t b ys, x = .ref t ∧ y = .ref b ∧ SqT X.K H t [] ∧ SqT X.K H b ys ∧ Q (.ref b) H) := by
  intro pins s σ H x y v u Q I rx ry h
  obtain ⟨t, b, ys, rfl, rfl, ht, hb, q⟩ := h
  cases rx
  cases ry
  obtain ⟨its, r1, p1, _⟩ := I.tuple ht
  obtain ⟨its2, r2, p2, _⟩ := I.tuple hb
  cases r1
  exact cat_tup0 p1 p2 ⟨.ref b, H, I, rfl, q⟩
theorem op_addAll {X : Cx} : OpR X (binaryOp .Add) (rAddAll X.K) := op_add.or (op_add_str.or (op_catL.or (op_catT.or op_catT0)))

/-- + of ints, texts, tuples, lists: frozen -/
theorem sx_add (hK : Y.K = c.X.K) (ha : SX c W Γ ka Y a fa) (hb : SX c W Γ kb Y b fb) (hc : ka.own = true ∨ kb.pu = true) (h1 : ka.lv = 0) (h2 : kb.lv = 0) :
    SX c W Γ ⟨true, ka.pu && kb.pu, 0⟩ Y (.BinOp a .Add b pos) (fun ρ => (fa ρ).bind fun p => (fb p.2).bind fun q => (optR (binD .add p.1 q.1)).bind fun d => .ok (d, q.2)) :=
  PE.imp (pe_op op_addAll ha hb) fun σ H Q ⟨F, A, ρ, rp, h⟩ => tX.two (g := fun d1 d2 ρ2 => (optR (binD .add d1 d2)).bind fun d => .ok (d, ρ2)) hc rp h fun x y H2 F2 A2 d1 d2 ρ2 B1 B2 t h2' => by
    obtain ⟨d, e, hq⟩ := Run.opt h2'
    replace hq : Ends' c Γ ⟨true, ka.pu && kb.pu, 0⟩ σ ρ H F A Q (d, ρ2) := hq
    have o1 := t.o1; have o2 := t.o2
    rw [h1] at o1; rw [h2] at o2
    replace e : addD d1 d2 = some d := e
    rw [hK]
    cases d1 <;> first | (cases e; done) | skip
    · rename_i i
      cases d2 <;> first | (cases e; done) | skip
      rename_i j
      cases e
      exact .inl ⟨i, j, o1.int_eq, o2.int_eq, hq _ _ _ _ _ (t.mid.val (.int _) (fun z => z) (.inl rfl))⟩
    · rename_i i
      cases d2 <;> first | (cases e; done) | skip
      rename_i j
      replace e : (if i.length + j.length ≤ lim then some (D.str (i ++ j)) else none) = some d := e
      split at e <;> cases e
      rename_i hl
      refine .inr (.inl ⟨_, _, o1.str_eq, o2.str_eq, by rw [sV_length, sV_length, ← line_lim]; exact hl, ?_⟩)
      rw [sV_append]
      exact hq _ _ _ _ _ (t.mid.val (.str _) (fun z => z) (.inl rfl))
    · rename_i i
      cases d2 <;> first | (cases e; done) | skip
      rename_i j
      replace e : (if i.length + j.length ≤ lim then some (D.lst (i ++ j)) else none) = some d := e
      split at e <;> cases e
      rename_i hl
      obtain ⟨a1, ps, rfl, rfl, s1, r1⟩ := o1.lst1 (Nat.zero_le _) t.mid.rep.sub
      obtain ⟨a2, qs, rfl, rfl, s2, r2⟩ := o2.lst1 (Nat.zero_le _) t.mid.rep.sub
      refine .inr (.inr (.inl ⟨_, _, _, _, rfl, rfl, s1, s2, by simpa [← line_lim] using hl, fun p hp => ?_⟩))
      have o := t.mid.newLF (k := ⟨true, ka.pu && kb.pu, 0⟩) (ps := ps ++ qs) hp (fun z hz => (List.mem_append.mp hz).elim (r1 z) (r2 z)) (fun z => z) rfl
      rw [List.map_append, List.map_append] at o
      exact hq _ _ _ _ _ o
    · rename_i i
      cases d2 <;> first | (cases e; done) | skip
      rename_i j
      replace e : (if i.length + j.length ≤ lim then some (D.tup (i ++ j)) else none) = some d := e
      split at e <;> cases e
      rename_i hl
      have f1 := o1.2; have f2 := o2.2
      obtain ⟨a1, ps, rfl, rfl, s1, r1⟩ := f1.tup_eq
      obtain ⟨a2, qs, rfl, rfl, s2, r2⟩ := f2.tup_eq
      by_cases hp : ps = []
      · subst hp
        refine .inr (.inr (.inr (.inr ⟨_, _, _, rfl, rfl, t.mid.rep.sub.sqT s1, t.mid.rep.sub.sqT s2, hq _ _ _ _ _ (t.mid.val f2 (fun z => z) (.inl rfl))⟩)))
      · refine .inr (.inr (.inr (.inl ⟨_, _, _, _, rfl, rfl, t.mid.rep.sub.sqT s1, t.mid.rep.sub.sqT s2, by simpa using hp, by simpa [← line_lim] using hl, fun hz => ?_, fun _ p hp => ?_⟩)))
        · have : qs = [] := by simpa using hz
          subst this
          simp only [List.map_nil, List.append_nil] at hq ⊢
          exact hq _ _ _ _ _ (t.mid.val f1 (fun z => z) (.inl rfl))
        · have o := t.mid.newT (k := ⟨true, ka.pu && kb.pu, 0⟩) (ps := ps ++ qs) hp (fun z hz => (List.mem_append.mp hz).elim (r1 z) (r2 z)) (fun z => z) rfl
          rw [List.map_append, List.map_append] at o
          exact hq _ _ _ _ _ o
/-- + of lists, the new one owned -/
theorem sx_cat (hK : Y.K = c.X.K) (ha : SX c W Γ ka Y a fa) (hb : SX c W Γ kb Y b fb) (hc : ka.own = true ∨ kb.pu = true) (h1 : ka.lv ≤ 1) (h2 : kb.lv ≤ 1) :
    SX c W Γ ⟨true, ka.pu && kb.pu, 1⟩ Y (.BinOp a .Add b pos) (fun ρ => (fa ρ).bind fun p => (fb p.2).bind fun q => (optR (binD .cat p.1 q.1)).bind fun d => .ok (d, q.2)) :=
  PE.imp (pe_op op_addAll ha hb) fun σ H Q ⟨F, A, ρ, rp, h⟩ => tX.two (g := fun d1 d2 ρ2 => (optR (binD .cat d1 d2)).bind fun d => .ok (d, ρ2)) hc rp h fun x y H2 F2 A2 d1 d2 ρ2 B1 B2 t h2' => by
    obtain ⟨d, e, hq⟩ := Run.opt h2'
    replace hq : Ends' c Γ ⟨true, ka.pu && kb.pu, 1⟩ σ ρ H F A Q (d, ρ2) := hq
    replace e : catD d1 d2 = some d := e
    rw [hK]
    cases d1 <;> first | (cases e; done) | skip
    rename_i i
    cases d2 <;> first | (cases e; done) | skip
    rename_i j
    replace e : (if i.length + j.length ≤ lim then some (D.lst (i ++ j)) else none) = some d := e
    split at e <;> cases e
    rename_i hl
    obtain ⟨a1, ps, rfl, rfl, s1, r1⟩ := t.o1.lst1 h1 t.mid.rep.sub
    obtain ⟨a2, qs, rfl, rfl, s2, r2⟩ := t.o2.lst1 h2 t.mid.rep.sub
    refine .inr (.inr (.inl ⟨_, _, _, _, rfl, rfl, s1, s2, by simpa [← line_lim] using hl, fun p hp => ?_⟩))
    have o := t.mid.newL (k := ⟨true, ka.pu && kb.pu, 1⟩) (ps := ps ++ qs) hp (fun z hz => (List.mem_append.mp hz).elim (r1 z) (r2 z)) (fun z => z) rfl
    rw [List.map_append, List.map_append] at o
    exact hq _ _ _ _ _ o
end
end Pz
end
section
set_option Elab.async false
set_option linter.all false
/-! Rules of expressions: *, unary operators, truth. -/
namespace Pz
open PySem PySem.Spec PyProof.Rows L2 HT

theorem op_mulK {X : Cx} : OpR X (binaryOp .Mult) (rI IntMulOk fun i j => .int (i * j)) := opI fun _ _ _ _ _ _ _ hc q => mul_int q hc
theorem nat64 {i : Int} (h : i.natAbs < 2 ^ 64) : -(2 ^ 64) < i ∧ i < 2 ^ 64 := by omega
theorem mulOk_ok {i j : Int} (h : mulOk i j = true) : IntMulOk i j := by
  unfold mulOk at h
  simp only [Bool.or_eq_true, decide_eq_true_eq] at h
  rcases h with (h | h) | h
  · exact CMul.ok (.inl (nat64 h))
  · exact CMul.ok (.inr (nat64 h))
  · exact CMulW.ok (by unfold bits at h; show i.natAbs.log2 + j.natAbs.log2 < 1000000; omega)
theorem rep_fold (s : List Nat) (n : Nat) : ∀ acc : List Nat, (List.replicate n s.toArray).foldl (· ++ ·) acc.toArray = (acc ++ (List.replicate n s).flatten).toArray := by
  induction n with
  | zero => intro acc; simp
  | succ n ih =>
    intro acc
    rw [List.replicate_succ, List.foldl_cons, List.replicate_succ, List.flatten_cons]
    have e : acc.toArray ++ s.toArray = (acc ++ s).toArray := by simp
    rw [e, ih, List.append_assoc]
def rMulStr : R2 := fun x y H Q => ∃ s j, x = sV s ∧ y = .int j ∧ 2 ≤ j ∧ j < 16777216 ∧ 0 < s.length ∧ s.length * j.toNat ≤ lim ∧ Q (sV (List.replicate j.toNat s).flatten) H
theorem op_mulStr {X : Cx} : OpR X (binaryOp .Mult) rMulStr := by
  intro pins s σ H x y v u Q I rx ry h
  obtain ⟨z, j, rfl, rfl, h1, h2, h3, h4, q⟩ := h
  obtain ⟨t, rfl⟩ := rx
  obtain ⟨t', rfl⟩ := ry
  have hn1 : ¬ j < 1 := by omega
  have hl : (⟨z.toArray⟩ : Str).length = z.length := sV_length z
  have hb : (j == 1 || (⟨z.toArray⟩ : Str).length == 0) = false := by
    rw [hl]
    have a1 : (j == 1) = false := by simp; omega
    have a2 : (z.length == 0) = false := by simp; intro e; rw [e] at h3; exact absurd h3 (by simp)
    rw [a1, a2]; rfl
  have h5 : ((z.length * j.toNat : Nat) : Int) ≤ 16777216 := by
    exact Int.ofNat_le.mpr (show z.length * j.toNat ≤ 16777216 from h4)
  have hj : (j.toNat : Int) = j := Int.toNat_of_nonneg (by omega)
  refine PySem.P.mul_str (by rw [decide_eq_false (by omega), decide_eq_false (by omega)]; rfl) (fun _ _ => ?_) (fun _ _ => ?_) ?_
  · rw [hl]
    have : ((z.length : Int)) * j ≤ 16777216 := by rw [Int.natCast_mul, hj] at h5; exact h5
    have h6 : (z.length : Int) ≤ 16777216 := by
      have : (z.length : Int) * 1 ≤ (z.length : Int) * j := Int.mul_le_mul_of_nonneg_left (by omega) (by omega)
      omega
    have h7 : (2 ^ 63 - 1) / j ≥ 16777216 := by
      have : (16777216 : Int) * j ≤ 2 ^ 63 - 1 := by omega
      exact (Int.le_ediv_iff_mul_le (by omega)).mpr this
    omega
  · rw [hl]
    unfold Builtin.Str.tooLong
    rw [decide_eq_false_iff_not, Nat.not_lt, ← line_lim]
    exact h4
  · rw [if_neg hn1, if_neg (by rw [hb]; exact Bool.false_ne_true)]
    have e : (⟨(List.replicate j.toNat (⟨z.toArray⟩ : Str).cps).foldl (· ++ ·) #[]⟩ : Str) = ⟨(List.replicate j.toNat z).flatten.toArray⟩ := by
      have := rep_fold z j.toNat []
      simp only [List.nil_append] at this
      rw [← this]
    rw [e]
    refine ⟨?_, ⟨sV (List.replicate j.toNat z).flatten, H, I.tok _, ⟨_, rfl⟩, q⟩⟩
    first | (rw [sV_length]; rw [← line_lim]; simp only [List.length_flatten, List.map_replicate, List.sum_replicate_nat]; rw [Nat.mul_comm]; exact h4)
def rMulAll : R2 := fun x y H Q => (∃ i j, x = .int i ∧ y = .int j ∧ IntMulOk i j ∧ Q (.int (i * j)) H) ∨ rMulStr x y H Q ∨ rRep x y H Q
theorem op_mulAll {X : Cx} : OpR X (binaryOp .Mult) rMulAll := op_mulK.or (op_mulStr.or op_rep)

section
variable {c : Cf} {W : WX} {Γ : List Nat} {Y : Cx} {e a b : Expr} {pos : Pos} {k ka kb : Kd} {fa fb : Env → R (D × Env)}
theorem mem_repL {α : Type} {n : Nat} {l : List α} {x : α} (h : x ∈ (List.replicate n l).flatten) : x ∈ l := by
  obtain ⟨m, hm, hx⟩ := List.mem_flatten.mp h
  rw [List.eq_of_mem_replicate hm] at hx
  exact hx
theorem map_rep {α β : Type} (f : α → β) (n : Nat) (l : List α) : ((List.replicate n l).flatten).map f = (List.replicate n (l.map f)).flatten := by
  rw [List.map_flatten, List.map_replicate]
/-- * of ints, of a text by an int -/
theorem sx_mul (ha : SX c W Γ ka Y a fa) (hb : SX c W Γ kb Y b fb) (hc : ka.own = true ∨ kb.pu = true) :
    SX c W Γ (kA (ka.pu && kb.pu)) Y (.BinOp a .Mult b pos) (fun ρ => (fa ρ).bind fun p => (fb p.2).bind fun q => (optR (binD .mul p.1 q.1)).bind fun d => .ok (d, q.2)) :=
  sx_bin_atom op_mulAll ha hb hc fun X H F x y d1 d2 d n m A B _ o1 o2 e => by
    replace e : mulD d1 d2 = some d := e
    cases d1 <;> first | (cases e; done) | skip
    · rename_i i
      cases d2 <;> first | (cases e; done) | skip
      rename_i j
      replace e : (if mulOk i j then some (D.int (i * j)) else none) = some d := e
      split at e <;> cases e
      rename_i hm
      exact ⟨_, .int _, rfl, fun Q q => .inl ⟨i, j, o1.int_eq, o2.int_eq, mulOk_ok hm, q⟩⟩
    · rename_i i
      cases d2 <;> first | (cases e; done) | skip
      rename_i j
      replace e : (if 2 ≤ j ∧ j < 16777216 ∧ 0 < i.length ∧ i.length * j.toNat ≤ lim then some (D.str ((List.replicate j.toNat i).flatten)) else none) = some d := e
      split at e <;> cases e
      rename_i hm
      exact ⟨_, .str _, rfl, fun Q q => .inr (.inl ⟨i, j, o1.str_eq, o2.int_eq, hm.1, hm.2.1, hm.2.2.1, hm.2.2.2, q⟩)⟩
/-- * of a new list by an int -/
theorem sx_rep (ha : SX c W Γ ka Y a fa) (hb : SX c W Γ kb Y b fb) (hc : ka.own = true ∨ kb.pu = true) (h1 : ka.lv = 1) :
    SX c W Γ ⟨true, ka.pu && kb.pu, 1⟩ Y (.BinOp a .Mult b pos) (fun ρ => (fa ρ).bind fun p => (fb p.2).bind fun q => (optR (binD .rep p.1 q.1)).bind fun d => .ok (d, q.2)) :=
  PE.imp (pe_op op_mulAll ha hb) fun σ H Q ⟨F, A, ρ, rp, h⟩ => tX.two (g := fun d1 d2 ρ2 => (optR (binD .rep d1 d2)).bind fun d => .ok (d, ρ2)) hc rp h fun x y H2 F2 A2 d1 d2 ρ2 B1 B2 t h2' => by
    obtain ⟨d, e, hq⟩ := Run.opt h2'
    replace hq : Ends' c Γ ⟨true, ka.pu && kb.pu, 1⟩ σ ρ H F A Q (d, ρ2) := hq
    have o1 := t.o1
    rw [h1] at o1
    replace e : repD d1 d2 = some d := e
    cases d1 <;> first | (cases e; done) | skip
    rename_i i
    cases d2 <;> first | (cases e; done) | skip
    rename_i j
    replace e : (if -1000 ≤ j ∧ j < 16777216 ∧ i.length * j.toNat ≤ lim then some (D.lst (repL j.toNat i)) else none) = some d := e
    split at e <;> cases e
    rename_i hm
    obtain ⟨a1, qs, e1, e2, e3, _, _, e4⟩ := o1
    subst e2
    refine .inr (.inr ⟨a1, j, _, e1, t.o2.int_eq, e3, by omega, by omega, ?_, fun p hp => ?_⟩)
    · have := hm.2.2; rw [List.length_map] at this ⊢; rw [← line_lim]; exact this
    · have o := t.mid.newL (k := ⟨true, ka.pu && kb.pu, 1⟩) (ps := (List.replicate j.toNat (qs.map fun q => (q.1, q.2.1))).flatten) hp (fun z hz => by
        obtain ⟨q, hq', rfl⟩ := List.mem_map.mp (mem_repL hz)
        exact (e4 q hq').2) (fun z => z) rfl
      rw [map_rep, map_rep, (map_fst_snd qs).1, (map_fst_snd qs).2] at o
      exact hq _ _ _ _ _ o

theorem sx_neg (ha : SX c W Γ ka Y a fa) : SX c W Γ (kA ka.pu) Y (.UnaryOp .USub a pos) (fun ρ => (fa ρ).bind fun p => (optR (negD p.1)).bind fun d => .ok (d, p.2)) :=
  PE.imp (pe_un un_neg ha) fun σ H Q ⟨F, A, ρ, r, h⟩ => tX.one (g := fun d ρ1 => (optR (negD d)).bind fun d => .ok (d, ρ1)) r h fun x H1 F1 A1 d ρ1 B o h1 => by
    obtain ⟨d', e, h1⟩ := Run.opt h1
    cases d <;> first | (cases e; done) | skip
    rename_i i
    cases e
    exact ⟨i, o.ot.int_eq, h1 _ H1 F1 A1 [] (o.mid.val (.int _) (fun z => z) (.inr rfl))⟩
end
end Pz
end
section
set_option Elab.async false
set_option linter.all false
/-! Rules of expressions: truth, not, and, or, conditional expressions, comparisons. -/
namespace Pz
open PySem PySem.Spec PyProof.Rows L2

/-- sys.modules is a dict -/
def SmOk (b : Heap) : Prop := ∃ o es n, b.get? sysModules = some o ∧ o.data = .dict es n
/-- what holds of the context all through a def -/
structure Ctx (c : Cf) (W : WX) (Y : Cx) : Prop where
  K : Y.K = c.X.K
  tk : Takes Y W
  hu : Y.A.units + 65 < cLine
  calm : Y.calm = true
  gd : Y.A.guards = some []
  dg : Y.base.NoDigits
  sm : SmOk Y.base

section
variable {X : Tx} {H F : Hp} {n : Nat} {v : V} {d : D} {A : List Addr}
theorem RD.dic_eq {ks vs : List D} (h : RD X F v (.dic ks vs)) : ∃ (a : Addr) (ps : List (Key × V × D)), v = .ref a ∧ vs = ps.map (·.2.2) ∧ F a = some (.dK (ps.map fun p => (p.1, p.2.1))) ∧ ks = ps.map (fun p => kD p.1) ∧ ∀ p ∈ ps, RD X F p.2.1 p.2.2 := by
  cases h with | dic ps ds e s k r => exact ⟨_, ps, rfl, e, s, k, r⟩
theorem isEmpty_map {α β : Type} (l : List α) (f : α → β) : (l.map f).isEmpty = l.isEmpty := by cases l <;> rfl
theorem RD.tru {b : Bool} (h : RD X H v d) (e : truO d = some b) : TruV X.K v H b := by
  cases d <;> try (cases e; done)
  · cases e; rw [h.non_eq]; exact rfl
  · cases e; rw [h.bl_eq]; exact rfl
  · cases e; rw [h.int_eq]; exact rfl
  · rename_i s
    replace e : (if s.length ≤ lim then some (!s.isEmpty) else none) = some b := e
    split at e <;> cases e
    rename_i hl
    rw [h.str_eq]
    refine ⟨by rw [sV_length, ← line_lim]; exact hl, ?_⟩
    rw [sV_length]
    cases s <;> simp
    omega
  · cases e
    obtain ⟨a, ps, rfl, rfl, s, _⟩ := h.lst_eq
    exact .inl ⟨_, s, by rw [isEmpty_map, isEmpty_map]⟩
  · cases e
    obtain ⟨a, ps, rfl, rfl, s, _⟩ := h.tup_eq
    exact .inr (.inl ⟨_, s, by rw [isEmpty_map, isEmpty_map]⟩)
  · cases e
    obtain ⟨a, ps, rfl, rfl, s, rfl, _⟩ := h.dic_eq
    exact .inr (.inr ⟨_, s, by rw [isEmpty_map, isEmpty_map]⟩)
end

section
variable {c : Cf} {W : WX} {Γ : List Nat} {k k' ka kb : Kd} {σ : Sl} {ρ ρ' ρ1 ρ2 : Env} {H F H' F' H1 F1 H2 F2 : Hp} {A A' A1 A2 : Nat → List Addr} {v x y : V} {d d1 d2 : D} {B B1 B2 : List Addr} {q q1 q2 : Addr → Prop} {p p1 p2 : Bool}
/-- a value behind another part that is dropped -/
theorem Out.behind (m : Mid c Γ σ ρ H F A ρ1 H1 F1 A1 q1 p1) (o : Out c Γ kb σ ρ1 H1 F1 A1 ρ2 H2 F2 A2 v d B) (h1 : k.own = kb.own) (h2 : k.lv = kb.lv) (h3 : k.pu = true → p1 = true ∧ kb.pu = true) : Out c Γ k σ ρ H F A ρ2 H2 F2 A2 v d B :=
  ⟨(m.trans o.mid).weak (fun _ h => .inr (by rw [← h1]; exact h)) fun z => by rw [(h3 z).1, (h3 z).2]; rfl, by rw [h2]; exact o.ot, fun z => o.nd (by rw [← h1]; exact z), fun z => o.dj (by rw [← h1]; exact z)⟩
theorem Out.kind (o : Out c Γ ka σ ρ H F A ρ2 H2 F2 A2 v d B) (h1 : k.own = ka.own) (h2 : k.lv = ka.lv) (h3 : k.pu = true → ka.pu = true) : Out c Γ k σ ρ H F A ρ2 H2 F2 A2 v d B :=
  ⟨o.mid.weak (fun _ h => by rw [← h1]; exact h) h3, by rw [h2]; exact o.ot, fun z => o.nd (by rw [← h1]; exact z), fun z => o.dj (by rw [← h1]; exact z)⟩
end

section
variable {c : Cf} {W : WX} {Γ : List Nat} {Y : Cx} {e a b : Expr} {rest : List Expr} {pos : Pos} {k ka kb kc : Kd} {fa fb fc : Env → R (D × Env)} {n : Nat} {pa pb pc : Bool}

theorem sx_not (cx : Ctx c W Y) (ha : SX c W Γ ka Y a fa) :
    SX c W Γ (kA ka.pu) Y (.UnaryOp .Not a pos) (fun ρ => (fa ρ).bind fun p => (optR (truO p.1)).bind fun b => .ok (D.bl (!b), p.2)) :=
  PE.imp (pe_notT ha) fun σ H Q ⟨F, A, ρ, r, h⟩ => tX.one (g := fun d ρ1 => (optR (truO d)).bind fun b => .ok (D.bl (!b), ρ1)) r h fun x H1 F1 A1 d ρ1 B o h1 => by
    obtain ⟨b, e, h1⟩ := Run.opt h1
    replace h1 : Ends' c Γ (kA ka.pu) σ ρ H F A Q (.bl (!b), ρ1) := h1
    rw [cx.K]
    exact ⟨b, (o.ot.read o.rep.sub).tru e, h1 _ _ _ _ _ (o.mid.val (.bl _) (fun z => z) (.inr rfl))⟩
theorem sx_and (cx : Ctx c W Y) (ha : SX c W Γ ⟨true, pa, n⟩ Y a fa) (hb : SX c W Γ ⟨true, pb, n⟩ Y (.BoolOp .And (b :: rest) pos) fb) :
    SX c W Γ ⟨true, pa && pb, n⟩ Y (.BoolOp .And (a :: b :: rest) pos) (fun ρ => (fa ρ).bind fun p => (optR (truO p.1)).bind fun t => if t then fb p.2 else .ok p) :=
  PE.imp (pe_andT ha hb) fun σ H Q ⟨F, A, ρ, r, h⟩ => tX.one (g := fun d ρ1 => (optR (truO d)).bind fun t => if t then fb ρ1 else .ok (d, ρ1)) r h fun x H1 F1 A1 d ρ1 B o h1 => by
    obtain ⟨t, e, h1⟩ := Run.opt h1
    rw [cx.K]
    refine ⟨t, (o.ot.read o.rep.sub).tru e, ?_⟩
    cases t with
    | true =>
      replace h1 : Run c W σ H1 F1 (Own A1) (fb ρ1) _ := h1
      exact ⟨F1, A1, ρ1, o.rep, h1.imp fun p _ hp v H2 F2 A2 B2 o2 => hp v H2 F2 A2 B2 (Out.behind o.mid o2 rfl rfl fun z => by simpa using z)⟩
    | false =>
      replace h1 : Ends' c Γ ⟨true, pa && pb, n⟩ σ ρ H F A Q (d, ρ1) := h1
      exact h1 _ _ _ _ _ (o.kind rfl rfl fun z => (by simpa using z : pa = true ∧ pb = true).1)
theorem sx_or (cx : Ctx c W Y) (ha : SX c W Γ ⟨true, pa, n⟩ Y a fa) (hb : SX c W Γ ⟨true, pb, n⟩ Y (.BoolOp .Or (b :: rest) pos) fb) :
    SX c W Γ ⟨true, pa && pb, n⟩ Y (.BoolOp .Or (a :: b :: rest) pos) (fun ρ => (fa ρ).bind fun p => (optR (truO p.1)).bind fun t => if t then .ok p else fb p.2) :=
  PE.imp (pe_orT ha hb) fun σ H Q ⟨F, A, ρ, r, h⟩ => tX.one (g := fun d ρ1 => (optR (truO d)).bind fun t => if t then .ok (d, ρ1) else fb ρ1) r h fun x H1 F1 A1 d ρ1 B o h1 => by
    obtain ⟨t, e, h1⟩ := Run.opt h1
    rw [cx.K]
    refine ⟨t, (o.ot.read o.rep.sub).tru e, ?_⟩
    cases t with
    | false =>
      replace h1 : Run c W σ H1 F1 (Own A1) (fb ρ1) _ := h1
      exact ⟨F1, A1, ρ1, o.rep, h1.imp fun p _ hp v H2 F2 A2 B2 o2 => hp v H2 F2 A2 B2 (Out.behind o.mid o2 rfl rfl fun z => by simpa using z)⟩
    | true =>
      replace h1 : Ends' c Γ ⟨true, pa && pb, n⟩ σ ρ H F A Q (d, ρ1) := h1
      exact h1 _ _ _ _ _ (o.kind rfl rfl fun z => (by simpa using z : pa = true ∧ pb = true).1)
theorem sx_boolone {op} (ha : SX c W Γ k Y a fa) : SX c W Γ k Y (.BoolOp op [a] pos) fa := pe_one ha

/-! ### tests -/
def tX2 (c : Cf) (W : WX) (Γ : List Nat) (pu : Bool) (f : Env → R (Bool × Env)) : TT := fun σ H Q =>
  ∃ F A ρ, Rep c.X Γ ρ σ H F A ∧ Run c W σ H F (Own A) (f ρ) fun p => ∀ H' F' A', Mid c Γ σ ρ H F A p.2 H' F' A' (fun _ => False) pu → Q p.1 H'
/-- a test: as a condition -/
abbrev SC (c : Cf) (W : WX) (Γ : List Nat) (pu : Bool) (Y : Cx) (e : Expr) (f : Env → R (Bool × Env)) : Prop := PT Y e (tX2 c W Γ pu f)
theorem PT.imp {Y : Cx} {e : Expr} {t u : TT} (h : PT Y e t) (i : ∀ σ H Q, u σ H Q → t σ H Q) : PT Y e u := ⟨fun pins s σ H Q I z => h.run pins s σ H Q I (i σ H Q z)⟩
theorem PW.imp {Y : Cx} {e : Expr} {t u : TT} (h : PW Y e t) (i : ∀ σ H Q, u σ H Q → t σ H Q) : PW Y e u := ⟨fun wh pins s σ H Q I z => h.run wh pins s σ H Q I (i σ H Q z)⟩
/-- the value's truth -/
abbrev truF (f : Env → R (D × Env)) : Env → R (Bool × Env) := fun ρ => (f ρ).bind fun p => (optR (truO p.1)).bind fun t => .ok (t, p.2)
theorem sc_val (cx : Ctx c W Y) (ha : SX c W Γ ka Y a fa) (he : ∀ whole, isTrue a Y.env whole = (do let v ← whole; standAt a.pos; holding [v] (truthy v))) : SC c W Γ ka.pu Y a (truF fa) :=
  PT.imp (pt_truth ha he) fun σ H Q ⟨F, A, ρ, r, h⟩ => tX.one (g := fun d ρ1 => (optR (truO d)).bind fun b => .ok (b, ρ1)) r h fun x H1 F1 A1 d ρ1 B o h1 => by
    obtain ⟨b, e, h1⟩ := Run.opt h1
    rw [cx.K]
    exact ⟨b, (o.ot.read o.rep.sub).tru e, h1 _ _ _ (o.mid.weak (fun _ z => z.elim) fun z => z)⟩

/-- a comparison's rule -/
def CmpR (c : Cf) (Y : Cx) (op : CmpOp) (n m : Nat) (g : D → D → Option Bool) : Prop :=
  ∃ r, OpR Y (compareOp op) r ∧ ∀ (H F : Hp) (x y : V) (d1 d2 : D) (b : Bool) (A B : List Addr), Sub F H → OT c.X H F n x d1 A → OT c.X H F m y d2 B → g d1 d2 = some b → ∀ Q : VK, Q (.bl b) H → r x y H Q
theorem sx_cmp {op : CmpOp} {g : D → D → Option Bool} (hr : CmpR c Y op ka.lv kb.lv g) (hm : behindInMarks op b = false) (ha : SX c W Γ ka Y a fa) (hb : SX c W Γ kb Y b fb) (hc : ka.own = true ∨ kb.pu = true) :
    SX c W Γ (kA (ka.pu && kb.pu)) Y (.Compare a [op] [b] pos) (fun ρ => (fa ρ).bind fun p => (fb p.2).bind fun q => (optR (g p.1 q.1)).bind fun d => .ok (D.bl d, q.2)) := by
  obtain ⟨r, ho, hr⟩ := hr
  exact PE.imp (pe_cmpR ho ha hb hm) fun σ H Q ⟨F, A, ρ, rp, h⟩ => tX.two (g := fun d1 d2 ρ2 => (optR (g d1 d2)).bind fun d => .ok (D.bl d, ρ2)) hc rp h fun x y H2 F2 A2 d1 d2 ρ2 B1 B2 t h2 => by
    obtain ⟨d, e, h2⟩ := Run.opt h2
    replace h2 : Ends' c Γ (kA (ka.pu && kb.pu)) σ ρ H F A Q (.bl d, ρ2) := h2
    exact hr H2 F2 x y d1 d2 d _ _ t.mid.rep.sub t.o1 t.o2 e _ (h2 _ _ _ _ _ (t.mid.val (.bl _) (fun z => z) (.inr rfl)))
theorem sc_cmp {op : CmpOp} {g : D → D → Option Bool} (hr : CmpR c Y op ka.lv kb.lv g) (hm : behindInMarks op b = false) (ha : SX c W Γ ka Y a fa) (hb : SX c W Γ kb Y b fb) (hc : ka.own = true ∨ kb.pu = true) :
    SC c W Γ (ka.pu && kb.pu) Y (.Compare a [op] [b] pos) (truF fun ρ => (fa ρ).bind fun p => (fb p.2).bind fun q => (optR (g p.1 q.1)).bind fun d => .ok (D.bl d, q.2)) := by
  obtain ⟨r, ho, hr⟩ := hr
  refine PT.imp (pt_cmpR ho ha hb hm) fun σ H Q ⟨F, A, ρ, rp, h⟩ => ?_
  replace h : Run c W σ H F (Own A) ((fa ρ).bind fun p => (fb p.2).bind fun q => (optR (g p.1 q.1)).bind fun d => .ok (d, q.2)) fun p => ∀ H' F' A', Mid c Γ σ ρ H F A p.2 H' F' A' (fun _ => False) (ka.pu && kb.pu) → Q p.1 H' := by
    have e : ∀ ρ, ((fa ρ).bind fun p => (fb p.2).bind fun q => (optR (g p.1 q.1)).bind fun d => .ok (D.bl d, q.2)).bind (fun p : D × Env => (optR (truO p.1)).bind fun t => .ok (t, p.2)) = ((fa ρ).bind fun p => (fb p.2).bind fun q => (optR (g p.1 q.1)).bind fun d => .ok (d, q.2)) := by
      intro ρ
      cases fa ρ with
      | error e => rfl
      | ok p =>
        show ((fb p.2).bind _).bind _ = (fb p.2).bind _
        cases fb p.2 with
        | error e => rfl
        | ok q =>
          show ((optR (g p.1 q.1)).bind _).bind _ = (optR (g p.1 q.1)).bind _
          cases g p.1 q.1 <;> rfl
    rw [← e]; exact h
  exact tX.two (g := fun d1 d2 ρ2 => (optR (g d1 d2)).bind fun d => .ok (d, ρ2)) hc rp h fun x y H2 F2 A2 d1 d2 ρ2 B1 B2 t h2 => by
    obtain ⟨d, e, h2⟩ := Run.opt h2
    replace h2 : ∀ H' F' A', Mid c Γ σ ρ H F A ρ2 H' F' A' (fun _ => False) (ka.pu && kb.pu) → Q d H' := h2
    exact hr H2 F2 x y d1 d2 d _ _ t.mid.rep.sub t.o1 t.o2 e _ ⟨d, rfl, h2 _ _ _ (t.mid.weak (fun _ z => z.elim) fun z => z)⟩
/-- a test seen as one -/
theorem tX2.seq {Γ : List Nat} {pu : Bool} {f : Env → R (Bool × Env)} {σ : Sl} {H F : Hp} {A : Nat → List Addr} {ρ : Env} {β : Type} {g : Bool → Env → R β} {ok : β → Prop} {Rr : Bool → Hp → Prop} (r : Rep c.X Γ ρ σ H F A)
    (h : Run c W σ H F (Own A) ((f ρ).bind fun p => g p.1 p.2) ok)
    (k : ∀ b H1 F1 A1 ρ1, Mid c Γ σ ρ H F A ρ1 H1 F1 A1 (fun _ => False) pu → Run c W σ H1 F1 (Own A1) (g b ρ1) ok → Rr b H1) : tX2 c W Γ pu f σ H Rr :=
  ⟨F, A, ρ, r, h.bind.imp fun p _ hp H' F' A' m => k p.1 H' F' A' p.2 m (hp.at m.nx0 fun _ z => z)⟩
theorem bind_assoc {α β γ : Type} (m : R α) (f : α → R β) (g : β → R γ) : (m.bind f).bind g = m.bind fun a => (f a).bind g := by cases m <;> rfl
theorem bind_ok {α β : Type} (a : α) (f : α → R β) : (Except.ok a : R α).bind f = f a := rfl
theorem sc_not (h : SC c W Γ pa Y a (truF fa)) : SC c W Γ pa Y (.UnaryOp .Not a pos) (truF fun ρ => (fa ρ).bind fun p => (optR (truO p.1)).bind fun b => .ok (D.bl (!b), p.2)) :=
  PT.imp (pt_not h) fun σ H Q ⟨F, A, ρ, r, h⟩ => by
    replace h : Run c W σ H F (Own A) ((truF fa ρ).bind fun p => .ok (!p.1, p.2)) fun p => ∀ H' F' A', Mid c Γ σ ρ H F A p.2 H' F' A' (fun _ => False) pa → Q p.1 H' := by
      have e : ((fa ρ).bind fun p => (optR (truO p.1)).bind fun b => .ok (D.bl (!b), p.2)).bind (fun p : D × Env => (optR (truO p.1)).bind fun t => .ok (t, p.2)) = (truF fa ρ).bind fun p => .ok (!p.1, p.2) := by
        unfold truF
        cases fa ρ with
        | error e => rfl
        | ok p =>
          show ((optR (truO p.1)).bind _).bind _ = ((optR (truO p.1)).bind _).bind _
          cases truO p.1 <;> rfl
      rw [← e]; exact h
    exact tX2.seq (g := fun b ρ1 => .ok (!b, ρ1)) r h fun b H1 F1 A1 ρ1 m h1 => by
      replace h1 : ∀ H' F' A', Mid c Γ σ ρ H F A ρ1 H' F' A' (fun _ => False) pa → Q (!b) H' := h1
      exact h1 _ _ _ m
theorem sc_and (cx : Ctx c W Y) (ha : SC c W Γ pa Y a (truF fa)) (hb : PW Y (.BoolOp .And (b :: rest) pos) (tX2 c W Γ pb (truF fb))) :
    PW Y (.BoolOp .And (a :: b :: rest) pos) (tX2 c W Γ (pa && pb) (truF fun ρ => (fa ρ).bind fun p => (optR (truO p.1)).bind fun t => if t then fb p.2 else .ok p)) :=
  PW.imp (pw_and ha hb) fun σ H Q ⟨F, A, ρ, r, h⟩ => by
    replace h : Run c W σ H F (Own A) ((truF fa ρ).bind fun p => if p.1 then truF fb p.2 else .ok (false, p.2)) fun p => ∀ H' F' A', Mid c Γ σ ρ H F A p.2 H' F' A' (fun _ => False) (pa && pb) → Q p.1 H' := by
      have e : ((fa ρ).bind fun p => (optR (truO p.1)).bind fun t => if t then fb p.2 else .ok p).bind (fun p : D × Env => (optR (truO p.1)).bind fun t => .ok (t, p.2)) = (truF fa ρ).bind fun p => if p.1 then truF fb p.2 else .ok (false, p.2) := by
        unfold truF
        cases fa ρ with
        | error e => rfl
        | ok p =>
          show ((optR (truO p.1)).bind _).bind _ = ((optR (truO p.1)).bind _).bind _
          cases et : truO p.1 with
          | none => rfl
          | some t =>
            cases t with
            | true => rfl
            | false => show (optR (truO p.1)).bind _ = _; rw [et]; rfl
      rw [← e]; exact h
    exact tX2.seq (pu := pa) (g := fun b ρ1 => if b then truF fb ρ1 else .ok (false, ρ1)) r h fun b H1 F1 A1 ρ1 m h1 => by
      cases b with
      | true =>
        replace h1 : Run c W σ H1 F1 (Own A1) (truF fb ρ1) _ := h1
        exact ⟨F1, A1, ρ1, m.rep, h1.imp fun p _ hp H2 F2 A2 m2 => hp H2 F2 A2 ((m.trans m2).weak (fun _ z => z.elim) fun z => z)⟩
      | false =>
        replace h1 : ∀ H' F' A', Mid c Γ σ ρ H F A ρ1 H' F' A' (fun _ => False) (pa && pb) → Q false H' := h1
        exact h1 _ _ _ (m.weak (fun _ z => z) fun z => (by simpa using z : pa = true ∧ pb = true).1)
theorem sc_or (cx : Ctx c W Y) (ha : SC c W Γ pa Y a (truF fa)) (hb : PW Y (.BoolOp .Or (b :: rest) pos) (tX2 c W Γ pb (truF fb))) :
    PW Y (.BoolOp .Or (a :: b :: rest) pos) (tX2 c W Γ (pa && pb) (truF fun ρ => (fa ρ).bind fun p => (optR (truO p.1)).bind fun t => if t then .ok p else fb p.2)) :=
  PW.imp (pw_or ha hb) fun σ H Q ⟨F, A, ρ, r, h⟩ => by
    replace h : Run c W σ H F (Own A) ((truF fa ρ).bind fun p => if p.1 then .ok (true, p.2) else truF fb p.2) fun p => ∀ H' F' A', Mid c Γ σ ρ H F A p.2 H' F' A' (fun _ => False) (pa && pb) → Q p.1 H' := by
      have e : ((fa ρ).bind fun p => (optR (truO p.1)).bind fun t => if t then .ok p else fb p.2).bind (fun p : D × Env => (optR (truO p.1)).bind fun t => .ok (t, p.2)) = (truF fa ρ).bind fun p => if p.1 then .ok (true, p.2) else truF fb p.2 := by
        unfold truF
        cases fa ρ with
        | error e => rfl
        | ok p =>
          show ((optR (truO p.1)).bind _).bind _ = ((optR (truO p.1)).bind _).bind _
          cases et : truO p.1 with
          | none => rfl
          | some t =>
            cases t with
            | false => rfl
            | true => show (optR (truO p.1)).bind _ = _; rw [et]; rfl
      rw [← e]; exact h
    exact tX2.seq (pu := pa) (g := fun b ρ1 => if b then .ok (true, ρ1) else truF fb ρ1) r h fun b H1 F1 A1 ρ1 m h1 => by
      cases b with
      | false =>
        replace h1 : Run c W σ H1 F1 (Own A1) (truF fb ρ1) _ := h1
        exact ⟨F1, A1, ρ1, m.rep, h1.imp fun p _ hp H2 F2 A2 m2 => hp H2 F2 A2 ((m.trans m2).weak (fun _ z => z.elim) fun z => z)⟩
      | true =>
        replace h1 : ∀ H' F' A', Mid c Γ σ ρ H F A ρ1 H' F' A' (fun _ => False) (pa && pb) → Q true H' := h1
        exact h1 _ _ _ (m.weak (fun _ z => z) fun z => (by simpa using z : pa = true ∧ pb = true).1)
/-- a if c else b -/
theorem sx_ite {e₀ : Expr} (hc : SC c W Γ pc Y e₀ (truF fc)) (ha : SX c W Γ ⟨true, pa, n⟩ Y a fa) (hb : SX c W Γ ⟨true, pb, n⟩ Y b fb) :
    SX c W Γ ⟨true, pc && (pa && pb), n⟩ Y (.IfExp e₀ a b pos) (fun ρ => (fc ρ).bind fun p => (optR (truO p.1)).bind fun t => if t then fa p.2 else fb p.2) :=
  PE.imp (pe_ifExp hc ha hb) fun σ H Q ⟨F, A, ρ, r, h⟩ => by
    replace h : Run c W σ H F (Own A) ((truF fc ρ).bind fun p => if p.1 then fa p.2 else fb p.2) (Ends' c Γ ⟨true, pc && (pa && pb), n⟩ σ ρ H F A Q) := by
      have e : ((fc ρ).bind fun p => (optR (truO p.1)).bind fun t => if t then fa p.2 else fb p.2) = (truF fc ρ).bind fun p => if p.1 then fa p.2 else fb p.2 := by
        unfold truF
        cases fc ρ with
        | error e => rfl
        | ok p =>
          show (optR (truO p.1)).bind _ = ((optR (truO p.1)).bind _).bind _
          cases truO p.1 <;> rfl
      rw [← e]; exact h
    exact tX2.seq (pu := pc) (g := fun b ρ1 => if b then fa ρ1 else fb ρ1) r h fun b H1 F1 A1 ρ1 m h1 => by
      cases b with
      | true =>
        replace h1 : Run c W σ H1 F1 (Own A1) (fa ρ1) _ := h1
        exact ⟨F1, A1, ρ1, m.rep, h1.imp fun p _ hp v H2 F2 A2 B2 o2 => hp v H2 F2 A2 B2 (Out.behind m o2 rfl rfl fun z => by
          have z : (pc = true ∧ pa = true ∧ pb = true) := by simpa using z
          exact ⟨z.1, z.2.1⟩)⟩
      | false =>
        replace h1 : Run c W σ H1 F1 (Own A1) (fb ρ1) _ := h1
        exact ⟨F1, A1, ρ1, m.rep, h1.imp fun p _ hp v H2 F2 A2 B2 o2 => hp v H2 F2 A2 B2 (Out.behind m o2 rfl rfl fun z => by
          have z : (pc = true ∧ pa = true ∧ pb = true) := by simpa using z
          exact ⟨z.1, z.2.2⟩)⟩
end
end Pz
end
section
set_option Elab.async false
set_option linter.all false
/-! What reads as data reads so in the library's sense; order of data. -/
namespace Pz
open PySem PySem.Spec PyProof.Rows L2

theorem toPyL_map : ∀ l : List D, toPyL l = l.map toPy
  | [] => rfl
  | d :: l => congrArg (toPy d :: ·) (toPyL_map l)
theorem toPyL_len (l : List D) : (toPyL l).length = l.length := by rw [toPyL_map, List.length_map]
mutual
theorem okD_plain : ∀ (d : D) (n : Nat), okD n d = true → (toPy d).plain = true ∧ (toPy d).depth ≤ n
  | .non, _, _ => ⟨rfl, Nat.zero_le _⟩
  | .bl _, _, _ => ⟨rfl, Nat.zero_le _⟩
  | .int _, _, _ => ⟨rfl, Nat.zero_le _⟩
  | .str s, n, h => ⟨rfl, Nat.zero_le _⟩
  | .lst l, 0, h => by cases h
  | .lst l, n + 1, h => ⟨(okL_plain l n h).1, Nat.succ_le_succ (okL_plain l n h).2⟩
  | .tup l, 0, h => by cases h
  | .tup l, n + 1, h => ⟨(okL_plain l n h).1, Nat.succ_le_succ (okL_plain l n h).2⟩
  | .dic _ _, _, h => by cases h
  | .set _, _, h => by cases h
  | .fn _, _, h => by cases h
  | .exc _ _, _, h => by cases h
theorem okL_plain : ∀ (l : List D) (n : Nat), okL n l = true → PyData.plainAll (toPyL l) = true ∧ PyData.depthAll (toPyL l) ≤ n
  | [], _, _ => ⟨rfl, Nat.zero_le _⟩
  | d :: l, n, h => by
    replace h : (okD n d && okL n l) = true := h
    rw [Bool.and_eq_true] at h
    have h1 := okD_plain d n h.1
    have h2 := okL_plain l n h.2
    refine ⟨?_, ?_⟩
    · show ((toPy d).plain && PyData.plainAll (toPyL l)) = true
      rw [h1.1, h2.1]; rfl
    · show max _ _ ≤ n
      omega
end
theorem str_beq (s t : List Nat) : ((⟨s.toArray⟩ : Str) == ⟨t.toArray⟩) = (s == t) := by
  by_cases h : s = t
  · subst h; simp
  · have : (⟨s.toArray⟩ : Str) ≠ ⟨t.toArray⟩ := fun e => h (by injection e with e; simpa using e)
    have h2 : (s == t) = false := by simpa using h
    rw [h2]
    exact beq_eq_false_iff_ne.mpr this
mutual
theorem eqv_toPy : ∀ (d e : D) (n m : Nat), okD n d = true → okD m e = true → PyData.eqv (toPy d) (toPy e) = eqD d e
  | .non, e, n, m, _, h => by cases e <;> first | rfl | (cases h; done)
  | .bl b, e, n, m, _, h => by cases e <;> first | rfl | (cases h; done)
  | .int i, e, n, m, _, h => by cases e <;> first | rfl | (cases h; done)
  | .str s, e, n, m, _, h => by
    cases e <;> first | rfl | (cases h; done) | skip
    exact str_beq _ _
  | .lst l, e, 0, m, h, _ => by cases h
  | .lst l, e, n + 1, 0, h, h' => by cases e <;> first | rfl | (cases h'; done)
  | .lst l, e, n + 1, m + 1, h, h' => by
    cases e <;> first | rfl | (cases h'; done) | skip
    exact eqvL_toPy l _ n m h h'
  | .tup l, e, 0, m, h, _ => by cases h
  | .tup l, e, n + 1, 0, h, h' => by cases e <;> first | rfl | (cases h'; done)
  | .tup l, e, n + 1, m + 1, h, h' => by
    cases e <;> first | rfl | (cases h'; done) | skip
    exact eqvL_toPy l _ n m h h'
  | .dic _ _, _, _, _, h, _ => by cases h
  | .set _, _, _, _, h, _ => by cases h
  | .fn _, _, _, _, h, _ => by cases h
  | .exc _ _, _, _, _, h, _ => by cases h
theorem eqvL_toPy : ∀ (l k : List D) (n m : Nat), okL n l = true → okL m k = true → PyData.eqvAll (toPyL l) (toPyL k) = eqL l k
  | [], [], _, _, _, _ => rfl
  | [], _ :: _, _, _, _, _ => rfl
  | _ :: _, [], _, _, _, _ => rfl
  | d :: l, e :: k, n, m, h, h' => by
    replace h : (okD n d && okL n l) = true := h
    replace h' : (okD m e && okL m k) = true := h'
    rw [Bool.and_eq_true] at h h'
    show (PyData.eqv (toPy d) (toPy e) && PyData.eqvAll (toPyL l) (toPyL k)) = (eqD d e && eqL l k)
    rw [eqv_toPy d e n m h.1 h'.1, eqvL_toPy l k n m h.2 h'.2]
end
/-! ### Reads -/
inductive RDL (X : Tx) (H : Hp) : List V → List D → Prop
  | nil : RDL X H [] []
  | cons {v d vs ds} : RD X H v d → RDL X H vs ds → RDL X H (v :: vs) (d :: ds)
theorem rdl_of {X : Tx} {H : Hp} : ∀ {ps : List (V × D)}, (∀ p ∈ ps, RD X H p.1 p.2) → RDL X H (ps.map (·.1)) (ps.map (·.2))
  | [], _ => .nil
  | p :: ps, h => .cons (h p List.mem_cons_self) (rdl_of fun q hq => h q (List.mem_cons_of_mem _ hq))
theorem rdl_ps {X : Tx} {H : Hp} {vs : List V} {ds : List D} (h : RDL X H vs ds) : ∃ ps : List (V × D), vs = ps.map (·.1) ∧ ds = ps.map (·.2) ∧ ∀ p ∈ ps, RD X H p.1 p.2 := by
  induction h with
  | nil => exact ⟨[], rfl, rfl, fun _ h => absurd h (by simp)⟩
  | @cons v d vs ds r _ ih =>
    obtain ⟨ps, e1, e2, e3⟩ := ih
    exact ⟨(v, d) :: ps, by rw [e1]; rfl, by rw [e2]; rfl, fun p hp => (List.mem_cons.mp hp).elim (fun e => e ▸ r) (e3 p)⟩
section
variable {X : Tx} {Y : Cx} {pins : List (Addr × Obj)} {σ : Sl} {H : Hp} {s : Shared}
mutual
theorem RD.readsP (I : Inv Y pins σ H s) (hK : Y.K = X.K) : ∀ (d : D) (n : Nat) (v : V) (u : Value), okD n d = true → RD X H v d → RelV v u → ∃ as, Reads s.heap u (toPy d) as
  | .non, _, _, _, _, h, r => by rw [h.non_eq] at r; cases r; exact ⟨_, Reads.none⟩
  | .bl b, _, _, _, _, h, r => by rw [h.bl_eq] at r; cases r; exact ⟨_, Reads.bool b⟩
  | .int i, _, _, _, _, h, r => by rw [h.int_eq] at r; obtain ⟨t, rfl⟩ := r; exact ⟨_, Reads.int i t⟩
  | .str i, _, _, _, _, h, r => by rw [h.str_eq] at r; obtain ⟨t, rfl⟩ := r; exact ⟨_, Reads.str _ t⟩
  | .lst l, 0, _, _, n, _, _ => by cases n
  | .lst l, m + 1, _, _, n, h, r => by
    obtain ⟨a, ps, rfl, e, sq, rr⟩ := h.lst_eq
    cases r
    obtain ⟨its, rv, ⟨o, k, ho, hc, _, hd⟩, _⟩ := I.list (hK ▸ sq)
    obtain ⟨as, hr⟩ := RD.readsLP I hK l m (ps.map (·.1)) its n (e ▸ rdl_of rr) rv
    exact ⟨_, Reads.list ho hc hd hr⟩
  | .tup l, 0, _, _, n, _, _ => by cases n
  | .tup l, m + 1, _, _, n, h, r => by
    obtain ⟨a, ps, rfl, e, sq, rr⟩ := h.tup_eq
    cases r
    obtain ⟨its, rv, ⟨o, ho, hc, k, hd⟩, _⟩ := I.tuple (hK ▸ sq)
    obtain ⟨as, hr⟩ := RD.readsLP I hK l m (ps.map (·.1)) its n (e ▸ rdl_of rr) rv
    exact ⟨_, Reads.tuple ho hc hd hr⟩
  | .dic _ _, _, _, _, n, _, _ => by cases n
  | .set _, _, _, _, n, _, _ => by cases n
  | .fn _, _, _, _, n, _, _ => by cases n
  | .exc _ _, _, _, _, n, _, _ => by cases n
theorem RD.readsLP (I : Inv Y pins σ H s) (hK : Y.K = X.K) : ∀ (l : List D) (n : Nat) (vs : List V) (us : List Value), okL n l = true → RDL X H vs l → Vals vs us → ∃ as, ReadsAll s.heap us (toPyL l) as
  | [], _, _, _, _, h, r => by cases h; cases r; exact ⟨_, .nil⟩
  | d :: l, m, _, _, n, h, r => by
    cases h with
    | cons h1 h2 =>
      cases r with
      | cons r1 r2 =>
        replace n : (okD m d && okL m l) = true := n
        rw [Bool.and_eq_true] at n
        obtain ⟨as, q1⟩ := RD.readsP I hK d m _ _ n.1 h1 r1
        obtain ⟨bs, q3⟩ := RD.readsLP I hK l m _ _ n.2 h2 r2
        exact ⟨_, ReadsAll.cons q1 q3⟩
end
end

/-! ### order -/
mutual
theorem alike_toPy : ∀ d e : D, alk d e = true → PySem.W.alike (toPy d) (toPy e) = true
  | .non, e, h => by cases e <;> first | rfl | (cases h; done)
  | .bl _, e, h => by cases e <;> first | rfl | (cases h; done)
  | .int _, e, h => by cases e <;> first | rfl | (cases h; done)
  | .str _, e, h => by cases e <;> first | rfl | (cases h; done)
  | .lst l, e, h => by
    cases e <;> first | (cases h; done) | skip
    exact alikeL_toPy l _ h
  | .tup l, e, h => by
    cases e <;> first | (cases h; done) | skip
    exact alikeL_toPy l _ h
  | .dic _ _, _, h => by cases h
  | .set _, _, h => by cases h
  | .fn _, _, h => by cases h
  | .exc _ _, _, h => by cases h
theorem alikeL_toPy : ∀ l m : List D, alkL l m = true → PySem.W.alikeAll (toPyL l) (toPyL m) = true
  | [], [], _ => rfl
  | [], _ :: _, _ => rfl
  | _ :: _, [], _ => rfl
  | d :: l, e :: m, h => by
    replace h : (alk d e && alkL l m) = true := h
    rw [Bool.and_eq_true] at h
    show (PySem.W.alike (toPy d) (toPy e) && PySem.W.alikeAll (toPyL l) (toPyL m)) = true
    rw [alike_toPy d e h.1, alikeL_toPy l m h.2]; rfl
end
mutual
theorem alk_comm : ∀ d e : D, alk d e = alk e d
  | .non, e => by cases e <;> rfl
  | .bl _, e => by cases e <;> rfl
  | .int _, e => by cases e <;> rfl
  | .str _, e => by cases e <;> rfl
  | .lst l, e => by
    cases e <;> first | rfl | skip
    exact alkL_comm l _
  | .tup l, e => by
    cases e <;> first | rfl | skip
    exact alkL_comm l _
  | .dic _ _, e => by cases e <;> rfl
  | .set _, e => by cases e <;> rfl
  | .fn _, e => by cases e <;> rfl
  | .exc _ _, e => by cases e <;> rfl
theorem alkL_comm : ∀ l m : List D, alkL l m = alkL m l
  | [], [] => rfl
  | [], _ :: _ => rfl
  | _ :: _, [] => rfl
  | d :: l, e :: m => by
    show (alk d e && alkL l m) = (alk e d && alkL m l)
    rw [alk_comm d e, alkL_comm l m]
end
theorem lexNil (l : List (Int ⊕ List Nat)) : True := trivial
mutual
theorem dataLt_toPy : ∀ (d e : D) (n m : Nat), okD n d = true → okD m e = true → alk d e = true → d ≠ .non → PySem.W.dataLt (toPy d) (toPy e) = ltT d e
  | .non, _, _, _, _, _, _, z => absurd rfl z
  | .bl a, e, _, _, _, _, h, _ => by
    cases e <;> first | (cases h; done) | skip
    exact (PySem.W.dataLt_bool a _).trans (by simp only [ltT]; cases a <;> rename_i b _ _ <;> cases b <;> rfl)
  | .int a, e, _, _, _, _, h, _ => by
    cases e <;> first | (cases h; done) | skip
    exact PySem.W.dataLt_int _ _
  | .str a, e, _, _, _, _, h, _ => by
    cases e <;> first | (cases h; done) | skip
    refine (PySem.W.dataLt_str _ _).trans ?_
    simp [ltT]
  | .lst l, e, n, m, k1, k2, h, _ => by
    cases e <;> first | (cases h; done) | skip
    cases n <;> first | (cases k1; done) | skip
    cases m <;> first | (cases k2; done) | skip
    exact (PySem.W.dataLt_list _ _).trans (dataLtL_toPy l _ _ _ k1 k2 h)
  | .tup l, e, n, m, k1, k2, h, _ => by
    cases e <;> first | (cases h; done) | skip
    cases n <;> first | (cases k1; done) | skip
    cases m <;> first | (cases k2; done) | skip
    exact (PySem.W.dataLt_tuple _ _).trans (dataLtL_toPy l _ _ _ k1 k2 h)
  | .dic _ _, _, _, _, h, _, _, _ => by cases h
  | .set _, _, _, _, h, _, _, _ => by cases h
  | .fn _, _, _, _, h, _, _, _ => by cases h
  | .exc _ _, _, _, _, h, _, _, _ => by cases h
theorem dataLtL_toPy : ∀ (l k : List D) (n m : Nat), okL n l = true → okL m k = true → alkL l k = true → PyProof.Rows.lexLt itemOrd (PySem.W.keyToksAll (toPyL l)) (PySem.W.keyToksAll (toPyL k)) = ltTL l k
  | [], [], _, _, _, _, _ => by decide
  | [], e :: k, _, _, _, _, _ => by
    show PyProof.Rows.lexLt itemOrd [Sum.inl 0] (PySem.W.keyToksAll (toPy e :: toPyL k)) = true
    rw [PySem.W.toks_all_cons]
    rfl
  | d :: l, [], _, _, _, _, _ => by
    show PyProof.Rows.lexLt itemOrd (PySem.W.keyToksAll (toPy d :: toPyL l)) [Sum.inl 0] = false
    rw [PySem.W.toks_all_cons]
    rfl
  | d :: l, e :: k, n, m, k1, k2, h => by
    replace h : (alk d e && alkL l k) = true := h
    replace k1 : (okD n d && okL n l) = true := k1
    replace k2 : (okD m e && okL m k) = true := k2
    rw [Bool.and_eq_true] at h k1 k2
    show PyProof.Rows.lexLt itemOrd (PySem.W.keyToksAll (toPy d :: toPyL l)) (PySem.W.keyToksAll (toPy e :: toPyL k)) = if eqD d e then ltTL l k else ltT d e
    have al := alike_toPy d e h.1
    have ev := eqv_toPy d e n m k1.1 k2.1
    by_cases q : eqD d e = true
    · rw [if_pos q, PySem.W.dataLt_all_yes al (ev.trans q)]
      exact dataLtL_toPy l k n m k1.2 k2.2 h.2
    · have q' : eqD d e = false := by simpa using q
      rw [if_neg q, PySem.W.dataLt_all_no al (ev.trans q')]
      have hn : d ≠ .non := fun z => by
        subst z
        cases e <;> first | (cases h.1; done) | exact q rfl
      exact dataLt_toPy d e n m k1.1 k2.1 h.1 hn
end
end Pz
end
section
set_option Elab.async false
set_option linter.all false
/-! The comparisons. -/
namespace Pz
open PySem PySem.Spec PyProof.Rows L2

section
variable {c : Cf} {W : WX} {Y : Cx} {n m : Nat} {X : Tx}
/-- a comparison of what is read -/
def rD (X : Tx) (g : D → D → Option Bool) : R2 := fun x y H Q => ∃ d e b, RD X H x d ∧ RD X H y e ∧ g d e = some b ∧ Q (.bl b) H
theorem CmpR.of {op : CmpOp} {g : D → D → Option Bool} (h : OpR Y (compareOp op) (rD c.X g)) : CmpR c Y op n m g :=
  ⟨_, h, fun H F x y d1 d2 b A B s o1 o2 e Q q => ⟨d1, d2, b, o1.read s, o2.read s, e, q⟩⟩
theorem ite_some {α : Type} {p : Bool} {a b : α} (h : (if p then some a else none) = some b) : p = true ∧ a = b := by
  cases p with
  | true => exact ⟨rfl, Option.some.inj h⟩
  | false => cases h
theorem op_eqR (hK : Y.K = X.K) (hu : Y.A.units + 65 < cLine) : OpR Y (compareOp .Eq) (rD X (cmpB .eq)) := by
  intro pins s σ H x y v u Q I rx ry ⟨d, e, b, r1, r2, h, q⟩
  obtain ⟨h0, rfl⟩ := ite_some (show (if okD 60 d && okD 60 e then some (eqD d e) else none) = some b from h)
  rw [Bool.and_eq_true] at h0
  obtain ⟨as, q1⟩ := r1.readsP I hK d 60 x v h0.1 rx
  obtain ⟨bs, q2⟩ := r2.readsP I hK e 60 y u h0.2 ry
  have p1 := okD_plain d 60 h0.1
  have p2 := okD_plain e 60 h0.2
  exact SeqAt.eq_plain q1 q2 p1.1 p2.1 (by omega) ⟨.bl _, H, I, by rw [eqv_toPy d e 60 60 h0.1 h0.2]; rfl, q⟩
theorem op_neR (hK : Y.K = X.K) (hu : Y.A.units + 65 < cLine) : OpR Y (compareOp .NotEq) (rD X (cmpB .ne)) := by
  intro pins s σ H x y v u Q I rx ry ⟨d, e, b, r1, r2, h, q⟩
  obtain ⟨b', h1, rfl⟩ := Option.map_eq_some_iff.mp (show (eqO d e).map (!·) = some b from h)
  obtain ⟨h0, rfl⟩ := ite_some (show (if okD 60 d && okD 60 e then some (eqD d e) else none) = some b' from h1)
  rw [Bool.and_eq_true] at h0
  obtain ⟨as, q1⟩ := r1.readsP I hK d 60 x v h0.1 rx
  obtain ⟨bs, q2⟩ := r2.readsP I hK e 60 y u h0.2 ry
  have p1 := okD_plain d 60 h0.1
  have p2 := okD_plain e 60 h0.2
  exact SeqAt.ne_plain q1 q2 p1.1 p2.1 (by omega) ⟨.bl _, H, I, by rw [eqv_toPy d e 60 60 h0.1 h0.2]; rfl, q⟩
theorem nonD_ne {d : D} (h : (!isNonD d) = true) : d ≠ .non := fun z => by subst z; cases h
theorem toPy_ne_none {d e : D} (h : d ≠ .non) (a : alk d e = true) : toPy d ≠ .none := by
  cases d <;> first | exact absurd rfl h | (cases a; done) | (intro z; cases z)
/-- two of one kind, not None -/
theorem ltG_inv {d e : D} {b : Bool} (h : ltG d e = some b) : alk d e = true ∧ d ≠ .non ∧ okD 60 d = true ∧ okD 60 e = true ∧ ltT d e = b := by
  obtain ⟨h0, rfl⟩ := ite_some h
  simp only [Bool.and_eq_true] at h0
  exact ⟨h0.1.1.1, nonD_ne h0.1.1.2, h0.1.2, h0.2, rfl⟩
theorem ltO_G {d e : D} {b : Bool} (h : ltO d e = some b) : ltG d e = some b := by
  cases d <;> first | exact h | skip
  · cases e <;> first | (cases h; done) | exact h
  · cases e <;> first | (cases h; done) | exact h
theorem leO_G {d e : D} {b : Bool} (h : leO d e = some b) : ∃ b', ltG e d = some b' ∧ b = !b' := by
  cases d <;> try (replace h : (ltG e _).map (!·) = some b := h; obtain ⟨b', h1, rfl⟩ := Option.map_eq_some_iff.mp h; exact ⟨b', h1, rfl⟩)
  · cases e <;> first | (cases h; done) | skip
    rename_i i j
    cases h
    refine ⟨decide (j < i), rfl, ?_⟩
    by_cases z : i ≤ j
    · rw [decide_eq_true z, decide_eq_false (by omega)]; rfl
    · rw [decide_eq_false z, decide_eq_true (by omega)]; rfl
  · cases e <;> first | (cases h; done) | skip
    cases h
    exact ⟨_, rfl, rfl⟩
theorem alk_non {d e : D} (h : alk d e = true) (z : e ≠ .non) : d ≠ .non := fun w => by
  subst w
  cases e <;> first | (cases h; done) | exact z rfl
theorem op_ltR (hK : Y.K = X.K) (hu : Y.A.units + 65 < cLine) : OpR Y (compareOp .Lt) (rD X (cmpB .lt)) := by
  intro pins s σ H x y v u Q I rx ry ⟨d, e, b, r1, r2, h, q⟩
  obtain ⟨h1, h2, h3, h4, rfl⟩ := ltG_inv (ltO_G h)
  obtain ⟨as, q1⟩ := r1.readsP I hK d 60 x v h3 rx
  obtain ⟨bs, q2⟩ := r2.readsP I hK e 60 y u h4 ry
  have p1 := (okD_plain d 60 h3).2
  exact PySem.W.lt_data q1 q2 (alike_toPy d e h1) (toPy_ne_none h2 h1) (by omega) ⟨.bl _, H, I, by rw [dataLt_toPy d e 60 60 h3 h4 h1 h2]; rfl, q⟩
theorem op_gtR (hK : Y.K = X.K) (hu : Y.A.units + 65 < cLine) : OpR Y (compareOp .Gt) (rD X (cmpB .gt)) := by
  intro pins s σ H x y v u Q I rx ry ⟨d, e, b, r1, r2, h, q⟩
  obtain ⟨h1, h2, h3, h4, rfl⟩ := ltG_inv (ltO_G h)
  obtain ⟨as, q1⟩ := r1.readsP I hK d 60 x v h4 rx
  obtain ⟨bs, q2⟩ := r2.readsP I hK e 60 y u h3 ry
  have p1 := (okD_plain d 60 h4).2
  have h1' : alk d e = true := (alk_comm d e).trans h1
  exact PySem.W.gt_data q1 q2 (alike_toPy d e h1') (toPy_ne_none (alk_non h1' h2) h1') (by omega) ⟨.bl _, H, I, by rw [dataLt_toPy e d 60 60 h3 h4 h1 h2]; rfl, q⟩
theorem op_leR (hK : Y.K = X.K) (hu : Y.A.units + 65 < cLine) : OpR Y (compareOp .LtE) (rD X (cmpB .le)) := by
  intro pins s σ H x y v u Q I rx ry ⟨d, e, b, r1, r2, h, q⟩
  obtain ⟨b', hh, rfl⟩ := leO_G h
  obtain ⟨h1, h2, h3, h4, rfl⟩ := ltG_inv hh
  obtain ⟨as, q1⟩ := r1.readsP I hK d 60 x v h4 rx
  obtain ⟨bs, q2⟩ := r2.readsP I hK e 60 y u h3 ry
  have p1 := (okD_plain d 60 h4).2
  have h1' : alk d e = true := (alk_comm d e).trans h1
  exact PySem.W.le_data q1 q2 (alike_toPy d e h1') (toPy_ne_none (alk_non h1' h2) h1') (by omega) ⟨.bl _, H, I, by rw [dataLt_toPy e d 60 60 h3 h4 h1 h2]; rfl, q⟩
theorem op_geR (hK : Y.K = X.K) (hu : Y.A.units + 65 < cLine) : OpR Y (compareOp .GtE) (rD X (cmpB .ge)) := by
  intro pins s σ H x y v u Q I rx ry ⟨d, e, b, r1, r2, h, q⟩
  obtain ⟨b', hh, rfl⟩ := leO_G h
  obtain ⟨h1, h2, h3, h4, rfl⟩ := ltG_inv hh
  obtain ⟨as, q1⟩ := r1.readsP I hK d 60 x v h3 rx
  obtain ⟨bs, q2⟩ := r2.readsP I hK e 60 y u h4 ry
  have p1 := (okD_plain d 60 h3).2
  exact PySem.W.ge_data q1 q2 (alike_toPy d e h1) (toPy_ne_none h2 h1) (by omega) ⟨.bl _, H, I, by rw [dataLt_toPy d e 60 60 h3 h4 h1 h2]; rfl, q⟩
theorem memD_any (x : D) : ∀ (l : List D) (n m : Nat), okD n x = true → okL m l = true → ((toPyL l).any fun z => PyData.eqv z (toPy x)) = memD x l
  | [], _, _, _, _ => rfl
  | y :: l, n, m, h1, h2 => by
    replace h2 : (okD m y && okL m l) = true := h2
    rw [Bool.and_eq_true] at h2
    show (PyData.eqv (toPy y) (toPy x) || (toPyL l).any fun z => PyData.eqv z (toPy x)) = _
    rw [eqv_toPy y x m n h2.1 h1, memD_any x l n m h1 h2.2]
    rfl
theorem inR_all (hK : Y.K = X.K) (hu : Y.A.units + 65 < cLine) {pins : List (Addr × Obj)} {s : Shared} {σ : Sl} {H : Hp} {x y : V} {v u : Value} (I : Inv Y pins σ H s) (rx : RelV x v) (ry : RelV y u) {d e : D} {b : Bool} (r1 : RD X H x d) (r2 : RD X H y e) (h : inD d e = some b) :
    (∀ (Q : VK), Q (.bl b) H → wpAny (model Y.prog Y.w) Y.A (compareOp .In v u) (EP Y pins σ Q) Y.xe s) ∧ ∀ (Q : VK), Q (.bl (!b)) H → wpAny (model Y.prog Y.w) Y.A (compareOp .NotIn v u) (EP Y pins σ Q) Y.xe s := by
  cases e <;> first | (cases h; done) | skip
  · rename_i z
    cases d <;> first | (cases h; done) | skip
    rename_i w
    match w, h, r1 with
    | [ch], h, r1 =>
      cases h
      have e1 : z.contains ch = decide (ch ∈ (⟨z.toArray⟩ : Str).cps.toList) := by simp
      rw [r1.str_eq] at rx
      rw [r2.str_eq] at ry
      refine ⟨fun Q q => ?_, fun Q q => ?_⟩
      · exact op_in_sign pins s σ H _ _ v u Q I rx ry ⟨ch, ⟨z.toArray⟩, rfl, rfl, by rw [← e1]; exact q⟩
      · exact op_notIn_sign pins s σ H _ _ v u Q I rx ry ⟨ch, ⟨z.toArray⟩, rfl, rfl, by rw [← e1]; exact q⟩
    | [], h, _ => cases h
    | _ :: _ :: _, h, _ => cases h
  · rename_i l
    obtain ⟨h0, rfl⟩ := ite_some (show (if okD 60 d && okL 60 l then some (memD d l) else none) = some b from h)
    rw [Bool.and_eq_true] at h0
    obtain ⟨as, q1⟩ := r1.readsP I hK d 60 x v h0.1 rx
    obtain ⟨bs, q2⟩ := r2.readsP I hK (.lst l) 61 y u h0.2 ry
    have p1 := okD_plain d 60 h0.1
    have p2 := okL_plain l 60 h0.2
    refine ⟨fun Q q => ?_, fun Q q => ?_⟩
    · exact SeqAt.in_list_data q2 q1 p2.1 p1.1 (by omega) ⟨.bl _, H, I, by rw [memD_any d l 60 60 h0.1 h0.2]; rfl, q⟩
    · exact SeqAt.notIn_list_data q2 q1 p2.1 p1.1 (by omega) ⟨.bl _, H, I, by rw [memD_any d l 60 60 h0.1 h0.2]; rfl, q⟩
  · rename_i l
    obtain ⟨h0, rfl⟩ := ite_some (show (if okD 60 d && okL 60 l then some (memD d l) else none) = some b from h)
    rw [Bool.and_eq_true] at h0
    obtain ⟨as, q1⟩ := r1.readsP I hK d 60 x v h0.1 rx
    obtain ⟨bs, q2⟩ := r2.readsP I hK (.tup l) 61 y u h0.2 ry
    have p1 := okD_plain d 60 h0.1
    have p2 := okL_plain l 60 h0.2
    refine ⟨fun Q q => ?_, fun Q q => ?_⟩
    · exact SeqAt.in_tuple_data q2 q1 p2.1 p1.1 (by omega) ⟨.bl _, H, I, by rw [memD_any d l 60 60 h0.1 h0.2]; rfl, q⟩
    · exact SeqAt.notIn_tuple_data q2 q1 p2.1 p1.1 (by omega) ⟨.bl _, H, I, by rw [memD_any d l 60 60 h0.1 h0.2]; rfl, q⟩
theorem op_inR (hK : Y.K = X.K) (hu : Y.A.units + 65 < cLine) : OpR Y (compareOp .In) (rD X (cmpB .isin)) := by
  intro pins s σ H x y v u Q I rx ry ⟨d, e, b, r1, r2, h, q⟩
  exact (inR_all hK hu I rx ry r1 r2 h).1 Q q
theorem op_notInR (hK : Y.K = X.K) (hu : Y.A.units + 65 < cLine) : OpR Y (compareOp .NotIn) (rD X (cmpB .notin)) := by
  intro pins s σ H x y v u Q I rx ry ⟨d, e, b, r1, r2, h, q⟩
  obtain ⟨b', h1, rfl⟩ := Option.map_eq_some_iff.mp (show (inD d e).map (!·) = some b from h)
  exact (inR_all hK hu I rx ry r1 r2 h1).2 Q q
theorem cmp_eq (cx : Ctx c W Y) : CmpR c Y .Eq n m (cmpB .eq) := .of (op_eqR cx.K cx.hu)
theorem cmp_ne (cx : Ctx c W Y) : CmpR c Y .NotEq n m (cmpB .ne) := .of (op_neR cx.K cx.hu)
theorem cmp_lt (cx : Ctx c W Y) : CmpR c Y .Lt n m (cmpB .lt) := .of (op_ltR cx.K cx.hu)
theorem cmp_gt (cx : Ctx c W Y) : CmpR c Y .Gt n m (cmpB .gt) := .of (op_gtR cx.K cx.hu)
theorem cmp_le (cx : Ctx c W Y) : CmpR c Y .LtE n m (cmpB .le) := .of (op_leR cx.K cx.hu)
theorem cmp_ge (cx : Ctx c W Y) : CmpR c Y .GtE n m (cmpB .ge) := .of (op_geR cx.K cx.hu)
theorem cmp_in (cx : Ctx c W Y) : CmpR c Y .In n m (cmpB .isin) := .of (op_inR cx.K cx.hu)
theorem cmp_notin (cx : Ctx c W Y) : CmpR c Y .NotIn n m (cmpB .notin) := .of (op_notInR cx.K cx.hu)
theorem RD.is_non {X : Tx} {H : Hp} {v : V} {d : D} {b : Bool} (r : RD X H v d) (e : isD d .non = some b) : decide (v = .non) = b := by
  cases d <;> first | (cases e; done) | skip
  · cases e; rw [r.non_eq]; rfl
  · cases e; rw [r.bl_eq]; rfl
  · cases e; rw [r.int_eq]; rfl
  · cases e; rw [r.str_eq]; rfl
  · cases e; obtain ⟨a, ps, rfl, _⟩ := r.lst_eq; rfl
  · cases e; obtain ⟨a, ps, rfl, _⟩ := r.tup_eq; rfl
  · cases e; obtain ⟨a, ps, rfl, _⟩ := r.dic_eq; rfl
  · cases e; cases r; rfl
/-- is True, is False of what is no bool -/
def rIsX : R2 := fun x y H Q => ∃ b, y = .bl b ∧ (∀ a, x ≠ .bl a) ∧ Q (.bl false) H
def rNotX : R2 := fun x y H Q => ∃ b, y = .bl b ∧ (∀ a, x ≠ .bl a) ∧ Q (.bl true) H
theorem op_isX {X : Cx} : OpR X (compareOp .Is) rIsX := by
  intro pins s σ H x y v u Q I rx ry h
  obtain ⟨b, rfl, hx, q⟩ := h
  cases (show u = Value.bool b from ry)
  cases x <;> first
    | exact absurd rfl (hx _)
    | (cases rx; exact wpAny_is_other rfl (fun z => by cases z) ⟨.bl false, H, I, rfl, q⟩)
    | (obtain ⟨t, rfl⟩ := rx; exact wpAny_is_other rfl (fun z => by cases z) ⟨.bl false, H, I, rfl, q⟩)
theorem op_notX {X : Cx} : OpR X (compareOp .IsNot) rNotX := by
  intro pins s σ H x y v u Q I rx ry h
  obtain ⟨b, rfl, hx, q⟩ := h
  cases (show u = Value.bool b from ry)
  cases x <;> first
    | exact absurd rfl (hx _)
    | (cases rx; exact wpAny_isNot_other rfl (fun z => by cases z) ⟨.bl true, H, I, rfl, q⟩)
    | (obtain ⟨t, rfl⟩ := rx; exact wpAny_isNot_other rfl (fun z => by cases z) ⟨.bl true, H, I, rfl, q⟩)
theorem isD_bl {d : D} {b2 b : Bool} (e : isD d (.bl b2) = some b) : (∃ b1, d = .bl b1 ∧ b = (b1 == b2)) ∨ ((∀ a, d ≠ .bl a) ∧ b = false) := by
  cases d <;> first | (cases e; done) | (cases e; exact .inl ⟨_, rfl, rfl⟩) | (cases e; exact .inr ⟨fun a => by simp, rfl⟩)
theorem RD.no_bl {X : Tx} {F : Hp} {v : V} {d : D} {b2 b : Bool} (h : RD X F v d) (hd : ∀ a, d ≠ .bl a) (e : isD d (.bl b2) = some b) : ∀ a, v ≠ .bl a := by
  intro a z
  cases d <;> first | (cases e; done) | exact hd _ rfl | skip
  · rw [h.non_eq] at z; cases z
  · rw [h.int_eq] at z; cases z
  · rw [h.str_eq] at z; cases z
  · obtain ⟨_, _, rfl, _⟩ := h.lst_eq; cases z
  · obtain ⟨_, _, rfl, _⟩ := h.tup_eq; cases z
  · obtain ⟨_, _, rfl, _⟩ := h.dic_eq; cases z
theorem cmp_is : CmpR c Y .Is n m (cmpB .is) := ⟨_, (op_isN.or op_isBl).or op_isX, fun H F x y d1 d2 b A B s o1 o2 e Q q => by
  replace e : isD d1 d2 = some b := e
  cases d2 <;> first | (cases e; done) | skip
  · exact .inl (.inl ⟨o2.non_eq, by rw [(o1.read s).is_non e]; exact q⟩)
  · rename_i b2
    rcases isD_bl e with ⟨b1, rfl, rfl⟩ | ⟨hd, rfl⟩
    · refine .inl (.inr ⟨b1, b2, o1.bl_eq, o2.bl_eq, ?_⟩)
      rw [← Bool.beq_eq_decide_eq]; exact q
    · exact .inr ⟨b2, o2.bl_eq, (o1.read s).no_bl hd e, q⟩⟩
theorem cmp_isnot : CmpR c Y .IsNot n m (cmpB .isnot) := ⟨_, (op_notN.or op_notBl).or op_notX, fun H F x y d1 d2 b A B s o1 o2 e Q q => by
  replace e : (isD d1 d2).map (!·) = some b := e
  obtain ⟨b', e', rfl⟩ := Option.map_eq_some_iff.mp e
  cases d2 <;> first | (cases e'; done) | skip
  · exact .inl (.inl ⟨o2.non_eq, by rw [(o1.read s).is_non e']; exact q⟩)
  · rename_i b2
    rcases isD_bl e' with ⟨b1, rfl, rfl⟩ | ⟨hd, rfl⟩
    · refine .inl (.inr ⟨b1, b2, o1.bl_eq, o2.bl_eq, ?_⟩)
      rw [← Bool.beq_eq_decide_eq]; exact q
    · exact .inr ⟨b2, o2.bl_eq, (o1.read s).no_bl hd e', q⟩⟩
end
end Pz
end
section
set_option Elab.async false
set_option linter.all false
/-! Rules: argument lists, displays, subscripts, slices. -/
namespace Pz
open PySem PySem.Spec PyProof.Rows L2

/-- an argument list's values: frozen, or a slot's own value (lent) -/
inductive ArgP (X : Tx) (σ : Sl) (F : Hp) : List (Option Nat) → List V → List D → Prop
  | nil : ArgP X σ F [] [] []
  | frz {ls vs ds v d} : RD X F v d → ArgP X σ F ls vs ds → ArgP X σ F (none :: ls) (v :: vs) (d :: ds)
  | lent {ls vs ds v d i} : σ[i]? = some (some v) → ArgP X σ F ls vs ds → ArgP X σ F (some i :: ls) (v :: vs) (d :: ds)
theorem ArgP.mono {X : Tx} {σ : Sl} {F G : Hp} (s : Sub F G) {ls vs ds} (h : ArgP X σ F ls vs ds) : ArgP X σ G ls vs ds := by
  induction h with
  | nil => exact .nil
  | frz r _ ih => exact .frz (r.mono s) ih
  | lent r _ ih => exact .lent r ih
theorem ArgP.len {X : Tx} {σ : Sl} {F : Hp} {ls vs ds} (h : ArgP X σ F ls vs ds) : vs.length = ls.length ∧ ds.length = ls.length := by
  induction h with
  | nil => exact ⟨rfl, rfl⟩
  | frz r _ ih => exact ⟨congrArg (· + 1) ih.1, congrArg (· + 1) ih.2⟩
  | lent r _ ih => exact ⟨congrArg (· + 1) ih.1, congrArg (· + 1) ih.2⟩
/-- all frozen -/
def allN (ls : List (Option Nat)) : Bool := ls.all (·.isNone)
theorem ArgP.ps {X : Tx} {σ : Sl} {F : Hp} {ls vs ds} (h : ArgP X σ F ls vs ds) (ha : allN ls = true) : ∃ ps : List (V × D), vs = ps.map (·.1) ∧ ds = ps.map (·.2) ∧ ∀ p ∈ ps, RD X F p.1 p.2 := by
  induction h with
  | nil => exact ⟨[], rfl, rfl, fun _ h => absurd h (by simp)⟩
  | @frz ls vs ds v d r _ ih =>
    obtain ⟨ps, e1, e2, e3⟩ := ih (by simpa [allN] using ha)
    exact ⟨(v, d) :: ps, by rw [e1]; rfl, by rw [e2]; rfl, fun p hp => (List.mem_cons.mp hp).elim (fun e => e ▸ r) (e3 p)⟩
  | lent r _ ih => exact absurd ha (by simp [allN])

def tF (c : Cf) (W : WX) (Γ : List Nat) (ls : List (Option Nat)) (pu : Bool) (f : Env → R (List D × Env)) : TA := fun σ H Q =>
  ∃ F A ρ, Rep c.X Γ ρ σ H F A ∧ Run c W σ H F (Own A) (f ρ) fun p => ∀ vs H' F' A', Mid c Γ σ ρ H F A p.2 H' F' A' (fun _ => False) pu → ArgP c.X σ F' ls vs p.1 → Q vs H'
abbrev SA (c : Cf) (W : WX) (Γ : List Nat) (ls : List (Option Nat)) (pu : Bool) (Y : Cx) (es : List Expr) (f : Env → R (List D × Env)) : Prop := PA Y es (tF c W Γ ls pu f)
theorem PA.imp {Y : Cx} {es : List Expr} {t u : TA} (h : PA Y es t) (i : ∀ σ H Q, u σ H Q → t σ H Q) : PA Y es u := ⟨fun p pins s σ H Q I z => h.run p pins s σ H Q I (i σ H Q z)⟩

section
variable {c : Cf} {W : WX} {Γ : List Nat} {Y : Cx} {e a b : Expr} {es : List Expr} {pos : Pos} {k ka kb kc : Kd} {fa fb fc : Env → R (D × Env)} {fs : Env → R (List D × Env)} {n : Nat} {pa pb pc pu : Bool} {ls : List (Option Nat)}

theorem sa_nil : SA c W Γ [] true Y [] (fun ρ => .ok ([], ρ)) := PA.imp pa_nil fun σ H Q ⟨F, A, ρ, r, h⟩ => by
  replace h : ∀ vs H' F' A', Mid c Γ σ ρ H F A ρ H' F' A' (fun _ => False) true → ArgP c.X σ F' [] vs [] → Q vs H' := h
  exact h _ _ _ _ (Mid.refl r) .nil
theorem sa_cons (he : SX c W Γ ⟨true, pa, 0⟩ Y e fa) (hr : SA c W Γ ls pb Y es fs) (hs : starEach (e :: es) Y.env = (false, eval e Y.env) :: starEach es Y.env) :
    SA c W Γ (none :: ls) (pa && pb) Y (e :: es) (fun ρ => (fa ρ).bind fun p => (fs p.2).bind fun q => .ok (p.1 :: q.1, q.2)) :=
  PA.imp (pa_cons he hr hs) fun σ H Q ⟨F, A, ρ, r, h⟩ => tX.one (g := fun d ρ1 => (fs ρ1).bind fun q => .ok (d :: q.1, q.2)) r h fun x H1 F1 A1 d ρ1 B o h1 => by
    refine ⟨F1, A1, ρ1, o.rep, h1.bind.imp fun p _ hp vs H2 F2 A2 m ap => ?_⟩
    replace hp : ∀ vs H' F' A', Mid c Γ σ ρ H F A p.2 H' F' A' (fun _ => False) (pa && pb) → ArgP c.X σ F' (none :: ls) vs (d :: p.1) → Q vs H' := hp
    exact hp _ _ _ _ ((o.mid.trans m).weak (fun _ z => z.elim) fun z => z) (.frz (o.ot.2.mono m.nx.fro) ap)
theorem sa_lent {i : Nat} {x : Str} (hN : Y.N[i]? = some x) (hv : Vis Y.env.scope x) (hd : (x == ("__debug__" : Str)) = false) (hcd : (x == ("__classdict__" : Str)) = false) (hr : SA c W Γ ls pb Y es fs)
    (hs : starEach (.Name x pos :: es) Y.env = (false, eval (.Name x pos) Y.env) :: starEach es Y.env) :
    SA c W Γ (some i :: ls) pb Y (.Name x pos :: es) (fun ρ => ((optR (gt ρ i)).bind fun d => .ok (d, ρ)).bind fun p => (fs p.2).bind fun q => .ok (p.1 :: q.1, q.2)) :=
  PA.imp (pa_cons (pe_var (i := i) hN hv hd hcd) hr hs) fun σ H Q ⟨F, A, ρ, r, h⟩ => by
    dsimp only at h
    rw [bind_assoc] at h
    obtain ⟨d, e, h⟩ := Run.opt h
    obtain ⟨v, ev, o⟩ := r.val i d (gt_ok e)
    replace h : Run c W σ H F (Own A) ((fs ρ).bind fun q => .ok (d :: q.1, q.2)) fun p => ∀ vs H' F' A', Mid c Γ σ ρ H F A p.2 H' F' A' (fun _ => False) pb → ArgP c.X σ F' (some i :: ls) vs p.1 → Q vs H' := h
    refine ⟨v, ev, F, A, ρ, r, h.bind.imp fun p _ hp vs H2 F2 A2 m ap => ?_⟩
    replace hp : ∀ vs H' F' A', Mid c Γ σ ρ H F A p.2 H' F' A' (fun _ => False) pb → ArgP c.X σ F' (some i :: ls) vs (d :: p.1) → Q vs H' := hp
    exact hp _ _ _ _ m (.lent ev ap)
/-- a list read -/
theorem tF.one {β : Type} {g : List D → Env → R β} {ok : β → Prop} {Rr : List V → Hp → Prop} {σ : Sl} {H F : Hp} {A : Nat → List Addr} {ρ : Env} (r : Rep c.X Γ ρ σ H F A)
    (h : Run c W σ H F (Own A) ((fs ρ).bind fun p => g p.1 p.2) ok)
    (kk : ∀ vs H1 F1 A1 ds ρ1, Mid c Γ σ ρ H F A ρ1 H1 F1 A1 (fun _ => False) pu → ArgP c.X σ F1 ls vs ds → Run c W σ H1 F1 (Own A1) (g ds ρ1) ok → Rr vs H1) : tF c W Γ ls pu fs σ H Rr :=
  ⟨F, A, ρ, r, h.bind.imp fun p _ hp vs H' F' A' m ap => kk vs H' F' A' p.1 p.2 m ap (hp.at m.nx0 fun _ z => z)⟩

/-! ### displays -/
theorem small_line (h : ls.length ≤ 1000) : ls.length ≤ sizeLine := by rw [sizeLine_eq]; omega
theorem sx_tup {x1} (h : SA c W Γ ls pu Y es fs) (ha : allN ls = true) (hl : ls.length ≤ 1000) : SX c W Γ ⟨true, pu, 0⟩ Y (.Tuple es x1 pos) (fun ρ => (fs ρ).bind fun p => .ok (.tup p.1, p.2)) :=
  PE.imp (pe_tup h) fun σ H Q ⟨F, A, ρ, r, h⟩ => tF.one (g := fun ds ρ1 => .ok (D.tup ds, ρ1)) r h fun vs H1 F1 A1 ds ρ1 m ap h1 => by
    replace h1 : Ends' c Γ ⟨true, pu, 0⟩ σ ρ H F A Q (.tup ds, ρ1) := h1
    refine ⟨by rw [ap.len.1]; exact small_line hl, fun p hp => ?_⟩
    obtain ⟨ps, e1, e2, e3⟩ := ap.ps ha
    subst e1 e2
    exact h1 _ _ _ _ _ (m.newT hp e3 (fun z => z) rfl)
theorem sx_lst (h : SA c W Γ ls pu Y es fs) (ha : allN ls = true) (hl : ls.length ≤ 1000) : SX c W Γ ⟨true, pu, 1⟩ Y (.List es pos) (fun ρ => (fs ρ).bind fun p => .ok (.lst p.1, p.2)) :=
  PE.imp (pe_lst h) fun σ H Q ⟨F, A, ρ, r, h⟩ => tF.one (g := fun ds ρ1 => .ok (D.lst ds, ρ1)) r h fun vs H1 F1 A1 ds ρ1 m ap h1 => by
    replace h1 : Ends' c Γ ⟨true, pu, 1⟩ σ ρ H F A Q (.lst ds, ρ1) := h1
    refine ⟨by rw [ap.len.1]; exact small_line hl, fun p hp => ?_⟩
    obtain ⟨ps, e1, e2, e3⟩ := ap.ps ha
    subst e1 e2
    exact h1 _ _ _ _ _ (m.newL hp e3 (fun z => z) rfl)

/-! ### subscripts -/
theorem ixI_N (n : Nat) (i : Int) : ixI n i = ixN n i := rfl
theorem map_getI {α β : Type} (f : α → β) (l : List α) (i : Int) {y : β} (h : ((ixI (l.map f).length i).bind fun n => (l.map f)[n]?) = some y) : ∃ x, atI l i = some x ∧ x ∈ l ∧ f x = y := by
  rw [List.length_map] at h
  obtain ⟨n, e1, e2⟩ := Option.bind_eq_some_iff.mp h
  rw [List.getElem?_map] at e2
  obtain ⟨x, e3, e4⟩ := Option.map_eq_some_iff.mp e2
  refine ⟨x, ?_, List.mem_of_getElem? e3, e4⟩
  unfold atI
  rw [← ixI_N, e1]
  exact e3
theorem atI_map {α β : Type} (f : α → β) {l : List α} {i : Int} {x : α} (h : atI l i = some x) : atI (l.map f) i = some (f x) := by
  unfold atI at h ⊢
  obtain ⟨n, e1, e2⟩ := Option.bind_eq_some_iff.mp h
  rw [List.length_map, e1]
  show (l.map f)[n]? = _
  rw [List.getElem?_map, e2]; rfl
def rIxA (K : PySem.W.Frag) : R2 := fun x y H Q => rIxL K x y H Q ∨ rIxT K x y H Q ∨ rIxS x y H Q
theorem ix_all {X : Cx} : IxR X (rIxA X.K) := ix_list.or (ix_tup.or ix_str)
theorem sx_idx (cx : Ctx c W Y) (ha : SX c W Γ ka Y a fa) (hb : SX c W Γ kb Y b fb) (hc : ka.own = true ∨ kb.pu = true) (h1 : ka.lv ≤ 1) (hs : PlainIx b) :
    SX c W Γ ⟨true, ka.pu && kb.pu, 0⟩ Y (.Subscript a b pos) (fun ρ => (fa ρ).bind fun p => (fb p.2).bind fun q => (optR (getD p.1 q.1)).bind fun d => .ok (d, q.2)) :=
  PE.imp (pe_ix ix_all ha hb hs) fun σ H Q ⟨F, A, ρ, rp, h⟩ => tX.two (g := fun d1 d2 ρ2 => (optR (getD d1 d2)).bind fun d => .ok (d, ρ2)) hc rp h fun x y H2 F2 A2 d1 d2 ρ2 B1 B2 t h2' => by
    obtain ⟨d, e, hq⟩ := Run.opt h2'
    replace hq : Ends' c Γ ⟨true, ka.pu && kb.pu, 0⟩ σ ρ H F A Q (d, ρ2) := hq
    rw [cx.K]
    cases d1 <;> first | (cases e; done) | skip
    · rename_i s
      cases d2 <;> first | (cases e; done) | skip
      rename_i i
      replace e : (if s.length ≤ lim then ((ixI s.length i).bind fun n => (s[n]?).map fun c => D.str [c]) else none) = some d := e
      split at e <;> first | (cases e; done) | skip
      rename_i hl
      obtain ⟨n, e1, e2⟩ := Option.bind_eq_some_iff.mp e
      obtain ⟨ch, e3, rfl⟩ := Option.map_eq_some_iff.mp e2
      refine .inr (.inr ⟨⟨s.toArray⟩, i, ch, t.o1.str_eq, t.o2.int_eq, by rw [sV_length, ← line_lim]; exact hl, ?_, hq (sV [ch]) _ _ _ _ (t.mid.val (.str _) (fun z => z) (.inl rfl))⟩)
      unfold atI
      rw [← ixI_N, e1]; exact e3
    · rename_i l
      cases d2 <;> first | (cases e; done) | skip
      rename_i i
      obtain ⟨a1, ps, rfl, rfl, s1, r1⟩ := t.o1.lst1 h1 t.mid.rep.sub
      obtain ⟨p, e1, e2, rfl⟩ := map_getI _ _ _ e
      exact .inl ⟨_, _, i, _, rfl, t.o2.int_eq, s1, atI_map _ e1, hq _ _ _ _ _ (t.mid.val (r1 p e2) (fun z => z) (.inl rfl))⟩
    · rename_i l
      cases d2 <;> first | (cases e; done) | skip
      rename_i i
      obtain ⟨a1, ps, rfl, rfl, s1, r1⟩ := t.o1.tup1 h1 t.mid.rep.sub
      obtain ⟨p, e1, e2, rfl⟩ := map_getI _ _ _ e
      exact .inr (.inl ⟨_, _, i, _, rfl, t.o2.int_eq, s1, atI_map _ e1, hq _ _ _ _ _ (t.mid.val (r1 p e2) (fun z => z) (.inl rfl))⟩)
end
end Pz
end
section
set_option Elab.async false
set_option linter.all false
/-! Statements: the judgement; sequences, plain ends. -/
namespace Pz
open PySem PySem.Spec PyProof.Rows L2

/-- off M the slots stay -/
structure Agree (M : Nat → Bool) (σ σ' : Sl) : Prop where
  len : σ'.length = σ.length
  at_ : ∀ i, M i = false → σ'[i]? = σ[i]?
theorem Agree.refl {M : Nat → Bool} {σ : Sl} : Agree M σ σ := ⟨rfl, fun _ _ => rfl⟩
theorem Agree.trans {M : Nat → Bool} {σ σ1 σ2 : Sl} (a : Agree M σ σ1) (b : Agree M σ1 σ2) : Agree M σ σ2 := ⟨b.len.trans a.len, fun i h => (b.at_ i h).trans (a.at_ i h)⟩
theorem Agree.set {M : Nat → Bool} {σ : Sl} {i : Nat} {v : Option V} (h : M i = true) : Agree M σ (σ.set i v) :=
  ⟨by simp, fun j hj => List.getElem?_set_ne fun e => by rw [e] at h; rw [h] at hj; cases hj⟩
/-- what is wished of exceptions, from slots on that may have changed -/
def WM (W : WX) (M : Nat → Bool) (σ : Sl) : WX := fun cls dx _ H' => ∀ σ', Agree M σ σ' → W cls dx σ' H'
section
variable {c : Cf} {W : WX} {M : Nat → Bool} {σ σ1 σ2 : Sl} {H F H1 F1 H2 F2 : Hp} {P : Addr → Prop} {β : Type} {m : R β} {ok : β → Prop}
theorem Run.wm (h : Run c (WM W M σ) σ2 H F P m ok) (a : Agree M σ σ1) : Run c W σ1 H F P m ok := by
  cases m with
  | ok b => exact h
  | error e =>
    cases e with
    | stuck => exact h
    | exc k fs => exact fun cls dx H' x => h cls dx H' x σ1 a
theorem Run.wms (h : Run c (WM W M σ) σ2 H F P m ok) (a : Agree M σ σ1) : Run c (WM W M σ1) σ1 H F P m ok := by
  cases m with
  | ok b => exact h
  | error e =>
    cases e with
    | stuck => exact h
    | exc k fs => exact fun cls dx H' x σ' b => h cls dx H' x σ' (a.trans b)
end

/-- fixed for a suite: what may change, the levels at a break, a continue, a return; how deep what is returned is owned -/
structure Zd where
  M : Nat → Bool
  Γb : List Nat
  Γc : List Nat
  Γr : List Nat
  rl : Nat

def EndS (c : Cf) (Z : Zd) (Γ' : List Nat) (D : Ends) (σ : Sl) (H F : Hp) (A : Nat → List Addr) : Fl → Prop
  | .nx ρ' => ∀ σ' H' F' A', Agree Z.M σ σ' → Rep c.X Γ' ρ' σ' H' F' A' → Nxt H F (Own A) H' F' (Own A') → D.nx σ' H'
  | .bk ρ' => ∀ σ' H' F' A', Agree Z.M σ σ' → Rep c.X Z.Γb ρ' σ' H' F' A' → Nxt H F (Own A) H' F' (Own A') → D.bk σ' H'
  | .ct ρ' => ∀ σ' H' F' A', Agree Z.M σ σ' → Rep c.X Z.Γc ρ' σ' H' F' A' → Nxt H F (Own A) H' F' (Own A') → D.ct σ' H'
  | .rt d ρ' => ∀ σ' v H' F' A' B, Agree Z.M σ σ' → Rep c.X Z.Γr ρ' σ' H' F' A' → Nxt H F (Own A) H' F' (fun a => Own A' a ∨ a ∈ B) → OT c.X H' F' Z.rl v d B → B.Nodup → (∀ a ∈ B, ¬ Own A' a) → D.rt v H'
def tS (c : Cf) (W : WX) (Z : Zd) (Γ Γ' : List Nat) (f : Env → R Fl) : TS := fun D σ H =>
  ∃ F A ρ, Rep c.X Γ ρ σ H F A ∧ Run c (WM W Z.M σ) σ H F (Own A) (f ρ) (EndS c Z Γ' D σ H F A)
abbrev SS (c : Cf) (W : WX) (Z : Zd) (Γ Γ' : List Nat) (Y : Cx) (s : Stmt) (f : Env → R Fl) : Prop := PS Y s (tS c W Z Γ Γ' f)
abbrev SSs (c : Cf) (W : WX) (Z : Zd) (Γ Γ' : List Nat) (Y : Cx) (s : List Stmt) (f : Env → R Fl) : Prop := PSs Y s (tS c W Z Γ Γ' f)
theorem PS.imp {Y : Cx} {e : Stmt} {t u : TS} (h : PS Y e t) (i : ∀ D σ H, u D σ H → t D σ H) : PS Y e u := ⟨fun pins s σ H D I z => h.run pins s σ H D I (i D σ H z)⟩
theorem PSs.imp {Y : Cx} {e : List Stmt} {t u : TS} (h : PSs Y e t) (i : ∀ D σ H, u D σ H → t D σ H) : PSs Y e u := ⟨fun pins s σ H D I z => h.run pins s σ H D I (i D σ H z)⟩

section
variable {c : Cf} {W : WX} {Z : Zd} {Γ Γ1 Γ' : List Nat} {Y : Cx} {e a b : Expr} {st : Stmt} {sts : List Stmt} {pos : Pos} {k ka kb kc : Kd} {fa fb fc : Env → R (D × Env)} {f g : Env → R Fl} {n : Nat} {pa pb pc pu : Bool} {D : Ends}
  {σ σ1 : Sl} {ρ ρ' ρ1 ρ2 : Env} {H F H' F' H1 F1 H2 F2 : Hp} {A A' A1 A2 : Nat → List Addr} {fl : Fl}
/-- an end, seen from an earlier state -/
theorem EndS.from {P1 : Addr → Prop} (h : EndS c Z Γ' D σ H F A fl) (a : Agree Z.M σ σ1) (n : Nxt H F (Own A) H1 F1 P1) (s : ∀ a, Own A1 a → P1 a) : EndS c Z Γ' D σ1 H1 F1 A1 fl := by
  have n' : Nxt H F (Own A) H1 F1 (Own A1) := n.weak (fun _ h => h) fun a h => .inl (s a h)
  cases fl with
  | nx ρ' => exact fun σ' H' F' A' b r m => h σ' H' F' A' (a.trans b) r (n'.trans m)
  | bk ρ' => exact fun σ' H' F' A' b r m => h σ' H' F' A' (a.trans b) r (n'.trans m)
  | ct ρ' => exact fun σ' H' F' A' b r m => h σ' H' F' A' (a.trans b) r (n'.trans m)
  | rt d ρ' => exact fun σ' v H' F' A' B b r m => h σ' v H' F' A' B (a.trans b) r (n'.trans m)
/-- a statement's reading from a later state -/
theorem tS.go {P1 Q1 : Addr → Prop} (r : Rep c.X Γ1 ρ1 σ1 H1 F1 A1) (a : Agree Z.M σ σ1) (n : Nxt H F (Own A) H1 F1 P1) (s : ∀ a, Own A1 a → P1 a) (h : Run c (WM W Z.M σ) σ H1 F1 (Own A1) (f ρ1) (EndS c Z Γ' D σ H F A)) : tS c W Z Γ1 Γ' f D σ1 H1 :=
  ⟨F1, A1, ρ1, r, (h.wms a).imp fun fl _ e => e.from a n s⟩
theorem ss_nil : SSs c W Z Γ Γ Y [] (fun ρ => .ok (.nx ρ)) := PSs.imp pss_nil fun D σ H ⟨F, A, ρ, r, h⟩ => by
  replace h : EndS c Z Γ D σ H F A (.nx ρ) := h
  exact h σ H F A .refl r Nxt.refl
/-- what follows a statement -/
def seqR (f g : Env → R Fl) : Env → R Fl := fun ρ => (f ρ).bind fun r => match r with
  | .nx ρ' => g ρ'
  | r => .ok r
theorem ss_cons (h1 : SS c W Z Γ Γ1 Y st f) (h2 : SSs c W Z Γ1 Γ' Y sts g) : SSs c W Z Γ Γ' Y (st :: sts) (seqR f g) :=
  PSs.imp (pss_cons h1 h2) fun D σ H ⟨F, A, ρ, r, h⟩ => by
    refine ⟨F, A, ρ, r, Run.imp (Run.bind h) fun fl _ hq => ?_⟩
    cases fl with
    | nx ρ1 =>
      replace hq : Run c (WM W Z.M σ) σ H F (Own A) (g ρ1) (EndS c Z Γ' D σ H F A) := hq
      exact fun σ1 H1 F1 A1 a r1 n => tS.go (Q1 := fun _ => True) r1 a n (fun _ h => h) (hq.at n fun _ h => h)
    | bk ρ1 => exact hq
    | ct ρ1 => exact hq
    | rt d ρ1 => exact hq
/-- levels go down ahead of a statement -/
theorem tS.lev (hl : ∀ i, Γ1.getD i 0 ≤ Γ.getD i 0) (h : tS c W Z Γ Γ' f D σ H) : tS c W Z Γ1 Γ' f D σ H := by
  obtain ⟨F, A, ρ, r, h⟩ := h
  obtain ⟨F1, A1, r1, n1⟩ := r.relevel (Γ' := Γ1) fun i _ _ => hl i
  exact tS.go (Q1 := fun _ => True) r1 .refl n1 (fun _ h => h) (h.at n1 fun _ h => h)
theorem ss_lev (h : SS c W Z Γ1 Γ' Y st f) (hl : ∀ i, Γ1.getD i 0 ≤ Γ.getD i 0) : SS c W Z Γ Γ' Y st f := PS.imp h fun _ _ _ => tS.lev hl
theorem sss_lev (h : SSs c W Z Γ1 Γ' Y sts f) (hl : ∀ i, Γ1.getD i 0 ≤ Γ.getD i 0) : SSs c W Z Γ Γ' Y sts f := PSs.imp h fun _ _ _ => tS.lev hl
/-- .. behind one -/
theorem tS.post (hl : ∀ i, Γ'.getD i 0 ≤ Γ1.getD i 0) (h : tS c W Z Γ Γ' f D σ H) : tS c W Z Γ Γ1 f D σ H := by
  obtain ⟨F, A, ρ, r, h⟩ := h
  refine ⟨F, A, ρ, r, h.imp fun fl _ e => ?_⟩
  cases fl with
  | nx ρ1 =>
    intro σ' H' F' A' a r1 n
    obtain ⟨F2, A2, r2, n2⟩ := r1.relevel (Γ' := Γ') fun i _ _ => hl i
    exact e σ' H' F2 A2 a r2 (n.trans n2)
  | bk ρ1 => exact e
  | ct ρ1 => exact e
  | rt d ρ1 => exact e
theorem ss_post (h : SS c W Z Γ Γ1 Y st f) (hl : ∀ i, Γ'.getD i 0 ≤ Γ1.getD i 0) : SS c W Z Γ Γ' Y st f := PS.imp h fun _ _ _ => tS.post hl
theorem sss_post (h : SSs c W Z Γ Γ1 Y sts f) (hl : ∀ i, Γ'.getD i 0 ≤ Γ1.getD i 0) : SSs c W Z Γ Γ' Y sts f := PSs.imp h fun _ _ _ => tS.post hl

theorem ss_pass : SS c W Z Γ Γ Y (.Pass pos) (fun ρ => .ok (.nx ρ)) := PS.imp ps_pass fun D σ H ⟨F, A, ρ, r, h⟩ => by
  replace h : EndS c Z Γ D σ H F A (.nx ρ) := h
  exact h σ H F A .refl r Nxt.refl
theorem ss_doc {x j pos'} : SS c W Z Γ Γ Y (.Expr (.Constant (.str x) j pos) pos') (fun ρ => .ok (.nx ρ)) := PS.imp ps_doc fun D σ H ⟨F, A, ρ, r, h⟩ => by
  replace h : EndS c Z Γ D σ H F A (.nx ρ) := h
  exact h σ H F A .refl r Nxt.refl
theorem ss_break : SS c W Z Z.Γb Γ' Y (.Break pos) (fun ρ => .ok (.bk ρ)) := PS.imp ps_break fun D σ H ⟨F, A, ρ, r, h⟩ => by
  replace h : EndS c Z Γ' D σ H F A (.bk ρ) := h
  exact h σ H F A .refl r Nxt.refl
theorem ss_continue : SS c W Z Z.Γc Γ' Y (.Continue pos) (fun ρ => .ok (.ct ρ)) := PS.imp ps_continue fun D σ H ⟨F, A, ρ, r, h⟩ => by
  replace h : EndS c Z Γ' D σ H F A (.ct ρ) := h
  exact h σ H F A .refl r Nxt.refl
/-- an expression within a statement -/
theorem tX.inS {β : Type} {g : Pz.D → Env → R β} {ok : β → Prop} {Rr : V → Hp → Prop} (r : Rep c.X Γ ρ σ H F A)
    (h : Run c (WM W Z.M σ) σ H F (Own A) ((fa ρ).bind fun p => g p.1 p.2) ok)
    (kk : ∀ x H1 F1 A1 d ρ1 B, Out c Γ ka σ ρ H F A ρ1 H1 F1 A1 x d B → Run c (WM W Z.M σ) σ H1 F1 (Own A1) (g d ρ1) ok → Rr x H1) : tX c W Γ ka fa σ H Rr :=
  ⟨F, A, ρ, r, (h.bind.wm .refl).imp fun p _ hp v H' F' A' B o => kk v H' F' A' p.1 p.2 B o (hp.at o.nx0 fun _ z => z)⟩
theorem tF.inS {fs : Env → R (List Pz.D × Env)} {ls : List (Option Nat)} {β : Type} {g : List Pz.D → Env → R β} {ok : β → Prop} {Rr : List V → Hp → Prop} (r : Rep c.X Γ ρ σ H F A)
    (h : Run c (WM W Z.M σ) σ H F (Own A) ((fs ρ).bind fun p => g p.1 p.2) ok)
    (kk : ∀ vs H1 F1 A1 ds ρ1, Mid c Γ σ ρ H F A ρ1 H1 F1 A1 (fun _ => False) pu → ArgP c.X σ F1 ls vs ds → Run c (WM W Z.M σ) σ H1 F1 (Own A1) (g ds ρ1) ok → Rr vs H1) : tF c W Γ ls pu fs σ H Rr :=
  ⟨F, A, ρ, r, (h.bind.wm .refl).imp fun p _ hp vs H' F' A' m ap => kk vs H' F' A' p.1 p.2 m ap (hp.at m.nx0 fun _ z => z)⟩
theorem tX2.inS {fc : Env → R (Bool × Env)} {β : Type} {g : Bool → Env → R β} {ok : β → Prop} {Rr : Bool → Hp → Prop} (r : Rep c.X Γ ρ σ H F A)
    (h : Run c (WM W Z.M σ) σ H F (Own A) ((fc ρ).bind fun p => g p.1 p.2) ok)
    (kk : ∀ x H1 F1 A1 ρ1, Mid c Γ σ ρ H F A ρ1 H1 F1 A1 (fun _ => False) pu → Run c (WM W Z.M σ) σ H1 F1 (Own A1) (g x ρ1) ok → Rr x H1) : tX2 c W Γ pu fc σ H Rr :=
  ⟨F, A, ρ, r, (h.bind.wm .refl).imp fun p _ hp H' F' A' m => kk p.1 H' F' A' p.2 m (hp.at m.nx0 fun _ z => z)⟩
/-- an expression alone -/
theorem ss_exp (h : SX c W Γ k Y e fa) (hs : swapsWith e none pos.line Y.env = pure false) : SS c W Z Γ Γ Y (.Expr e pos) (fun ρ => (fa ρ).bind fun p => .ok (.nx p.2)) :=
  PS.imp (ps_expr h hs) fun D σ H ⟨F, A, ρ, r, h⟩ => tX.inS (g := fun _ ρ1 => (.ok (.nx ρ1) : R Fl)) r h fun x H1 F1 A1 d ρ1 B o h1 => by
    replace h1 : EndS c Z Γ D σ H F A (.nx ρ1) := h1
    exact h1 σ H1 F1 A1 .refl o.rep o.nx0
theorem ss_ret (h : SX c W Γ ⟨true, pa, Z.rl⟩ Y e fa) (hl : ∀ i, Z.Γr.getD i 0 ≤ Γ.getD i 0) : SS c W Z Γ Γ' Y (.Return (some e) pos) (fun ρ => (fa ρ).bind fun p => .ok (.rt p.1 p.2)) :=
  PS.imp (ps_ret h) fun D σ H ⟨F, A, ρ, r, h⟩ => tX.inS (g := fun d ρ1 => (.ok (.rt d ρ1) : R Fl)) r h fun x H1 F1 A1 d ρ1 B o h1 => by
    replace h1 : EndS c Z Γ' D σ H F A (.rt d ρ1) := h1
    obtain ⟨F2, A2, r2, n2⟩ := o.rep.relevel (Γ' := Z.Γr) fun i _ _ => hl i
    have dj : ∀ a ∈ B, ¬ Own A1 a := o.dj rfl
    have nb : ∀ a ∈ B, ¬ Own A2 a := fun a ha z => (n2.own a z).elim (dj a ha) (o.ot.dom a ha).1
    have n3 : Nxt H F (Own A) H1 F2 (fun a => Own A2 a ∨ a ∈ B) := (o.mid.nx.trans (n2.beside (B := fun a => true = true ∧ a ∈ B))).weak (fun _ h => h) fun a z => .inl (z.imp (fun z => z) fun z => ⟨rfl, z⟩)
    exact h1 σ x H1 F2 A2 B .refl r2 n3 (o.ot.step n2 dj) (o.nd rfl) nb
theorem ss_retN (hl : ∀ i, Z.Γr.getD i 0 ≤ Γ.getD i 0) : SS c W Z Γ Γ' Y (.Return none pos) (fun ρ => .ok (.rt .non ρ)) :=
  PS.imp ps_retN fun D σ H ⟨F, A, ρ, r, h⟩ => by
    replace h : EndS c Z Γ' D σ H F A (.rt .non ρ) := h
    obtain ⟨F2, A2, r2, n2⟩ := r.relevel (Γ' := Z.Γr) fun i _ _ => hl i
    exact h σ .non H F2 A2 [] .refl r2 (n2.weak (fun _ h => h) fun a z => .inl (z.elim (fun z => z) fun z => absurd z (by simp))) (.atom .non rfl) List.nodup_nil fun _ z => absurd z (by simp)
/-- if -/
theorem ss_if {p q : List Stmt} {fc : Env → R (Bool × Env)} (hc : SC c W Γ pc Y e fc) (ha : SSs c W Z Γ Γ' Y p f) (hb : SSs c W Z Γ Γ' Y q g) :
    SS c W Z Γ Γ' Y (.If e p q pos) (fun ρ => (fc ρ).bind fun t => if t.1 then f t.2 else g t.2) :=
  PS.imp (ps_if hc ha hb) fun D σ H ⟨F, A, ρ, r, h⟩ => tX2.inS (pu := pc) (g := fun b ρ1 => if b then f ρ1 else g ρ1) r h fun x H1 F1 A1 ρ1 m h1 => by
    cases x with
    | true => exact tS.go (Q1 := fun _ => True) m.rep .refl m.nx0 (fun _ h => h) h1
    | false => exact tS.go (Q1 := fun _ => True) m.rep .refl m.nx0 (fun _ h => h) h1
end
end Pz
end
section
set_option Elab.async false
set_option linter.all false
/-! Targets, walks, loops. -/
namespace Pz
open PySem PySem.Spec PyProof.Rows L2

/-! ### targets -/
def tG (c : Cf) (W : WX) (Z : Zd) (Γ Γ' : List Nat) (g : D → Env → R Env) : TG := fun v σ H Q =>
  ∃ F A ρ d, Rep c.X Γ ρ σ H F A ∧ RD c.X F v d ∧ Run c (WM W Z.M σ) σ H F (Own A) (g d ρ) fun ρ' => ∀ σ' H' F' A', Agree Z.M σ σ' → Rep c.X Γ' ρ' σ' H' F' A' → Nxt H F (Own A) H' F' (Own A') → Q σ' H'
abbrev SG (c : Cf) (W : WX) (Z : Zd) (Γ Γ' : List Nat) (Y : Cx) (e : Expr) (g : D → Env → R Env) : Prop := PG Y e (tG c W Z Γ Γ' g)
def tGs (c : Cf) (W : WX) (Z : Zd) (Γ Γ' : List Nat) (g : List D → Env → R Env) : TGs := fun vs σ H Q =>
  ∃ F A ρ, ∃ ps : List (V × D), vs = ps.map (·.1) ∧ Rep c.X Γ ρ σ H F A ∧ (∀ p ∈ ps, RD c.X F p.1 p.2) ∧ Run c (WM W Z.M σ) σ H F (Own A) (g (ps.map (·.2)) ρ) fun ρ' => ∀ σ' H' F' A', Agree Z.M σ σ' → Rep c.X Γ' ρ' σ' H' F' A' → Nxt H F (Own A) H' F' (Own A') → Q σ' H'
abbrev SGs (c : Cf) (W : WX) (Z : Zd) (Γ Γ' : List Nat) (Y : Cx) (es : List Expr) (g : List D → Env → R Env) : Prop := PGs Y es (tGs c W Z Γ Γ' g)
theorem PG.imp {Y : Cx} {e : Expr} {t u : TG} (h : PG Y e t) (i : ∀ v σ H Q, u v σ H Q → t v σ H Q) : PG Y e u := ⟨fun pins s σ H v w Q I r z => h.run pins s σ H v w Q I r (i v σ H Q z)⟩
theorem PGs.imp {Y : Cx} {e : List Expr} {t u : TGs} (h : PGs Y e t) (i : ∀ v σ H Q, u v σ H Q → t v σ H Q) : PGs Y e u := ⟨fun pins s σ H v w Q I r z => h.run pins s σ H v w Q I r (i v σ H Q z)⟩

section
variable {c : Cf} {W : WX} {Z : Zd} {Γ Γ1 Γ' : List Nat} {Y : Cx} {e a b : Expr} {es : List Expr} {pos : Pos} {σ σ1 : Sl} {ρ ρ' ρ1 ρ2 : Env} {H F H' F' H1 F1 H2 F2 : Hp} {A A' A1 A2 : Nat → List Addr} {v : V} {d : D} {B : List Addr}
/-- a slot gets an own value -/
theorem Rep.store {i n : Nat} (r : Rep c.X Γ ρ σ H F A) (hg : i < Γ.length) (o : OT c.X H F n v d B) (nb : B.Nodup) (dj : ∀ a ∈ B, ¬ Own A a) :
    ∃ A', Rep c.X (Γ.set i n) (st ρ i d) (σ.set i (some v)) H F A' ∧ ∀ a, Own A' a → Own A a ∨ a ∈ B := by
  by_cases hi : i < ρ.length
  · exact ⟨_, r.put hi hg o nb fun a ha j _ z => dj a ha ⟨j, z⟩, fun a ⟨j, h⟩ => by
      by_cases e : j = i
      · simp only [e, if_true] at h; exact .inr h
      · simp only [e, if_false] at h; exact .inl ⟨j, h⟩⟩
  · have e1 : st ρ i d = ρ := List.set_eq_of_length_le (by omega)
    have e2 : σ.set i (some v) = σ := List.set_eq_of_length_le (by rw [← r.len]; omega)
    rw [e1, e2]
    refine ⟨A, ⟨r.sub, r.len, fun j d' hj => ?_, r.non, r.nd, r.dis⟩, fun a h => .inl h⟩
    have : j < ρ.length := (List.getElem?_eq_some_iff.mp hj).1
    rw [getD_set_ne (by omega)]
    exact r.val j d' hj
theorem sg_name {i : Nat} {x : Str} (hN : Y.N.Nodup) (hi : Y.N[i]? = some x) (hx : Loc Y.env.scope x) (hf : Y.fn x = true ∨ Y.env.scope.names.lookup x = some .local) (hg : i < Γ.length) (hM : Z.M i = true) :
    SG c W Z Γ (Γ.set i 0) Y (.Name x pos) (fun d ρ => .ok (st ρ i d)) :=
  PG.imp (pg_name hN hi hx hf) fun v σ H Q ⟨F, A, ρ, d, r, rd, h⟩ => by
    replace h : ∀ σ' H' F' A', Agree Z.M σ σ' → Rep c.X (Γ.set i 0) (st ρ i d) σ' H' F' A' → Nxt H F (Own A) H' F' (Own A') → Q σ' H' := h
    obtain ⟨A', r', o'⟩ := r.store hg (n := 0) (B := []) ⟨rfl, rd⟩ List.nodup_nil fun _ z => absurd z (by simp)
    exact h _ H F A' (.set hM) r' (Nxt.refl.weak (fun _ h => h) fun a z => .inl ((o' a z).elim (fun z => z) fun z => absurd z (by simp)))
theorem sgs_nil : SGs c W Z Γ Γ Y [] (fun l ρ => if l.isEmpty then .ok ρ else bad) := PGs.imp pgs_nil fun vs σ H Q ⟨F, A, ρ, ps, e, r, rd, h⟩ => by
  cases ps with
  | nil =>
    replace h : ∀ σ' H' F' A', Agree Z.M σ σ' → Rep c.X Γ ρ σ' H' F' A' → Nxt H F (Own A) H' F' (Own A') → Q σ' H' := h
    exact ⟨e, h σ H F A .refl r Nxt.refl⟩
  | cons p ps => exact h.elim
def consG (g : D → Env → R Env) (gs : List D → Env → R Env) : List D → Env → R Env := fun l ρ => (match l with
  | x :: l => (g x ρ).bind fun ρ' => gs l ρ'
  | [] => bad)
theorem sgs_cons {g : D → Env → R Env} {gs : List D → Env → R Env} (h1 : SG c W Z Γ Γ1 Y e g) (h2 : SGs c W Z Γ1 Γ' Y es gs)
    (hh : (assignEach (e :: es) Y.env).map (·.2) = assign e Y.env :: (assignEach es Y.env).map (·.2)) : SGs c W Z Γ Γ' Y (e :: es) (consG g gs) :=
  PGs.imp (pgs_cons h1 h2 hh) fun vs σ H Q ⟨F, A, ρ, ps, e, r, rd, h⟩ => by
    cases ps with
    | nil => exact h.elim
    | cons p ps =>
      subst e
      refine ⟨p.1, ps.map (·.1), rfl, F, A, ρ, p.2, r, rd p List.mem_cons_self, Run.imp (Run.bind h) fun ρ1 _ hq σ1 H1 F1 A1 ag r1 n1 => ?_⟩
      exact ⟨F1, A1, ρ1, ps, rfl, r1, fun q hq => (rd q (List.mem_cons_of_mem _ hq)).mono n1.fro, ((hq.at n1 fun _ h => h).wms ag).imp fun ρ2 _ k σ2 H2 F2 A2 b r2 n2 => k σ2 H2 F2 A2 (ag.trans b) r2 (n1.trans n2)⟩
theorem sg_tup {g : List D → Env → R Env} {kk n : Nat} (cx : Ctx c W Y) (h : SGs c W Z Γ Γ' Y es g) (hn : (assignEach es Y.env).length = n) (hst : (assignEach es Y.env).findIdx? (·.1) = none) :
    SG c W Z Γ Γ' Y (.Tuple es kk pos) (fun d ρ => (optR (itemsT n d)).bind fun l => g l ρ) :=
  PG.imp (pg_tup cx.calm h hn hst) fun v σ H Q ⟨F, A, ρ, d, r, rd, h⟩ => by
    obtain ⟨l, e, hh⟩ := Run.opt h
    cases d <;> first | (cases e; done) | skip
    rename_i l'
    replace e : (if l'.length = n then some l' else none) = some l := e
    split at e <;> cases e
    rename_i hl
    obtain ⟨a, ps, rfl, rfl, s, rr⟩ := rd.tup_eq
    rw [cx.K]
    exact ⟨a, _, rfl, r.sub.sqT s, by simpa using hl, F, A, ρ, ps, rfl, r, rr, hh⟩

/-! ### walks -/
/-- the items of a walk are those of l, frozen -/
def Iters (X : Tx) (F1 : Hp) (J : It) (l : List D) : Prop :=
  ∃ G : Hp → Prop, (∀ H', Sub F1 H' → G H') ∧ Walk J l.length G fun i H x H' => ∀ F', Sub F1 F' → Sub F' H → ∀ d, l[i]? = some d → ∃ F'', Sub H H' ∧ Sub F' F'' ∧ Sub F'' H' ∧ (∀ a, F'' a ≠ none → F' a ≠ none ∨ H a = none) ∧ RD X F'' x d
def tI (c : Cf) (W : WX) (Γ : List Nat) (pu : Bool) (f : Env → R (List D × Env)) : TI := fun σ H Rr =>
  ∃ F A ρ, Rep c.X Γ ρ σ H F A ∧ Run c W σ H F (Own A) (f ρ) fun p => ∀ J H1 F1 A1, Mid c Γ σ ρ H F A p.2 H1 F1 A1 (fun _ => False) pu → Iters c.X F1 J p.1 → Rr J H1
abbrev SI (c : Cf) (W : WX) (Γ : List Nat) (pu : Bool) (Y : Cx) (tg e : Expr) (f : Env → R (List D × Env)) : Prop := PI Y tg e (tI c W Γ pu f)
theorem PI.imp {Y : Cx} {tg e : Expr} {t u : TI} (h : PI Y tg e t) (i : ∀ σ H Q, u σ H Q → t σ H Q) : PI Y tg e u := ⟨fun pins s σ H Q I z => h.run pins s σ H Q I (i σ H Q z)⟩

/-- a list, a tuple, a text -/
def iSeq (K : PySem.W.Frag) (te : TE) : TI := fun σ H Rr => te σ H fun x H1 => (∃ a, x = .ref a ∧ (∃ xs, SqL K H1 a xs) ∧ Rr (Itl K a) H1) ∨ (∃ a, x = .ref a ∧ (∃ xs, SqT K H1 a xs) ∧ Rr (Itt K a) H1) ∨ ∃ z, x = .str z ∧ Rr (Its z) H1
theorem pi_seq {tg l : Expr} {tl : TE} (hl : PE Y l tl) : PI Y tg l (iSeq Y.K tl) := by
  refine ⟨fun pins s σ H Rr I h => ?_⟩
  refine thn (hl.run pins s σ H _ I h) fun v s1 ⟨x, H1, I1, r1, q1⟩ => ?_
  rcases q1 with ⟨a, e, ⟨xs, hq⟩, q⟩ | ⟨a, e, ⟨xs, hq⟩, q⟩ | ⟨z, ex, q⟩
  · subst e
    cases r1
    obtain ⟨its, rv, p, hz⟩ := I1.list hq
    refine wpAny_pyIter_list p.isList ?_
    refine ⟨s1.heap.objs.size, [s1.heap.objs.size], _, _, H1, rfl, I1.kept (t' := s1.toks) fun b o e => Heap.get?_push_of_some _ e, turn_list a _, ⟨_, Heap.get?_push_size _ rfl, rfl, rfl⟩, fun b hb => ?_, q⟩
    have e : b = s1.heap.objs.size := by simpa using hb
    subst e
    exact I1.fpOk (Nat.le_refl _) (I1.hok.fresh (Nat.le_refl _))
  · subst e
    cases r1
    obtain ⟨its, rv, p, hz⟩ := I1.tuple hq
    refine wpAny_pyIter_tuple (show s1.heap.IsTuple a its.toArray from p) ?_
    refine ⟨s1.heap.objs.size, [s1.heap.objs.size], _, _, H1, rfl, I1.kept (t' := s1.toks) fun b o e => Heap.get?_push_of_some _ e, turn_tuple a _, ⟨_, Heap.get?_push_size _ rfl, rfl, rfl⟩, fun b hb => ?_, q⟩
    have e : b = s1.heap.objs.size := by simpa using hb
    subst e
    exact I1.fpOk (Nat.le_refl _) (I1.hok.fresh (Nat.le_refl _))
  · subst ex
    obtain ⟨t, rfl⟩ := r1
    cases ha : z.cps.all (· < 128)
    · exact wpAny_pyIter_wide ha (pi_one (tk := s1.toks) I1 _ (turn_str _ z t "str_iterator" (.inr rfl)) ⟨_, Heap.get?_push_size _ rfl, rfl, rfl⟩ q)
    · exact wpAny_pyIter_ascii ha (pi_one (tk := s1.toks) I1 _ (turn_str _ z t "str_ascii_iterator" (.inl rfl)) ⟨_, Heap.get?_push_size _ rfl, rfl, rfl⟩ q)
theorem iters_same {X : Tx} {F1 : Hp} {J : It} {l : List D} {G : Hp → Prop} (hg : ∀ H', Sub F1 H' → G H') (w : Walk J l.length G fun i H x H' => H' = H ∧ ∀ d, l[i]? = some d → RD X F1 x d) : Iters X F1 J l :=
  ⟨G, hg, w.mono (fun _ h => h) fun i H x H' _ _ ⟨e, h⟩ F' s1 s2 d hd => ⟨F', by rw [e]; exact Sub.refl _, Sub.refl _, by rw [e]; exact s2, fun _ z => .inl z, (h d hd).mono s1⟩⟩
theorem si_wlk {fa : Env → R (D × Env)} {pa : Bool} {tg : Expr} (cx : Ctx c W Y) (ha : SX c W Γ ⟨true, pa, 0⟩ Y a fa) : SI c W Γ pa Y tg a (fun ρ => (fa ρ).bind fun p => (optR (itemsD p.1)).bind fun l => .ok (l, p.2)) :=
  PI.imp (pi_seq ha) fun σ H Rr ⟨F, A, ρ, r, h⟩ => tX.one (g := fun d ρ1 => (optR (itemsD d)).bind fun l => .ok (l, ρ1)) r h fun x H1 F1 A1 d ρ1 B o h1 => by
    obtain ⟨l, e, h1⟩ := Run.opt h1
    replace h1 : ∀ J H2 F2 A2, Mid c Γ σ ρ H F A ρ1 H2 F2 A2 (fun _ => False) pa → Iters c.X F2 J l → Rr J H2 := h1
    have m := o.mid.weak (q1 := fun _ => False) (fun _ z => z.elim) fun z => z
    have rd := o.ot.2
    rw [cx.K]
    cases d <;> first | (cases e; done) | skip
    · rename_i s
      cases e
      refine .inr (.inr ⟨_, rd.str_eq, h1 _ _ _ _ m (iters_same (G := fun _ => True) (fun _ _ => trivial) ?_)⟩)
      have w := walk_str (z := ⟨s.toArray⟩)
      have e1 : (s.map fun ch => D.str [ch]).length = (⟨s.toArray⟩ : Str).cps.size := by simp
      rw [e1]
      refine w.mono (fun _ h => h) fun i H x H' hi _ ⟨e, ch, hc, hx⟩ => ⟨e, fun d hd => ?_⟩
      rw [List.getElem?_map] at hd
      obtain ⟨ch', h3, rfl⟩ := Option.map_eq_some_iff.mp hd
      replace hc : s[i]? = some ch := by simpa using hc
      rw [hc] at h3
      cases h3
      rw [hx]
      exact .str [ch]
    · rename_i l'
      cases e
      obtain ⟨a1, ps, rfl, rfl, s1, r1⟩ := rd.lst_eq
      refine .inl ⟨a1, rfl, ⟨_, o.rep.sub.sqL s1⟩, h1 _ _ _ _ m (iters_same (G := fun H => SqL c.X.K H a1 (ps.map (·.1))) (fun H' s => s.sqL s1) ?_)⟩
      have w := walk_list (K := c.X.K) (a := a1) (xs := ps.map (·.1))
      rw [List.length_map] at w ⊢
      refine w.mono (fun _ h => h) fun i H x H' hi _ ⟨e, hx⟩ => ⟨e, fun d hd => ?_⟩
      rw [List.getElem?_map] at hd hx
      obtain ⟨p, h3, rfl⟩ := Option.map_eq_some_iff.mp hd
      rw [h3] at hx
      cases hx
      exact r1 p (List.mem_of_getElem? h3)
    · rename_i l'
      cases e
      obtain ⟨a1, ps, rfl, rfl, s1, r1⟩ := rd.tup_eq
      refine .inr (.inl ⟨a1, rfl, ⟨_, o.rep.sub.sqT s1⟩, h1 _ _ _ _ m (iters_same (G := fun H => SqT c.X.K H a1 (ps.map (·.1))) (fun H' s => s.sqT s1) ?_)⟩)
      have w := walk_tup (K := c.X.K) (a := a1) (xs := ps.map (·.1))
      rw [List.length_map] at w ⊢
      refine w.mono (fun _ h => h) fun i H x H' hi _ ⟨e, hx⟩ => ⟨e, fun d hd => ?_⟩
      rw [List.getElem?_map] at hd hx
      obtain ⟨p, h3, rfl⟩ := Option.map_eq_some_iff.mp hd
      rw [h3] at hx
      cases hx
      exact r1 p (List.mem_of_getElem? h3)

theorem ArgP.one {X : Tx} {σ : Sl} {F : Hp} {vs ds} (h : ArgP X σ F [none] vs ds) : ∃ v d, vs = [v] ∧ ds = [d] ∧ RD X F v d := by
  cases h with | frz r h => cases h; exact ⟨_, _, rfl, rfl, r⟩
theorem ArgP.two {X : Tx} {σ : Sl} {F : Hp} {vs ds} (h : ArgP X σ F [none, none] vs ds) : ∃ v d w e, vs = [v, w] ∧ ds = [d, e] ∧ RD X F v d ∧ RD X F w e := by
  cases h with | frz r h => obtain ⟨w, e, rfl, rfl, r2⟩ := h.one; exact ⟨_, _, _, _, rfl, rfl, r, r2⟩
theorem ArgP.three {X : Tx} {σ : Sl} {F : Hp} {vs ds} (h : ArgP X σ F [none, none, none] vs ds) : ∃ v d w e x f, vs = [v, w, x] ∧ ds = [d, e, f] ∧ RD X F v d ∧ RD X F w e ∧ RD X F x f := by
  cases h with | frz r h => obtain ⟨w, e, x, f, rfl, rfl, r2⟩ := h.two; exact ⟨_, _, _, _, _, _, rfl, rfl, r, r2⟩
theorem small_ok {i : Int} (h : small i = true) : -(2 ^ 62) ≤ i ∧ i < 2 ^ 62 := by
  unfold small at h
  rw [decide_eq_true_eq] at h
  omega
theorem iters_fn {X : Tx} {F1 : Hp} {J : It} {n : Nat} {f : Nat → Int} (w : Walk J n (fun _ => True) (YFn fun i => .int (f i))) : Iters X F1 J ((List.range n).map fun i => .int (f i)) := by
  refine iters_same (G := fun _ => True) (fun _ _ => trivial) ?_
  have e1 : ((List.range n).map fun i => D.int (f i)).length = n := by simp
  rw [e1]
  refine w.mono (fun _ h => h) fun i H x H' hi _ ⟨e, hx⟩ => ⟨e, fun d hd => ?_⟩
  rw [List.getElem?_map, List.getElem?_range hi] at hd
  cases hd
  rw [hx]
  exact .int _
theorem si_rng1 {fs : Env → R (List D × Env)} {pa : Bool} {tg : Expr} {p : Pos} (ha : SA c W Γ [none] pa Y [a] fs) (hg : Gl Y "range") (hm : Y.mg "range" = none) (hs : starEach [a] Y.env = [(false, eval a Y.env)]) :
    SI c W Γ pa Y tg (.Call (.Name "range" p) [a] [] pos) (fun ρ => (fs ρ).bind fun p => (optR (rngD p.1)).bind fun l => .ok (l, p.2)) :=
  PI.imp (pi_range1 hg hm ha hs) fun σ H Rr ⟨F, A, ρ, r, h⟩ => tF.one (g := fun d ρ1 => (optR (rngD d)).bind fun l => .ok (l, ρ1)) r h fun vs H1 F1 A1 ds ρ1 m ap h1 => by
    obtain ⟨l, e, h2⟩ := Run.opt h1
    replace h2 : ∀ J H2 F2 A2, Mid c Γ σ ρ H F A ρ1 H2 F2 A2 (fun _ => False) pa → Iters c.X F2 J l → Rr J H2 := h2
    obtain ⟨v, d, rfl, rfl, rd⟩ := ap.one
    cases d <;> first | (cases e; done) | skip
    rename_i j
    replace e : (if small j then some (rangeL 0 j) else none) = some l := e
    split at e <;> cases e
    rename_i hj
    have hj := small_ok hj
    refine ⟨j, by rw [rd.int_eq], hj.1, hj.2, h2 _ _ _ _ m ?_⟩
    have := iters_fn (X := c.X) (F1 := F1) (walk_range (lo := 0) (n := j.toNat))
    unfold rangeL
    rw [show (j - 0).toNat = j.toNat by rw [Int.sub_zero]]
    exact this
theorem si_rng2 {fs : Env → R (List D × Env)} {pa : Bool} {tg : Expr} {p : Pos} (ha : SA c W Γ [none, none] pa Y [a, b] fs) (hg : Gl Y "range") (hm : Y.mg "range" = none) (hs : starEach [a, b] Y.env = [(false, eval a Y.env), (false, eval b Y.env)]) (hs2 : starEach [b] Y.env = [(false, eval b Y.env)]) :
    SI c W Γ pa Y tg (.Call (.Name "range" p) [a, b] [] pos) (fun ρ => (fs ρ).bind fun p => (optR (rngD p.1)).bind fun l => .ok (l, p.2)) :=
  PI.imp (pi_range2 hg hm ha hs hs2) fun σ H Rr ⟨F, A, ρ, r, h⟩ => tF.one (g := fun d ρ1 => (optR (rngD d)).bind fun l => .ok (l, ρ1)) r h fun vs H1 F1 A1 ds ρ1 m ap h1 => by
    obtain ⟨l, e, h2⟩ := Run.opt h1
    replace h2 : ∀ J H2 F2 A2, Mid c Γ σ ρ H F A ρ1 H2 F2 A2 (fun _ => False) pa → Iters c.X F2 J l → Rr J H2 := h2
    obtain ⟨v, d, w, d', rfl, rfl, rd, rd'⟩ := ap.two
    cases d <;> first | (cases e; done) | skip
    rename_i i
    cases d' <;> first | (cases e; done) | skip
    rename_i j
    replace e : (if small i && small j then some (rangeL i j) else none) = some l := e
    split at e <;> cases e
    rename_i hij
    rw [Bool.and_eq_true] at hij
    have hi := small_ok hij.1
    have hj := small_ok hij.2
    refine ⟨i, j, by rw [rd.int_eq, rd'.int_eq], ⟨hi.1, hi.2, hj.1, hj.2⟩, h2 _ _ _ _ m ?_⟩
    exact iters_fn (X := c.X) (F1 := F1) (walk_range (lo := i) (n := (j - i).toNat))

/-! ### loops -/
theorem unset_get {m : List Nat} {i : Nat} {d : D} : ∀ {ρ : Env}, (unset ρ m)[i]? = some (some d) → i ∉ m ∧ ρ[i]? = some (some d) := by
  induction m with
  | nil => exact fun h => ⟨by simp, h⟩
  | cons j m ih =>
    intro ρ h
    obtain ⟨h1, h2⟩ := ih (ρ := ρ.set j none) h
    by_cases e : j = i
    · subst e
      by_cases hl : j < ρ.length
      · rw [List.getElem?_set_self hl] at h2; cases h2
      · rw [List.getElem?_eq_none (by simpa using hl)] at h2; cases h2
    · rw [List.getElem?_set_ne e] at h2
      exact ⟨by simp only [List.mem_cons, not_or]; exact ⟨fun z => e z.symm, h1⟩, h2⟩
/-- masked, then at lower levels -/
theorem Rep.masked {m : List Nat} (r : Rep c.X Γ1 ρ σ H F A) (h : ∀ i, i ∉ m → Γ'.getD i 0 ≤ Γ1.getD i 0) : ∃ F' A', Rep c.X Γ' (Pz.unset ρ m) σ H F' A' ∧ Nxt H F (Own A) H F' (Own A') := by
  obtain ⟨A1, r1, o1⟩ := r.unset m
  obtain ⟨F2, A2, r2, n2⟩ := r1.relevel (Γ' := Γ') fun i d e => h i (unset_get e).1
  exact ⟨F2, A2, r2, n2.weak o1 fun a z => .inl z⟩
def stepR (g : D → Env → R Env) (b : Env → R Fl) (m : List Nat) : D → Env → R Fl := fun x ρ => (g x ρ).bind fun ρ' => (b ρ').map (maskFl m)
theorem map_bind {α β : Type} (m : R α) (f : α → β) : m.map f = m.bind fun a => .ok (f a) := by cases m <;> rfl
def forK (f : D → Env → R Fl) (l : List D) : Fl → R Fl
  | .nx ρ' => forR f l ρ'
  | .ct ρ' => forR f l ρ'
  | .bk ρ' => .ok (.nx ρ')
  | .rt d ρ' => .ok (.rt d ρ')
theorem forR_cons (f : D → Env → R Fl) (x : D) (l : List D) (ρ : Env) : forR f (x :: l) ρ = (f x ρ).bind (forK f l) := by
  show (f x ρ).bind _ = _
  congr 1
theorem ss_for {iter tg : Expr} {body : List Stmt} {fi : Env → R (List D × Env)} {g : D → Env → R Env} {fb : Env → R Fl} {pi : Bool} {Γb Γc Γe : List Nat} {m : List Nat} (cx : Ctx c W Y) (hp : PassesOwn (model Y.prog Y.w) Y.A Y.env Y.xe)
    (hi : SI c W Γ pi Y tg iter fi) (hg : SG c W { Z with Γb := Γb, Γc := Γc } Γ Γ1 Y tg g) (hb : SSs c W { Z with Γb := Γb, Γc := Γc } Γ1 Γe Y body fb)
    (h1 : ∀ i, i ∉ m → Γ.getD i 0 ≤ Γe.getD i 0) (h2 : ∀ i, i ∉ m → Γ.getD i 0 ≤ Γb.getD i 0) (h3 : ∀ i, i ∉ m → Γ.getD i 0 ≤ Γc.getD i 0) (hs : ∀ x, foldedSetIterable iter Y.env x = pure x) :
    SS c W Z Γ Γ Y (.For tg iter body [] pos) (fun ρ => (fi ρ).bind fun p => forR (stepR g fb m) p.1 p.2) :=
  PS.imp (ps_for hp cx.calm hi hg hb hs) fun D σ H ⟨F, A, ρ, r, h⟩ => by
    refine ⟨F, A, ρ, r, (h.bind.wm .refl).imp fun p _ hq J H1 F1 A1 md ⟨G, gG, w⟩ => ?_⟩
    let Pv : Nat → Sl → Hp → Prop := fun i σ' H' => ∃ F' A' ρ', Sub F1 F' ∧ Rep c.X Γ ρ' σ' H' F' A' ∧ Agree Z.M σ σ' ∧ Nxt H F (Own A) H' F' (Own A') ∧ Run c (WM W Z.M σ') σ' H' F' (Own A') (forR (stepR g fb m) (p.1.drop i) ρ') (EndS c Z Γ D σ H F A)
    refine for_it w Pv ⟨F1, A1, p.2, Sub.refl _, md.rep, .refl, md.nx0, hq.at md.nx0 fun _ z => z⟩ (fun i σ' H' _ ⟨F', A', ρ', s, r', _⟩ => gG H' (s.trans r'.sub)) ?_ ?_
    · intro i x σ' H' H'' hlt ⟨F', A', ρ', s, r', ag, n', hr⟩ hy
      obtain ⟨d, hd⟩ : ∃ d, p.1[i]? = some d := ⟨p.1[i], List.getElem?_eq_getElem hlt⟩
      obtain ⟨F'', k1, k2, k3, k4, rx⟩ := hy F' s r'.sub d hd
      have nn : Nxt H' F' (fun _ => False) H'' F'' (fun _ => False) := ⟨fun a o e _ => k1 a o e, k2, fun a e => (k4 a e).elim .inl fun z => .inr (.inr z), fun _ z => z.elim⟩
      have r2 : Rep c.X Γ ρ' σ' H'' F'' A' := r'.step nn k3 fun _ _ z => z
      have nn' : Nxt H' F' (Own A') H'' F'' (Own A') := nn.weak (fun _ z => z.elim) fun a z => .inr z
      have ed : p.1.drop i = d :: p.1.drop (i + 1) := by
        rw [List.drop_eq_getElem_cons hlt]
        congr 1
        have := List.getElem?_eq_getElem hlt
        rw [hd] at this
        exact (Option.some.inj this).symm
      rw [ed, forR_cons] at hr
      have hr2 : Run c (WM W Z.M σ') σ' H'' F'' (Own A') (((g d ρ').bind fun ρ1 => (fb ρ1).map (maskFl m)).bind (forK (stepR g fb m) (p.1.drop (i + 1)))) (EndS c Z Γ D σ H F A) := hr.at nn' fun _ z => z
      rw [bind_assoc] at hr2
      refine ⟨F'', A', ρ', d, r2, rx, hr2.bind.imp fun ρ1 _ hb2 σ2 H2 F2 A2 ag2 r3 n3 => ?_⟩
      replace hb2 := hb2.at n3 (fun _ z => z)
      rw [map_bind, bind_assoc] at hb2
      refine ⟨F2, A2, ρ1, r3, (hb2.wms ag2).bind.imp fun fl _ hk => ?_⟩
      have nA : Nxt H F (Own A) H2 F2 (Own A2) := (n'.trans nn').trans n3
      have cont : ∀ {Γk : List Nat} {ρk : Env}, (∀ i, i ∉ m → Γ.getD i 0 ≤ Γk.getD i 0) → Run c (WM W Z.M σ2) σ2 H2 F2 (Own A2) (forR (stepR g fb m) (p.1.drop (i + 1)) (unset ρk m)) (EndS c Z Γ D σ H F A) →
          ∀ σ3 H3 F3 A3, Agree Z.M σ2 σ3 → Rep c.X Γk ρk σ3 H3 F3 A3 → Nxt H2 F2 (Own A2) H3 F3 (Own A3) → Pv (i + 1) σ3 H3 := by
        intro Γk ρk hk' hk σ3 H3 F3 A3 ag3 r4 n4
        obtain ⟨F4, A4, r5, n5⟩ := r4.masked hk'
        refine ⟨F4, A4, _, s.trans (k2.trans (n3.fro.trans (n4.fro.trans n5.fro))), r5, ag.trans (ag2.trans ag3), nA.trans (n4.trans n5), ?_⟩
        exact (hk.at (n4.trans n5) fun _ z => z).wms ag3
      cases fl with
      | nx ρk => exact cont h1 hk
      | ct ρk => exact cont h3 hk
      | bk ρk =>
        intro σ3 H3 F3 A3 ag3 r4 n4
        obtain ⟨F4, A4, r5, n5⟩ := r4.masked h2
        replace hk : EndS c Z Γ D σ H F A (.nx (unset ρk m)) := hk
        exact hk σ3 H3 F4 A4 (ag.trans (ag2.trans ag3)) r5 (nA.trans (n4.trans n5))
      | rt d ρk =>
        intro σ3 v H3 F3 A3 B ag3 r4 n4 o4 nd4 dj4
        replace hk : EndS c Z Γ D σ H F A (.rt d ρk) := hk
        exact hk σ3 v H3 F3 A3 B (ag.trans (ag2.trans ag3)) r4 (nA.trans n4) o4 nd4 dj4
    · intro σ' H' ⟨F', A', ρ', s, r', ag, n', hr⟩
      rw [List.drop_length] at hr
      replace hr : EndS c Z Γ D σ H F A (.nx ρ') := hr
      exact hr σ' H' F' A' ag r' n'
end
end Pz
end
section
set_option Elab.async false
set_option linter.all false
/-! Calls where it is known that nothing is being shown (no repr guard stands): promises of defs under that. -/
namespace Pz
open PySem PySem.Spec PyProof.Rows L2

/-- room, and no guard -/
structure RoomG (k : Nat) (A : Around) : Prop where
  r : Room k A
  g : A.guards = some []
/-- a def's promise where no guard stands -/
structure FnG (P : Program) (w : World) (K : PySem.W.Frag) (mg : Str → Option Value) (base : Heap) (cx : CXT) (k : Nat) (ad : Addr) (fd : FuncData) (ps : List Str) (sp : Sp) : Prop where
  len : ∀ vs H Q E, sp vs H Q E → vs.length = ps.length
  run : ∀ (A : Around) (st : List PySem.Env) (s : Shared) (H : Hp) (ar : Args) (us : List Value) (vs : List V) (Q : VK) (E : XK), RoomG k A → Env0 P w K mg base A st s H → BindsTo s fd ar (ps.zip us) → Vals vs us → sp vs H Q E →
    codeAny (model P w) A (.call (.ref ad) ar)
      (CR cx st P w H s Q E) s
section
variable {P : Program} {w : World} {K : PySem.W.Frag} {mg : Str → Option Value} {base : Heap} {cx : CXT} {j k : Nat} {ad : Addr} {fd : FuncData} {ps : List Str} {sp sp' : Sp}
theorem FnG.imp (F : FnG P w K mg base cx k ad fd ps sp) (i : ∀ vs H Q E, sp' vs H Q E → sp vs H Q E) : FnG P w K mg base cx k ad fd ps sp' where
  len := fun vs H Q E z => F.len vs H Q E (i vs H Q E z)
  run := fun A st s H ar us vs Q E rm en bd rl z => F.run A st s H ar us vs Q E rm en bd rl (i vs H Q E z)
end
section
variable {P : Program} {w : World} {K : PySem.W.Frag} {mg : Str → Option Value} {base : Heap} {cx : CXT} {k : Nat} {ad : Addr} {nm ql : Str} {pa : Arguments} {bo : List Stmt} {sc : Scope} {v1 v2 v3 v4 v5 v6 cls : Value} {a1 a2 : Option Addr} {sl : Array (Option Value)} {N ps : List Str} {sp : Sp}
/-- a def by its body -/
theorem fng_of (lk : K.lookup ad = some ⟨cls, a2, .func (PySem.W.fnOf nm ql pa bo sc v1 v2 v3 v4 a1 v5 v6), sl⟩) (cd : PySem.W.codeIn K v5 ql = true) (S : FnScope N ps sc)
    (len : ∀ vs H Q E, sp vs H Q E → vs.length = ps.length)
    (bd : ∀ (A : Around) (st : List PySem.Env) (s : Shared) (H : Hp) (vs : List V) (Q : VK) (E : XK), RoomG k (A.deeper (envOfC ql sc s.heap.objs.size ad v5)) → sp vs H Q E →
      ∃ t, PSs (cxOf cx P w K mg base N ql sc ad v5 A st s H E) bo t ∧ t { nx := fun _ G => Q .non G, rt := Q } (L2.start N vs) H) :
    FnG P w K mg base cx (k + 1) ad (PySem.W.fnOf nm ql pa bo sc v1 v2 v3 v4 a1 v5 v6) ps sp := by
  refine ⟨len, ?_⟩
  intro A st s H ar us vs Q E rm en bi rl z
  have lv := len _ _ _ _ z
  have inK : K.In s.heap := en.mod.kin.keeps fun a u y => (en.bs a u y).1
  have nol : s.heap.NoLimit := en.mod.nolimit.keeps fun a u y => (en.bs a u y).1
  have kinds : ∀ p ∈ ps.zip us, sc.names.lookup p.1 = some .local ∨ (sc.names.lookup p.1 = some .cell ∧ ((cellsFrom (s.heap.objs.size + 1) sc.names []).lookup p.1).isSome = true) := by
    rintro ⟨x, u⟩ hx
    cases S.par x (List.of_mem_zip hx).1 with
    | inl h => exact .inl h
    | inr h => exact .inr ⟨h, PySem.W.cellsFrom_some _ _ _ (.inl h)⟩
  apply codeAny_call_function rm.r.depth (inK _ _ lk) rfl S.co S.gen rfl (PySem.W.codeRec_of inK cd)
  apply bi
  apply wpAny_newFunctionEnv_cells S.kind kinds
  intro env he s1 ic
  subst he
  refine ⟨nol.keeps ic.toInCall.keep, codeAny_func ?_⟩
  have ⟨t, pt, tz⟩ := bd A st s H vs Q E ⟨rm.r.deeper _, rm.g⟩ z
  have I0 := inv_start (CX := cx) (P := P) (w := w) (K := K) (mg := mg) (base := base) (E := E) S rm.r.hd en lv rl ic
  apply wpAny_mono (pt.run [] s1 (L2.start N vs) H _ I0 tz)
  · intro fl s2 hs
    have stop : ∀ {τ : Sl} {G : Hp} {x : V} {u : Value}, Inv (cxOf cx P w K mg base N ql sc ad v5 A st s H E) [] τ G s2 → RelV x u → Q x G → CE st P w H s Q u s2 :=
      fun {τ G x u} J r q => ⟨x, G, J.os, J.bare, J.base, J.hok, r, q⟩
    match fl, hs with
    | .ret u, ⟨x, τ, G, J, r, q⟩ => exact stop J r q
    | .next, ⟨τ, G, J, q⟩ => exact stop (x := V.non) (u := Value.none) J rfl q
    | .brk, ⟨_, _, _, q⟩ => exact q.elim
    | .cont, ⟨_, _, _, q⟩ => exact q.elim
  · exact fun e s2 h => h
end

variable {Y : Cx} {cx : CXT} {k : Nat} {ad : Addr} {fd : FuncData} {ps ks : List Str} {sp : Sp} {E : Sl → XK} {x : Str} {p pos : Pos} {e : Expr} {es : List Expr} {kws : List Keyword} {t tk : TA}
/-- a call's run -/
theorem run_g {pins : List (Addr × Obj)} {σ : Sl} {H : Hp} {s : Shared} {Q : VK} {ar : Args} {us : List Value} {vs : List V} (F : FnG Y.prog Y.w Y.K Y.mg Y.base cx k ad fd ps sp) (rm : RoomG k Y.A) (bi : BindsTo s fd ar (ps.zip us)) (hx : PassesAt cx Y σ (E σ))
    (I : Inv Y pins σ H s) (rl : Vals vs us) (z : sp vs H Q (E σ)) : codeAny (model Y.prog Y.w) Y.A (.call (.ref ad) ar) (fun r s' => match r with | .ok (.ret u) => EP Y pins σ Q u s' | .ok _ => False | .error e => Y.xe e s') s := by
  apply codeAny_mono (F.run Y.A Y.stack s H ar us vs Q (E σ) rm I.env0 bi rl z)
  intro r s2 h
  match r, h with
  | .error e, h => exact hx pins H s e s2 I h
  | .ok (.ret u), h => exact I.after h
  | .ok .next, h => exact h.elim
  | .ok .brk, h => exact h.elim
  | .ok .cont, h => exact h.elim
/-- f() -/
theorem pe_callG0 (F : FnG Y.prog Y.w Y.K Y.mg Y.base cx k ad fd ps sp) (rm : RoomG k Y.A) (hg : Gl Y x) (hm : Y.mg x = some (.ref ad)) (hk : PySem.W.keepIn Y.K (.ref ad) = true) (hb : Binds Y.K fd ps []) (hx : ∀ σ, PassesAt cx Y σ (E σ)) (hd : (x == ("__debug__" : Str)) = false) :
    PE Y (.Call (.Name x p) [] [] pos) (fun σ H Q => sp [] H Q (E σ)) := by
  constructor
  intro pins s σ H Q I h
  apply wpAny_Call_Name_kw (ld_glob I hg hm ?_ hd)
  apply PySem.W.callWith_K0 I.kIn hk
  refine wpAny_call (codeAny_mono (run_g F rm (us := []) (vs := []) ?_ (hx σ) I .nil h) fun r s2 q => ?_)
  · have := hb s [] I.kIn (by rw [List.append_nil]; exact F.len _ _ _ _ h)
    rw [List.append_nil] at this
    exact this
  · match r, q with
    | .error e, q => exact q
    | .ok (.ret u), q => exact q
    | .ok .next, q => exact q.elim
    | .ok .brk, q => exact q.elim
    | .ok .cont, q => exact q.elim
/-- f(e, ..) -/
theorem pe_callG (F : FnG Y.prog Y.w Y.K Y.mg Y.base cx k ad fd ps sp) (rm : RoomG k Y.A) (hg : Gl Y x) (hm : Y.mg x = some (.ref ad)) (hk : PySem.W.keepIn Y.K (.ref ad) = true) (hb : Binds Y.K fd ps []) (hx : ∀ σ, PassesAt cx Y σ (E σ))
    (ha : PA Y (e :: es) t) (hd : (x == ("__debug__" : Str)) = false) (he : starEach (e :: es) Y.env = (false, eval e Y.env) :: starEach es Y.env) (hp : (backTo pos (starEach es Y.env)).any (·.1) = false) :
    PE Y (.Call (.Name x p) (e :: es) [] pos) (fun σ H Q => t σ H fun vs H1 => sp vs H1 Q (E σ)) := by
  constructor
  intro pins s σ H Q I h
  apply wpAny_Call_Name_kw (ld_glob I hg hm ?_ hd)
  apply PySem.W.callWith_K (h₀ := Y.base) I.ok.mod.kin hk _ he hp
  refine thn (ha.run pos pins s σ H _ I h) fun us s1 ⟨vs, H1, I1, rl, z⟩ => ⟨I1.kIn, wpAny_call (codeAny_mono (run_g F rm (us := us) (vs := vs) ?_ (hx σ) I1 rl z) fun r s2 q => ?_)⟩
  · have := hb s1 us I1.kIn (by rw [List.append_nil, ← rl.length]; exact F.len _ _ _ _ z)
    rw [List.append_nil] at this
    exact this
  · match r, q with
    | .error e, q => exact q
    | .ok (.ret u), q => exact q
    | .ok .next, q => exact q.elim
    | .ok .brk, q => exact q.elim
    | .ok .cont, q => exact q.elim

/-- the values by the parameters' order -/
def permL {α : Type} (pm : List Nat) (l : List α) : List α := pm.filterMap fun i => l[i]?
theorem vals_get {vs : List V} {us : List Value} (h : Vals vs us) : ∀ i : Nat, (vs[i]? = none ∧ us[i]? = none) ∨ ∃ v u, vs[i]? = some v ∧ us[i]? = some u ∧ RelV v u := by
  induction h with
  | nil => exact fun i => .inl ⟨rfl, rfl⟩
  | cons r _ ih =>
    intro i
    cases i with
    | zero => exact .inr ⟨_, _, rfl, rfl, r⟩
    | succ i => exact ih i
theorem vals_perm {vs : List V} {us : List Value} (h : Vals vs us) : ∀ pm : List Nat, Vals (permL pm vs) (permL pm us)
  | [] => .nil
  | i :: pm => by
    unfold permL
    rw [List.filterMap_cons, List.filterMap_cons]
    rcases vals_get h i with ⟨e1, e2⟩ | ⟨v, u, e1, e2, r⟩
    · rw [e1, e2]; exact vals_perm h pm
    · rw [e1, e2]; exact .cons r (vals_perm h pm)
/-- the keywords' names -/
def kwNames (kws : List Keyword) (ks : List Str) : Bool := decide (kws.map (·.arg) = ks.map some)
theorem kw_each : ∀ (kws : List Keyword) (env : PySem.Env), (keywordEach kws env).map (·.1) = kws.map (·.arg)
  | [], _ => rfl
  | ⟨n, v, q⟩ :: kws, env => congrArg (n :: ·) (kw_each kws env)
theorem kw_back (pos : Pos) (kws : List Keyword) (env : PySem.Env) : (backToKw pos (keywordEach kws env)).map (·.1) = kws.map (·.arg) := by
  rw [← kw_each kws env]
  unfold backToKw
  rw [List.map_map]; rfl
theorem kw_facts {pos : Pos} {kws : List Keyword} {ks : List Str} {env : PySem.Env} (h : kwNames kws ks = true) :
    (backToKw pos (keywordEach kws env)).all (·.1.isSome) = true ∧ (backToKw pos (keywordEach kws env)).filterMap (·.1) = ks ∧ (backToKw pos (keywordEach kws env)).any (·.1.isNone) = false := by
  have e := kw_back pos kws env
  rw [show kws.map (·.arg) = ks.map some from of_decide_eq_true h] at e
  generalize backToKw pos (keywordEach kws env) = l at e
  induction l generalizing ks kws with
  | nil =>
    cases ks with
    | nil => exact ⟨rfl, rfl, rfl⟩
    | cons k ks => cases e
  | cons q l ih =>
    cases ks with
    | nil => cases e
    | cons k ks =>
      rw [List.map_cons, List.map_cons] at e
      obtain ⟨e1, e2⟩ := List.cons.inj e
      obtain ⟨h1, h2, h3⟩ := ih (ks := ks) (kws := ks.map fun k => ⟨some k, .Constant .none 0 pos, pos⟩) (by unfold kwNames; rw [decide_eq_true_eq, List.map_map]; rfl) e2
      refine ⟨?_, ?_, ?_⟩
      · rw [List.all_cons, e1, h1]; rfl
      · rw [List.filterMap_cons, e1, h2]
      · rw [List.any_cons, e1, h3]; rfl
section
variable {Y : Cx} {cx : CXT} {k : Nat} {ad : Addr} {fd : FuncData} {ps ks : List Str} {sp : Sp} {E : Sl → XK} {x : Str} {p pos : Pos} {e : Expr} {es : List Expr} {kws : List Keyword} {t tk : TA} {pm : List Nat} {n : Nat}
/-- how a call with keywords binds -/
def KwB (fd : FuncData) (ps : List Str) (n : Nat) (ks : List Str) (pm : List Nat) : Prop :=
  ∀ (s : Shared) (us ws : List Value), us.length = n → ws.length = ks.length → BindsTo s fd ⟨us, ks.zip ws⟩ (ps.zip (permL pm (us ++ ws)))
theorem kw_fin (F : FnG Y.prog Y.w Y.K Y.mg Y.base cx k ad fd ps sp) (rm : RoomG k Y.A) (hb : KwB fd ps n ks pm) {σ : Sl} (hx : PassesAt cx Y σ (E σ)) {pins : List (Addr × Obj)} {us ws : List Value} {vs zs : List V} {s2 : Shared} {H2 : Hp} {Q : VK}
    (I2 : Inv Y pins σ H2 s2) (r1 : Vals vs us) (r2 : Vals zs ws) (l1 : vs.length = n) (l2 : zs.length = ks.length) (z : sp (permL pm (vs ++ zs)) H2 Q (E σ)) :
    wpAny (model Y.prog Y.w) Y.A (call (.ref ad) us (ks.zip ws)) (EP Y pins σ Q) Y.xe s2 :=
  wpAny_call (codeAny_mono (run_g F rm (hb s2 us ws (by rw [← r1.length]; exact l1) (by rw [← r2.length]; exact l2)) hx I2 (vals_perm (r1.append r2) pm) z) fun r s3 q => by
    match r, q with
    | .error e, q => exact q
    | .ok (.ret u), q => exact q
    | .ok .next, q => exact q.elim
    | .ok .brk, q => exact q.elim
    | .ok .cont, q => exact q.elim)
theorem pe_callKG (F : FnG Y.prog Y.w Y.K Y.mg Y.base cx k ad fd ps sp) (rm : RoomG k Y.A) (hg : Gl Y x) (hm : Y.mg x = some (.ref ad)) (hk : PySem.W.keepIn Y.K (.ref ad) = true) (hb : KwB fd ps n ks pm) (hx : ∀ σ, PassesAt cx Y σ (E σ))
    (ha : PA Y (e :: es) t) (hw : PK Y kws tk) (hd : (x == ("__debug__" : Str)) = false) (hks : kwNames kws ks = true)
    (he : starEach (e :: es) Y.env = (false, eval e Y.env) :: starEach es Y.env) (hp : (backTo pos (starEach es Y.env)).any (·.1) = false) :
    PE Y (.Call (.Name x p) (e :: es) kws pos) (fun σ H Q => t σ H fun vs H1 => tk σ H1 fun zs H2 => vs.length = n ∧ zs.length = ks.length ∧ sp (permL pm (vs ++ zs)) H2 Q (E σ)) := by
  constructor
  intro pins s σ H Q I h
  obtain ⟨k1, k2, k3⟩ := kw_facts (pos := pos) (env := Y.env) hks
  have pl : ((backTo pos (starEach (e :: es) Y.env)).any (·.1) || (backToKw pos (keywordEach kws Y.env)).any (·.1.isNone)) = false := by
    rw [k3, he]
    show ((false || (backTo pos (starEach es Y.env)).any (·.1)) || false) = false
    rw [hp]; rfl
  apply wpAny_Call_Name_kw (ld_glob I hg hm ?_ hd)
  refine PySem.W.callWith_KW (h₀ := Y.base) I.ok.mod.kin hk k1 (thn (ha.run pos pins s σ H _ I h) fun us s1 ⟨vs, H1, I1, r, z⟩ => ?_) pl he
  refine thn (hw.run pos pins s1 σ H1 _ I1 z) fun ws s2 ⟨zs, H2, I2, rz, l1, l2, z2⟩ => ⟨I2.kIn, ?_⟩
  rw [k2]
  exact kw_fin F rm hb (hx σ) I2 r rz l1 l2 z2
theorem pe_callKG0 (F : FnG Y.prog Y.w Y.K Y.mg Y.base cx k ad fd ps sp) (rm : RoomG k Y.A) (hg : Gl Y x) (hm : Y.mg x = some (.ref ad)) (hk : PySem.W.keepIn Y.K (.ref ad) = true) (hb : KwB fd ps 0 ks pm) (hx : ∀ σ, PassesAt cx Y σ (E σ))
    (hw : PK Y kws tk) (hd : (x == ("__debug__" : Str)) = false) (hks : kwNames kws ks = true) :
    PE Y (.Call (.Name x p) [] kws pos) (fun σ H Q => tk σ H fun zs H2 => zs.length = ks.length ∧ sp (permL pm zs) H2 Q (E σ)) := by
  constructor
  intro pins s σ H Q I h
  obtain ⟨k1, k2, k3⟩ := kw_facts (pos := pos) (env := Y.env) hks
  have pl : ((backTo pos (starEach [] Y.env)).any (·.1) || (backToKw pos (keywordEach kws Y.env)).any (·.1.isNone)) = false := by
    rw [k3]; rfl
  apply wpAny_Call_Name_kw (ld_glob I hg hm ?_ hd)
  refine PySem.W.callWith_KW0 (h₀ := Y.base) I.ok.mod.kin hk k1 (thn (hw.run pos pins s σ H _ I h) fun ws s2 ⟨zs, H2, I2, rz, l2, z2⟩ => ⟨I2.kIn, ?_⟩) pl
  rw [k2]
  exact kw_fin (vs := []) F rm hb (hx σ) I2 .nil rz rfl l2 z2
end
end Pz
end
section
set_option Elab.async false
set_option linter.all false
/-! Calls of the text's defs. -/
namespace Pz
open PySem PySem.Spec PyProof.Rows L2

/-- a def's promise: its parameters' levels (0: frozen, else lent), how deep its result is owned -/
structure Sg where
  pl : List Nat
  rl : Nat
/-- what is lent, behind the call -/
def ioE (np : Nat) (io : List Nat) (os : List D) : Env := match io, os with
  | [j], [o] => (List.replicate np none).set j (some o)
  | _, _ => List.replicate np none
/-- what a def's call comes to -/
def FnP (c : Cf) (np : Nat) (io : List Nat) (sg : Sg) (vs : List V) (H F : Hp) (A : Nat → List Addr) (Q : VK) : D × List D → Prop := fun r =>
  ∀ v H' F' A' B, r.2.length = io.length → Rep c.X sg.pl (ioE np io r.2) (vs.map some) H' F' A' → Nxt H F (Own A) H' F' (fun a => Own A' a ∨ a ∈ B) → OT c.X H' F' sg.rl v r.1 B → B.Nodup → (∀ a ∈ B, ¬ Own A' a) → Q v H'
def spF (c : Cf) (np : Nat) (io : List Nat) (sg : Sg) (call : List D → R (D × List D)) : Sp := fun vs H Q E =>
  ∃ F A ds, vs.length = np ∧ ds.length = np ∧ Rep c.X sg.pl (ds.map some) (vs.map some) H F A ∧ Run c (fun cls dx _ H' => E cls dx H') [] H F (Own A) (call ds) (FnP c np io sg vs H F A Q)
/-- x names such a def -/
abbrev KwL := List (Str × Nat × List Str × List Nat)
structure FnAt (c : Cf) (Y : Cx) (kwl : KwL) (x : Str) (np : Nat) (io : List Nat) (sg : Sg) (call : List D → R (D × List D)) : Prop where
  ex : ∃ k a fd ps, FnG Y.prog Y.w Y.K Y.mg Y.base (L2.CX Y.prog Y.w) k a fd ps (spF c np io sg call) ∧ RoomG k Y.A ∧ Y.mg x = some (.ref a) ∧ PySem.W.keepIn Y.K (.ref a) = true ∧ Binds Y.K fd ps [] ∧ ∀ n ks pm, (x, n, ks, pm) ∈ kwl → KwB fd ps n ks pm

section
variable {X : Tx} {σ : Sl} {F : Hp} {ls : List (Option Nat)} {vs : List V} {ds : List D}
theorem ArgP.get0 (h : ArgP X σ F ls vs ds) : ∀ {k : Nat} {d : D}, ls[k]? = some none → ds[k]? = some d → ∃ v, vs[k]? = some v ∧ RD X F v d := by
  induction h with
  | nil => exact fun h => absurd h (by simp)
  | frz r _ ih =>
    intro k d h1 h2
    cases k with
    | zero => cases h2; exact ⟨_, rfl, r⟩
    | succ k => exact ih h1 h2
  | lent r _ ih =>
    intro k d h1 h2
    cases k with
    | zero => cases h1
    | succ k => exact ih h1 h2
theorem ArgP.get1 (h : ArgP X σ F ls vs ds) : ∀ {k i : Nat}, ls[k]? = some (some i) → ∃ v, vs[k]? = some v ∧ σ[i]? = some (some v) := by
  induction h with
  | nil => exact fun h => absurd h (by simp)
  | frz r _ ih =>
    intro k i h1
    cases k with
    | zero => cases h1
    | succ k => exact ih h1
  | lent r _ ih =>
    intro k i h1
    cases k with
    | zero => cases h1; exact ⟨_, rfl, r⟩
    | succ k => exact ih h1
theorem map_some_get {α : Type} {l : List α} {k : Nat} {x : α} (h : (l.map some)[k]? = some (some x)) : l[k]? = some x := by
  rw [List.getElem?_map] at h
  obtain ⟨y, e, h⟩ := Option.map_eq_some_iff.mp h
  cases h; exact e
theorem map_some_of {α : Type} {l : List α} {k : Nat} {x : α} (h : l[k]? = some x) : (l.map some)[k]? = some (some x) := by rw [List.getElem?_map, h]; rfl
end

section
variable {c : Cf} {W : WX} {Z : Zd} {Γ Γ1 Γ' : List Nat} {Y : Cx} {e a b : Expr} {es : List Expr} {pos p0 : Pos} {fs : Env → R (List D × Env)} {ls : List (Option Nat)} {pu : Bool} {np : Nat} {io : List Nat} {sg : Sg} {call : List D → R (D × List D)} {x : Str} {kwl : KwL}
theorem Run.shift {σ σ' : Sl} {H F : Hp} {P Q : Addr → Prop} {β : Type} {m : R β} {ok : β → Prop} (h : Run c W σ H F P m ok) (s : ∀ a, Q a → P a) : Run c (fun cls dx _ H' => W cls dx σ H') σ' H F Q m ok := by
  cases m with
  | ok b => exact h
  | error e =>
    cases e with
    | stuck => exact h
    | exc k fs => exact fun cls dx H' x => h cls dx H' (x.back (Nxt.refl (P := P)) s)
/-- a call without anything lent -/
theorem sx_call0 (cx : Ctx c W Y) (fn : FnAt c Y kwl x np [] sg call) (hg : Gl Y x) (hd : (x == ("__debug__" : Str)) = false) (ha : SA c W Γ ls pu Y (e :: es) fs) (hn : allN ls = true) (hl : ls.length = np) (hp : ∀ i, sg.pl.getD i 0 = 0)
    (hs : starEach (e :: es) Y.env = (false, eval e Y.env) :: starEach es Y.env) (hs2 : (backTo pos (starEach es Y.env)).any (·.1) = false) :
    SX c W Γ ⟨true, pu, sg.rl⟩ Y (.Call (.Name x p0) (e :: es) [] pos) (fun ρ => (fs ρ).bind fun p => (optR (lend p.2 p.1 [])).bind fun ds => (call ds).bind fun r => .ok (r.1, setIO p.2 [] r.2)) := by
  obtain ⟨k, ad, fd, ps, F0, hr, hm, hk, hb, _⟩ := fn.ex
  refine PE.imp (pe_callG (E := WE W) F0 hr hg hm hk hb (fun σ => passAt cx.tk σ) ha hd hs hs2) fun σ H Q ⟨F, A, ρ, r, h⟩ => tF.one (g := fun ds ρ1 => (optR (lend ρ1 ds [])).bind fun ds => (call ds).bind fun r => .ok (r.1, setIO ρ1 [] r.2)) r h fun vs H1 F1 A1 ds ρ1 m ap h1 => ?_
  replace h1 : Run c W σ H1 F1 (Own A1) ((call ds).bind fun r => .ok (r.1, ρ1)) (Ends' c Γ ⟨true, pu, sg.rl⟩ σ ρ H F A Q) := h1
  obtain ⟨qs, e1, e2, e3⟩ := ap.ps hn
  have lv : vs.length = np := ap.len.1.trans hl
  have ld : ds.length = np := ap.len.2.trans hl
  refine ⟨F1, fun _ => [], ds, lv, ld, ⟨m.rep.sub, by rw [List.length_map, List.length_map, lv, ld], fun i d hi => ?_, fun _ _ => rfl, fun _ => List.nodup_nil, fun _ _ _ _ z => absurd z (by simp)⟩, ?_⟩
  · have hi := map_some_get hi
    have hln : ls[i]? = some none := by
      have hlt : i < ls.length := by rw [hl, ← ld]; exact (List.getElem?_eq_some_iff.mp hi).1
      rw [List.getElem?_eq_getElem hlt]
      have := (List.all_eq_true.mp hn) ls[i] (List.getElem_mem hlt)
      cases e : ls[i] with
      | none => rfl
      | some z => rw [e] at this; cases this
    obtain ⟨v, ev, rv⟩ := ap.get0 hln hi
    exact ⟨v, map_some_of ev, by rw [hp]; exact ⟨rfl, rv⟩⟩
  · refine Run.imp (Run.shift h1.bind (Q := Own fun _ => []) fun a ⟨_, z⟩ => absurd z (by simp)) fun q _ hq v H' F' A' B hlen r' n' o nd dj => ?_
    replace hq : Ends' c Γ ⟨true, pu, sg.rl⟩ σ ρ H F A Q (q.1, ρ1) := hq
    have nf : Nxt H1 F1 (fun _ => False) H' F' (fun a => a ∈ B) := n'.weak (fun a ⟨_, z⟩ => absurd z (by simp)) fun a z => .inl (.inr z)
    have n1 : Nxt H1 F1 (Own A1) H' F' (fun a => Own A1 a ∨ a ∈ B) := (nf.beside (B := Own A1)).weak (fun a z => z.elim False.elim fun z => z) fun a z => .inl (z.elim .inr .inl)
    have hB : ∀ a ∈ B, H1 a = none := fun a ha => (nf.own a ha).elim False.elim fun z => z
    refine hq v H' F' A1 B ⟨⟨m.rep.step nf r'.sub fun _ _ z => z, (m.nx0.trans n1).weak (fun _ z => z) fun a z => .inl (z.imp (fun z => z) fun z => z.2), fun z => ?_⟩, o, fun _ => nd, fun _ a ha z => (m.rep.dom z).1 (hB a ha)⟩
    obtain ⟨z1, z2, z3⟩ := m.pu z
    exact ⟨z1, z2, (z3.trans (nf.weak (fun _ z => z) fun a z => z.elim))⟩
/-- a call without an argument -/
theorem sx_callZ (cx : Ctx c W Y) (fn : FnAt c Y kwl x 0 [] sg call) (hg : Gl Y x) (hd : (x == ("__debug__" : Str)) = false) (hp : ∀ i, sg.pl.getD i 0 = 0) :
    SX c W Γ ⟨true, true, sg.rl⟩ Y (.Call (.Name x p0) [] [] pos) (fun ρ => (.ok ([], ρ) : R (List D × Env)).bind fun p => (optR (lend p.2 p.1 [])).bind fun ds => (call ds).bind fun r => .ok (r.1, setIO p.2 [] r.2)) := by
  obtain ⟨k, ad, fd, ps, F0, hr, hm, hk, hb, _⟩ := fn.ex
  refine PE.imp (pe_callG0 (E := WE W) F0 hr hg hm hk hb (fun σ => passAt cx.tk σ) hd) fun σ H Q ⟨F, A, ρ, r, h⟩ => ?_
  have m : Mid c Γ σ ρ H F A ρ H F A (fun _ => False) true := Mid.refl r
  replace h : Run c W σ H F (Own A) ((call []).bind fun r => .ok (r.1, ρ)) (Ends' c Γ ⟨true, true, sg.rl⟩ σ ρ H F A Q) := h
  refine ⟨F, fun _ => [], [], rfl, rfl, ⟨m.rep.sub, rfl, fun i d hi => absurd hi (by simp), fun _ _ => rfl, fun _ => List.nodup_nil, fun _ _ _ _ z => absurd z (by simp)⟩, ?_⟩
  refine Run.imp (Run.shift h.bind (Q := Own fun _ => []) fun a ⟨_, z⟩ => absurd z (by simp)) fun q _ hq v H' F' A' B hlen r' n' o nd dj => ?_
  replace hq : Ends' c Γ ⟨true, true, sg.rl⟩ σ ρ H F A Q (q.1, ρ) := hq
  have nf : Nxt H F (fun _ => False) H' F' (fun a => a ∈ B) := n'.weak (fun a ⟨_, z⟩ => absurd z (by simp)) fun a z => .inl (.inr z)
  have n1 : Nxt H F (Own A) H' F' (fun a => Own A a ∨ a ∈ B) := (nf.beside (B := Own A)).weak (fun a z => z.elim False.elim fun z => z) fun a z => .inl (z.elim .inr .inl)
  have hB : ∀ a ∈ B, H a = none := fun a ha => (nf.own a ha).elim False.elim fun z => z
  refine hq v H' F' A B ⟨⟨m.rep.step nf r'.sub fun _ _ z => z, (m.nx0.trans n1).weak (fun _ z => z) fun a z => .inl (z.imp (fun z => z) fun z => z.2), fun z => ?_⟩, o, fun _ => nd, fun _ a ha z => (m.rep.dom z).1 (hB a ha)⟩
  obtain ⟨z1, z2, z3⟩ := m.pu z
  exact ⟨z1, z2, (z3.trans (nf.weak (fun _ z => z) fun a z => z.elim))⟩
/-- a call with one slot lent -/
theorem sx_call1 {i j : Nat} (cx : Ctx c W Y) (fn : FnAt c Y kwl x np [j] sg call) (hg : Gl Y x) (hd : (x == ("__debug__" : Str)) = false) (ha : SA c W Γ ls pu Y (e :: es) fs) (hl : ls.length = np) (hj : ls[j]? = some (some i))
    (hn : ∀ k, k ≠ j → k < np → ls[k]? = some none) (hp : ∀ k, k ≠ j → sg.pl.getD k 0 = 0) (hi : sg.pl.getD j 0 = Γ.getD i 0)
    (hs : starEach (e :: es) Y.env = (false, eval e Y.env) :: starEach es Y.env) (hs2 : (backTo pos (starEach es Y.env)).any (·.1) = false) :
    SX c W Γ ⟨true, false, sg.rl⟩ Y (.Call (.Name x p0) (e :: es) [] pos) (fun ρ => (fs ρ).bind fun p => (optR (lend p.2 p.1 [(j, i)])).bind fun ds => (call ds).bind fun r => .ok (r.1, setIO p.2 [(j, i)] r.2)) := by
  obtain ⟨k, ad, fd, ps, F0, hr, hm, hk, hb, _⟩ := fn.ex
  refine PE.imp (pe_callG (E := WE W) F0 hr hg hm hk hb (fun σ => passAt cx.tk σ) ha hd hs hs2) fun σ H Q ⟨F, A, ρ, r, h⟩ => tF.one (g := fun ds ρ1 => (optR (lend ρ1 ds [(j, i)])).bind fun ds => (call ds).bind fun r => .ok (r.1, setIO ρ1 [(j, i)] r.2)) r h fun vs H1 F1 A1 ds0 ρ1 m ap h1 => ?_
  obtain ⟨ds, eds, h1⟩ := Run.opt h1
  obtain ⟨dj, ej, eds⟩ := Option.bind_eq_some_iff.mp eds
  replace eds : some (ds0.set j dj) = some ds := eds
  cases eds
  obtain ⟨vj, evj, esj⟩ := ap.get1 hj
  have lv : vs.length = np := ap.len.1.trans hl
  have ld : ds0.length = np := ap.len.2.trans hl
  have hjn : j < np := by rw [← hl]; exact (List.getElem?_eq_some_iff.mp hj).1
  have own : ∀ a, Own (fun k => if k = j then A1 i else []) a → a ∈ A1 i := fun a ⟨k, z⟩ => by
    by_cases e : k = j
    · simpa [e] using z
    · simp [e] at z
  refine ⟨F1, fun k => if k = j then A1 i else [], ds0.set j dj, lv, by rw [List.length_set]; exact ld, ⟨m.rep.sub, by rw [List.length_map, List.length_map, lv, List.length_set, ld], fun k d hk => ?_, fun k hk => ?_, fun k => ?_, fun k l hkl a z w => ?_⟩, ?_⟩
  · have hk := map_some_get hk
    by_cases e : k = j
    · subst e
      rw [List.getElem?_set_self (by rw [ld]; exact hjn)] at hk
      cases hk
      obtain ⟨v, ev, o⟩ := m.rep.val i _ (gt_ok ej)
      rw [esj] at ev
      cases ev
      exact ⟨vj, map_some_of evj, by rw [hi]; simpa using o⟩
    · rw [List.getElem?_set_ne (Ne.symm e)] at hk
      have hkn : k < np := by rw [← ld]; exact (List.getElem?_eq_some_iff.mp hk).1
      obtain ⟨v, ev, rv⟩ := ap.get0 (hn k e hkn) hk
      exact ⟨v, map_some_of ev, by rw [hp k e]; simp only [e, if_false]; exact ⟨rfl, rv⟩⟩
  · by_cases e : k = j
    · subst e
      exact absurd (map_some_of (by rw [List.getElem?_set_self (by rw [ld]; exact hjn)])) (hk dj)
    · simp [e]
  · by_cases e : k = j
    · simpa [e] using m.rep.nd i
    · simp [e]
  · by_cases e : k = j <;> by_cases e' : l = j
    · exact hkl (e.trans e'.symm)
    · simp [e'] at w
    · simp [e] at z
    · simp [e] at z
  · refine Run.imp (Run.shift h1.bind (Q := Own fun k => if k = j then A1 i else []) fun a z => ⟨i, own a z⟩) fun q _ hq v H' F' A' B hlen r' n' o nd dB => ?_
    obtain ⟨q1, q2⟩ := q
    match q2, hlen with
    | [oj], _ =>
      replace hq : Ends' c Γ ⟨true, false, sg.rl⟩ σ ρ H F A Q (q1, st ρ1 i oj) := hq
      have eio : (ioE np [j] [oj])[j]? = some (some oj) := List.getElem?_set_self (by simpa using hjn)
      obtain ⟨v', ev', ov⟩ := r'.val j oj eio
      have ev2 := map_some_get ev'
      rw [evj] at ev2
      cases ev2
      have only : ∀ k, k ≠ j → A' k = [] := fun k hk => r'.non k fun d z => by
        have : (ioE np [j] [oj])[k]? = (List.replicate np none)[k]? := List.getElem?_set_ne (Ne.symm hk)
        rw [this, List.getElem?_replicate] at z
        split at z <;> cases z
      have ownA : ∀ a, Own A' a → a ∈ A' j := fun a ⟨k, z⟩ => by
        by_cases e : k = j
        · exact e ▸ z
        · rw [only k e] at z; exact absurd z (by simp)
      have old : ∀ a, a ∈ A' j ∨ a ∈ B → a ∈ A1 i ∨ H1 a = none := fun a z => (n'.own a (z.imp (fun z => ⟨j, z⟩) fun z => z)).imp (own a) fun z => z
      have apart : ∀ a, a ∈ A' j ∨ a ∈ B → ∀ k, k ≠ i → a ∉ A1 k := fun a z k hk w => (old a z).elim (fun y => m.rep.dis i k (Ne.symm hk) a y w) fun y => (m.rep.dom ⟨k, w⟩).1 y
      have hil : i < ρ1.length := (List.getElem?_eq_some_iff.mp (gt_ok ej)).1
      have rep2 : Rep c.X Γ (st ρ1 i oj) σ H' F' (fun k => if k = i then A' j else A1 k) := by
        refine ⟨r'.sub, by unfold st; rw [List.length_set]; exact m.rep.len, fun k d hk => ?_, fun k hk => ?_, fun k => ?_, fun k l hkl a z w => ?_⟩
        · by_cases e : k = i
          · subst e
            unfold st at hk
            rw [List.getElem?_set_self hil] at hk
            cases hk
            exact ⟨vj, esj, by rw [← hi]; simpa using ov⟩
          · unfold st at hk
            rw [List.getElem?_set_ne (Ne.symm e)] at hk
            obtain ⟨w, ew, ow⟩ := m.rep.val k d hk
            refine ⟨w, ew, ?_⟩
            simp only [e, if_false]
            exact ow.step n' fun a ha z => m.rep.dis i k (Ne.symm e) a (own a z) ha
        · by_cases e : k = i
          · subst e
            exact absurd (by unfold st; rw [List.getElem?_set_self hil]) (hk oj)
          · simp only [e, if_false]
            exact m.rep.non k fun d z => hk d (by unfold st; rw [List.getElem?_set_ne (Ne.symm e)]; exact z)
        · by_cases e : k = i
          · simpa [e] using r'.nd j
          · simpa [e] using m.rep.nd k
        · by_cases e : k = i <;> by_cases e' : l = i
          · exact hkl (e.trans e'.symm)
          · simp only [e, e', if_true, if_false] at z w; exact apart a (.inl z) l e' w
          · simp only [e, e', if_true, if_false] at z w; exact apart a (.inl w) k e z
          · simp only [e, e', if_false] at z w; exact m.rep.dis k l hkl a z w
      have n1 : Nxt H1 F1 (Own A1) H' F' (fun a => Own (fun k => if k = i then A' j else A1 k) a ∨ a ∈ B) := by
        refine ⟨fun a u hu hn => n'.keep a u hu fun z => hn ⟨i, own a z⟩, n'.fro, fun a z => (n'.new a z).imp (fun z => z) fun z => z.imp (fun z => ⟨i, own a z⟩) fun z => z, fun a z => ?_⟩
        rcases z with ⟨k, z⟩ | z
        · by_cases e : k = i
          · simp only [e, if_true] at z
            exact (old a (.inl z)).imp (fun z => ⟨i, z⟩) fun z => z
          · simp only [e, if_false] at z
            exact .inl ⟨k, z⟩
        · exact (old a (.inr z)).imp (fun z => ⟨i, z⟩) fun z => z
      refine hq v H' F' _ B ⟨⟨rep2, (m.nx0.trans n1).weak (fun _ z => z) fun a z => .inl (z.imp (fun z => z) fun z => z.2), fun z => absurd z (by simp)⟩, o, fun _ => nd, fun _ a hb ⟨k, z⟩ => ?_⟩
      by_cases e : k = i
      · simp only [e, if_true] at z
        exact dB a hb ⟨j, z⟩
      · simp only [e, if_false] at z
        exact apart a (.inr hb) k e z
end
end Pz
end
section
set_option Elab.async false
set_option linter.all false
/-! Assignments, append. -/
namespace Pz
open PySem PySem.Spec PyProof.Rows L2

section
variable {c : Cf} {W : WX} {Z : Zd} {Γ Γ1 Γ' : List Nat} {Y : Cx} {e a b : Expr} {es : List Expr} {pos p0 : Pos} {fa fb : Env → R (D × Env)} {fs : Env → R (List D × Env)} {ls : List (Option Nat)} {pa pb pu : Bool} {k ka kb : Kd}
  {σ σ1 : Sl} {ρ ρ' ρ1 ρ2 : Env} {H F H' F' H1 F1 H2 F2 : Hp} {A A' A1 A2 : Nat → List Addr} {v : V} {d : D} {B : List Addr} {n i : Nat} {x : Str}

/-- a name's facts -/
structure NmAt (Y : Cx) (Γ : List Nat) (Z : Zd) (i : Nat) (x : Str) : Prop where
  nd : Y.N.Nodup
  at_ : Y.N[i]? = some x
  loc : Loc Y.env.scope x
  fn : Y.fn x = true ∨ Y.env.scope.names.lookup x = some .local
  lv : i < Γ.length
  mm : Z.M i = true
theorem ss_set (nm : NmAt Y Γ Z i x) (he : SX c W Γ ⟨true, pa, n⟩ Y e fa) (hs : swapsWith e (some (.Name x p0)) pos.line Y.env = pure false) :
    SS c W Z Γ (Γ.set i n) Y (.Assign [.Name x p0] e pos) (fun ρ => (fa ρ).bind fun p => .ok (.nx (st p.2 i p.1))) :=
  PS.imp (ps_set nm.nd nm.at_ nm.loc he hs nm.fn) fun D σ H ⟨F, A, ρ, r, h⟩ => tX.inS (g := fun d ρ1 => (.ok (.nx (st ρ1 i d)) : R Fl)) r h fun x H1 F1 A1 d ρ1 B o h1 => by
    replace h1 : EndS c Z (Γ.set i n) D σ H F A (.nx (st ρ1 i d)) := h1
    obtain ⟨A', r', o'⟩ := o.rep.store nm.lv o.ot (o.nd rfl) (o.dj rfl)
    exact h1 _ H1 F1 A' (.set nm.mm) r' (o.mid.nx.weak (fun _ h => h) fun a z => .inl ((o' a z).imp (fun z => z) fun z => ⟨rfl, z⟩))
/-- target = value, frozen -/
theorem ss_asg {tg : Expr} {g : Pz.D → Env → R Env} (he : SX c W Γ ⟨true, pa, 0⟩ Y e fa) (hg : SG c W Z Γ Γ' Y tg g) (hs : swapsWithSole [tg] e pos.line Y.env = pure false) (hw : swappedStores [tg] e Y.env = pure none) (h1 : (assignEach [tg] Y.env).map (·.2) = [assign tg Y.env]) :
    SS c W Z Γ Γ' Y (.Assign [tg] e pos) (fun ρ => (fa ρ).bind fun p => (g p.1 p.2).bind fun ρ' => .ok (.nx ρ')) :=
  PS.imp (ps_asg he hg hs hw h1) fun D σ H ⟨F, A, ρ, r, h⟩ => tX.inS (g := fun d ρ1 => (g d ρ1).bind fun ρ' => (.ok (.nx ρ') : R Fl)) r h fun x H1 F1 A1 d ρ1 B o h1 => by
    refine ⟨F1, A1, ρ1, d, o.rep, o.ot.2, h1.bind.imp fun ρ' _ hq σ' H' F' A' ag r' n' => ?_⟩
    replace hq : EndS c Z Γ' D σ H F A (.nx ρ') := hq
    exact hq σ' H' F' A' ag r' (o.nx0.trans n')
/-- a, b, .. = x, y, ..: by way of a tuple -/
theorem ss_parT {tgs : List Expr} {gs : List Pz.D → Env → R Env} {kk m : Nat} {x1 p1 p2} (cx : Ctx c W Y) (ha : SA c W Γ ls pu Y es fs) (hn : allN ls = true) (hl : ls.length ≤ 1000) (hg : SGs c W Z Γ Γ' Y tgs gs)
    (hm : (assignEach tgs Y.env).length = m) (hst : (assignEach tgs Y.env).findIdx? (·.1) = none)
    (hs : swapsWithSole [.Tuple tgs kk p1] (.Tuple es x1 p2) pos.line Y.env = pure false) (hw : swappedStores [.Tuple tgs kk p1] (.Tuple es x1 p2) Y.env = pure none)
    (h1 : (assignEach [.Tuple tgs kk p1] Y.env).map (·.2) = [assign (.Tuple tgs kk p1) Y.env]) :
    SS c W Z Γ Γ' Y (.Assign [.Tuple tgs kk p1] (.Tuple es x1 p2) pos) (fun ρ => (fs ρ).bind fun p => (optR (itemsT m (.tup p.1))).bind fun l => (gs l p.2).bind fun ρ' => .ok (.nx ρ')) :=
  PS.imp (ss_asg (sx_tup ha hn hl) (sg_tup cx hg hm hst) hs hw h1) fun N σ H ⟨F, A, ρ, r, h⟩ => ⟨F, A, ρ, r, by
    have e : ∀ ρ, (((fs ρ).bind fun p => .ok (D.tup p.1, p.2)).bind fun p => ((optR (itemsT m p.1)).bind fun l => gs l p.2).bind fun ρ' => (.ok (.nx ρ') : R Fl)) = (fs ρ).bind fun p => (optR (itemsT m (.tup p.1))).bind fun l => (gs l p.2).bind fun ρ' => .ok (.nx ρ') := by
      intro ρ
      cases fs ρ with
      | error e => rfl
      | ok p =>
        show ((optR (itemsT m (.tup p.1))).bind _).bind _ = (optR (itemsT m (.tup p.1))).bind _
        rw [bind_assoc]
    show Run c _ σ H F (Own A) (((fs ρ).bind fun p => .ok (D.tup p.1, p.2)).bind fun p => ((optR (itemsT m p.1)).bind fun l => gs l p.2).bind fun ρ' => (.ok (.nx ρ') : R Fl)) _
    rw [e]; exact h⟩
/-- a, b = x, y: swapped -/
theorem ss_par2 {i j : Nat} {x y : Str} {px py pt pt2 : Pos} {kt k2} (cx : Ctx c W Y) (ni : NmAt Y Γ Z i x) (nj : NmAt Y Γ Z j y) (hij : i ≠ j) (li : Y.env.scope.names.lookup x = some .local) (lj : Y.env.scope.names.lookup y = some .local) (ha : SA c W Γ [none, none] pu Y [a, b] fs)
    (hw : swappedStores [.Tuple [.Name x px, .Name y py] kt pt] (.Tuple [a, b] k2 pt2) Y.env = pure (some [x, y])) (hs : swapsWithSole [.Tuple [.Name x px, .Name y py] kt pt] (.Tuple [a, b] k2 pt2) pos.line Y.env = pure false) :
    SS c W Z Γ ((Γ.set i 0).set j 0) Y (.Assign [.Tuple [.Name x px, .Name y py] kt pt] (.Tuple [a, b] k2 pt2) pos)
      (fun ρ => (fs ρ).bind fun p => (optR (itemsT 2 (.tup p.1))).bind fun l => (consG (fun d ρ => .ok (st ρ i d)) (consG (fun d ρ => .ok (st ρ j d)) (fun l ρ => if l.isEmpty then .ok ρ else bad)) l p.2).bind fun ρ' => .ok (.nx ρ')) :=
  PS.imp (ps_par cx.calm ni.nd ni.at_ nj.at_ hij li lj ha hw hs) fun D σ H ⟨F, A, ρ, r, h⟩ => tF.inS (pu := pu) (g := fun ds ρ1 => (optR (itemsT 2 (.tup ds))).bind fun l => (consG (fun d ρ => .ok (st ρ i d)) (consG (fun d ρ => .ok (st ρ j d)) (fun l ρ => if l.isEmpty then .ok ρ else bad)) l ρ1).bind fun ρ' => (.ok (.nx ρ') : R Fl)) r h fun vs H1 F1 A1 ds ρ1 m ap h1 => by
    obtain ⟨v, d, w, d', rfl, rfl, rv, rw'⟩ := ap.two
    replace h1 : EndS c Z ((Γ.set i 0).set j 0) D σ H F A (.nx (st (st ρ1 i d) j d')) := h1
    refine ⟨v, w, rfl, ?_⟩
    obtain ⟨A2, r2, o2⟩ := m.rep.store (i := i) (n := 0) (B := []) ni.lv ⟨rfl, rv⟩ List.nodup_nil fun _ z => absurd z (by simp)
    obtain ⟨A3, r3, o3⟩ := r2.store (i := j) (n := 0) (B := []) (by rw [List.length_set]; exact nj.lv) ⟨rfl, rw'⟩ List.nodup_nil fun _ z => absurd z (by simp)
    refine h1 _ H1 F1 A3 ((Agree.set ni.mm).trans (.set nj.mm)) r3 (m.nx0.weak (fun _ h => h) fun a z => .inl ?_)
    exact (o3 a z).elim (fun z => (o2 a z).elim (fun z => z) fun z => absurd z (by simp)) fun z => absurd z (by simp)

/-! ### a slot's own list is changed -/
theorem Rep.list1 {l : List Pz.D} (r : Rep c.X Γ ρ σ H F A) (hi : Γ.getD i 0 = 1) (h : ρ[i]? = some (some (.lst l))) :
    ∃ (ad : Addr) (ps : List (V × Pz.D)), σ[i]? = some (some (.ref ad)) ∧ l = ps.map (·.2) ∧ H ad = some (.lst (ps.map (·.1))) ∧ (∀ p ∈ ps, RD c.X F p.1 p.2) ∧
      ∀ qs : List (V × Pz.D), (∀ p ∈ qs, RD c.X F p.1 p.2) → Rep c.X Γ (st ρ i (.lst (qs.map (·.2)))) σ (upd H ad (.lst (qs.map (·.1)))) F A ∧ Nxt H F (Own A) (upd H ad (.lst (qs.map (·.1)))) F (Own A) := by
  obtain ⟨v, ev, o⟩ := r.val i _ h
  rw [hi] at o
  obtain ⟨ad, ts, rfl, e2, e3, e4, e5, e6⟩ := o
  have nil : (ts.map (·.2.2)).flatten = [] := by
    rw [List.flatten_eq_nil_iff]
    intro z hz
    obtain ⟨t, ht, rfl⟩ := List.mem_map.mp hz
    exact (e6 t ht).1
  rw [nil] at e5
  have rd : ∀ p ∈ ts.map fun t => (t.1, t.2.1), RD c.X F p.1 p.2 := fun p hp => by
    obtain ⟨t, ht, rfl⟩ := List.mem_map.mp hp
    exact (e6 t ht).2
  refine ⟨ad, ts.map fun t => (t.1, t.2.1), ev, by rw [e2, (map_fst_snd ts).2], by rw [e3, (map_fst_snd ts).1], rd, fun qs hq => ?_⟩
  have adi : ad ∈ A i := by rw [e5]; simp
  have hil : i < ρ.length := (List.getElem?_eq_some_iff.mp h).1
  have nn : Nxt H F (fun a => a = ad) (upd H ad (.lst (qs.map (·.1)))) F (fun a => a = ad) := ⟨fun a u hu hn => by rw [upd_ne hn]; exact hu, Sub.refl _, fun a z => .inl z, fun a z => .inl z⟩
  have n2 : Nxt H F (Own A) (upd H ad (.lst (qs.map (·.1)))) F (Own A) := nn.weak (fun a z => ⟨i, z ▸ adi⟩) fun a z => .inr z
  refine ⟨⟨fun a u hu => ?_, by unfold st; rw [List.length_set]; exact r.len, fun j d hj => ?_, fun j hj => ?_, r.nd, r.dis⟩, n2⟩
  · by_cases e : a = ad
    · subst e
      rw [e4] at hu; cases hu
    · rw [upd_ne e]; exact r.sub a u hu
  · unfold st at hj
    by_cases e : j = i
    · subst e
      rw [List.getElem?_set_self hil] at hj
      cases hj
      refine ⟨.ref ad, ev, ?_⟩
      rw [hi]
      refine ⟨ad, qs.map fun q => (q.1, q.2, []), rfl, by rw [List.map_map]; rfl, by rw [upd_same, List.map_map]; rfl, e4, ?_, fun q hq' => ?_⟩
      · rw [e5, List.map_map]
        have : (List.map ((fun x : V × Pz.D × List Addr => x.2.2) ∘ fun x : V × Pz.D => (x.1, x.2, [])) qs).flatten = [] := by
          simp [List.flatten_eq_nil_iff]
        rw [this]
      · obtain ⟨p, hp, rfl⟩ := List.mem_map.mp hq'
        exact ⟨rfl, hq p hp⟩
    · rw [List.getElem?_set_ne (Ne.symm e)] at hj
      obtain ⟨w, ew, ow⟩ := r.val j d hj
      exact ⟨w, ew, ow.step nn fun a ha z => r.dis i j (Ne.symm e) a (z ▸ adi) ha⟩
  · unfold st at hj
    by_cases e : j = i
    · subst e
      exact absurd (List.getElem?_set_self hil) (hj _)
    · exact r.non j fun d z => hj d (by rw [List.getElem?_set_ne (Ne.symm e)]; exact z)
/-- x[k] = v -/
theorem sg_idx {x : Str} (hN : Y.N[i]? = some x) (hv : Vis Y.env.scope x) (hd : (x == ("__debug__" : Str)) = false) (hcd : (x == ("__classdict__" : Str)) = false) (hi : Γ.getD i 0 = 1) (hb : SX c W Γ kb Y b fb)
    (has : ∀ v, assign (.Subscript (.Name x p0) b pos) Y.env v = (do
      let ov ← holding [v] (eval (.Name x p0) Y.env)
      let iv ← holding [v, ov] (eval b Y.env)
      standAt pos
      holding [v, ov, iv] (setItem ov iv v)
      release [v, ov, iv] [])) :
    SG c W Z Γ Γ Y (.Subscript (.Name x p0) b pos) (fun d ρ => ((optR (gt ρ i)).bind fun _ => .ok (i, [], ρ)).bind fun p : Nat × List Pz.D × Env => (fb p.2.2).bind fun q =>
      (optR (gt q.2 p.1)).bind fun o => (optR (updAt (setItemD q.1 d) p.2.1 o)).bind fun o' => .ok (st q.2 p.1 o')) :=
  PG.imp (pg_sub (pe_var (i := i) hN hv hd hcd) hb set_list has) fun v σ H Q ⟨F, A, ρ, d, r, rd, h⟩ => by
    dsimp only at h
    rw [bind_assoc] at h
    obtain ⟨d0, e0, h⟩ := Run.opt h
    replace h : Run c (WM W Z.M σ) σ H F (Own A) ((fb ρ).bind fun q => (optR (gt q.2 i)).bind fun o => (optR (setItemD q.1 d o)).bind fun o' => .ok (st q.2 i o')) _ := h
    obtain ⟨w, ew, ow⟩ := r.val i d0 (gt_ok e0)
    refine ⟨w, ew, tX.inS (g := fun q ρ1 => (optR (gt ρ1 i)).bind fun o => (optR (setItemD q d o)).bind fun o' => .ok (st ρ1 i o')) r h fun y H1 F1 A1 q ρ1 B o h1 => ?_⟩
    obtain ⟨ol, e1, h2⟩ := Run.opt h1
    clear h1
    obtain ⟨ol', e2, h1⟩ := Run.opt h2
    clear h2
    cases ol <;> first | (cases e2; done) | skip
    · rename_i l
      cases q <;> first | (cases e2; done) | skip
      rename_i kk
      replace e2 : (ixI l.length kk).map (fun n => Pz.D.lst (l.set n d)) = some ol' := e2
      obtain ⟨n, e3, rfl⟩ := Option.map_eq_some_iff.mp e2
      replace h1 : ∀ σ' H' F' A', Agree Z.M σ σ' → Rep c.X Γ (st ρ1 i (.lst (l.set n d))) σ' H' F' A' → Nxt H F (Own A) H' F' (Own A') → Q σ' H' := h1
      obtain ⟨ad, ps, s1, rfl, s3, s4, s5⟩ := o.rep.list1 hi (gt_ok e1)
      rw [ew] at s1
      cases s1
      have hset : ∀ z ∈ ps.set n (v, d), RD c.X F1 z.1 z.2 := fun z hz => (List.mem_or_eq_of_mem_set hz).elim (s4 z) fun e => e ▸ rd.mono o.nx0.fro
      obtain ⟨r5, n5⟩ := s5 (ps.set n (v, d)) hset
      rw [List.map_set] at r5
      refine ⟨ad, _, kk, n, rfl, o.ot.int_eq, s3, by rw [← ixI_N]; simpa using e3, ?_⟩
      have := h1 σ _ F1 A1 .refl r5 (o.nx0.trans n5)
      rw [List.map_set] at this
      exact this
end
end Pz
end
section
set_option Elab.async false
set_option linter.all false
/-! Comprehensions; append; what is never reached. -/
namespace Pz
open PySem PySem.Spec PyProof.Rows L2

theorem bind_ok_inv {α β : Type} {m : R α} {f : α → R β} {b : β} (h : m.bind f = .ok b) : ∃ a, m = .ok a ∧ f a = .ok b := by
  cases m with
  | ok a => exact ⟨a, rfl, h⟩
  | error e => cases h
def never : WX := fun _ _ _ _ => False
section
variable {c : Cf} {W : WX} {Z : Zd} {Γ Γ1 Γ' : List Nat} {Y : Cx} {e a b : Expr} {es : List Expr} {pos p0 : Pos} {fa fb fe : Env → R (D × Env)} {fi : Env → R (List D × Env)} {fc : Env → R (Bool × Env)} {g : D → Env → R Env} {ls : List (Option Nat)} {pa pb pu pi pc pe : Bool} {k ka kb : Kd}
  {σ σ1 σ2 : Sl} {ρ ρ' ρ0 ρ1 ρ2 : Env} {H F H' F' H1 F1 H2 F2 : Hp} {A A' A1 A2 : Nat → List Addr} {v : V} {d : D} {B : List Addr} {n i : Nat} {x : Str}
theorem Run.of_eq {β : Type} {m : R β} {ok : β → Prop} {P : Addr → Prop} {b : β} (e : m = .ok b) (h : ok b) : Run c W σ H F P m ok := by rw [e]; exact h
theorem Rep.swap (r : Rep c.X Γ ρ σ H F A) (hl : σ1.length = σ.length) (h : ∀ (i : Nat) (d : D), ρ[i]? = some (some d) → σ1[i]? = σ[i]?) : Rep c.X Γ ρ σ1 H F A :=
  ⟨r.sub, r.len.trans hl.symm, fun i d e => by rw [h i d e]; exact r.val i d e, r.non, r.nd, r.dis⟩
/-- beside the slots a list is made at p -/
structure Kept (p : Addr) (xs : List V) (H F : Hp) (A : Nat → List Addr) : Prop where
  at_ : H p = some (.lst xs)
  fr : F p = none
  nown : ¬ Own A p
theorem Kept.step {p : Addr} {xs : List V} (k : Kept p xs H F A) (n : Nxt H F (Own A) H' F' (Own A')) : Kept p xs H' F' A' :=
  ⟨n.keep p _ k.at_ k.nown, (by
    cases e : F' p with
    | none => rfl
    | some o =>
      rcases n.new p (by rw [e]; simp) with z | z | z
      · exact absurd k.fr z
      · exact absurd z k.nown
      · rw [k.at_] at z; cases z), fun z => (n.own p z).elim k.nown fun y => by rw [k.at_] at y; cases y⟩
theorem unset_length : ∀ (l : List Nat) (ρ : Env), (unset ρ l).length = ρ.length
  | [], ρ => rfl
  | i :: l, ρ => by show (unset (ρ.set i none) l).length = _; rw [unset_length l]; simp
theorem unset_out : ∀ {l : List Nat} {ρ : Env} {i : Nat}, i ∉ l → (unset ρ l)[i]? = ρ[i]?
  | [], _, _, _ => rfl
  | j :: l, ρ, i, h => by
    show (unset (ρ.set j none) l)[i]? = _
    rw [unset_out (fun z => h (List.mem_cons_of_mem _ z)), List.getElem?_set_ne fun e => h (by rw [← e]; exact List.mem_cons_self)]
theorem back_length : ∀ (l : List Nat) (ρ0 ρ : Env), (back ρ0 ρ l).length = ρ.length
  | [], _, _ => rfl
  | i :: l, ρ0, ρ => by show (back ρ0 (ρ.set i _) l).length = _; rw [back_length l]; simp
theorem back_out : ∀ {l : List Nat} {ρ0 ρ : Env} {i : Nat}, i ∉ l → (back ρ0 ρ l)[i]? = ρ[i]?
  | [], _, _, _, _ => rfl
  | j :: l, ρ0, ρ, i, h => by
    show (back ρ0 (ρ.set j _) l)[i]? = _
    rw [back_out (fun z => h (List.mem_cons_of_mem _ z)), List.getElem?_set_ne fun e => h (by rw [← e]; exact List.mem_cons_self)]
theorem back_in : ∀ {l : List Nat} {ρ0 ρ : Env} {i : Nat}, i ∈ l → i < ρ.length → i < ρ0.length → (back ρ0 ρ l)[i]? = ρ0[i]?
  | [], _, _, _, h, _, _ => absurd h (by simp)
  | j :: l, ρ0, ρ, i, h, h1, h2 => by
    show (back ρ0 (ρ.set j _) l)[i]? = _
    by_cases m : i ∈ l
    · exact back_in m (by simpa using h1) h2
    · have e : i = j := (List.mem_cons.mp h).resolve_right m
      subst e
      rw [back_out m, List.getElem?_set_self h1, List.getElem?_eq_getElem h2]; rfl
theorem wipe_in {i : Nat} : ∀ {vs : List Nat} {σ : Sl}, i ∈ vs → i < σ.length → (wipe σ vs)[i]? = some none
  | [], _, h, _ => absurd h (by simp)
  | j :: vs, σ, h, hl => by
    unfold wipe
    by_cases e : j = i
    · subst e
      exact List.getElem?_set_self (by rw [wipe_length]; exact hl)
    · rw [List.getElem?_set_ne e]
      exact wipe_in ((List.mem_cons.mp h).resolve_left fun z => e z.symm) hl
abbrev inOwn (own : List Nat) : Nat → Bool := fun i => decide (i ∈ own)
theorem wipe_agree {own : List Nat} (h : Agree (inOwn own) (wipe σ own) σ2) : wipe σ2 own = wipe σ own := by
  have hl : σ2.length = σ.length := h.len.trans (wipe_length _ _)
  apply List.ext_getElem?
  intro i
  by_cases m : i ∈ own
  · by_cases hi : i < σ.length
    · rw [wipe_in m hi, wipe_in m (by rw [hl]; exact hi)]
    · rw [List.getElem?_eq_none (by rw [wipe_length, hl]; omega), List.getElem?_eq_none (by rw [wipe_length]; omega)]
  · rw [wipe_out m, h.at_ i (by simp [inOwn, m])]
/-- a block's slots -/
abbrev Zb (own : List Nat) : Zd := ⟨inOwn own, [], [], [], 0⟩
def lcF (g : D → Env → R Env) (fc : Env → R (Bool × Env)) (fe : Env → R (D × Env)) (own : List Nat) : D → Env → List D → R (List D × Env) := fun x ρ acc => (g x (unset ρ own)).bind fun ρ1 => (fc ρ1).bind fun t => if t.1 then (fe t.2).bind (push acc) else .ok (acc, t.2)
/-- the state of a block behind a turn, as the next turn finds it -/
theorem Rep.again {own : List Nat} (r : Rep c.X Γ ρ σ2 H F A) (h : Agree (inOwn own) (wipe σ own) σ2) : ∃ A', Rep c.X Γ (Pz.unset ρ own) (wipe σ own) H F A' ∧ ∀ a, Own A' a → Own A a := by
  obtain ⟨A', r', o⟩ := r.unset own
  refine ⟨A', r'.swap h.len.symm fun i d e => ?_, o⟩
  have := (unset_get e).1
  exact (h.at_ i (by simp [inOwn, this])).symm
theorem lc_go {own : List Nat} {Q : VK} (h0 : ∀ i ∈ own, Γ.getD i 0 = 0)
    (h : tX c W Γ ⟨true, false, 1⟩ (fun ρ => (fi ρ).bind fun p => (nox (compR (lcF g fc fe own) p.1 p.2 [])).bind fun r => .ok (.lst r.1, back p.2 r.2 own)) σ H Q) :
    tLc (tI c W Γ pi fi) (tG c never (Zb own) Γ Γ g) (tX2 c never Γ pc fc) (tX c never Γ ⟨true, pe, 0⟩ fe) own σ H Q := by
  obtain ⟨F, A, ρ, r, h⟩ := h
  refine ⟨F, A, ρ, r, h.bind.imp fun p _ hq J H1 F1 A1 md ⟨G, gG, w⟩ Dp hD => ?_⟩
  cases er : compR (lcF g fc fe own) p.1 p.2 [] with
  | error z => rw [er] at hq; exact hq.elim
  | ok rr =>
  rw [er] at hq
  replace hq : Ends' c Γ ⟨true, false, 1⟩ σ ρ H F A Q (.lst rr.1, back p.2 rr.2 own) := hq
  have own0 : ∀ i ∈ own, A1 i = [] := fun i hi => by
    by_cases e : ∃ d, p.2[i]? = some (some d)
    · obtain ⟨d, e⟩ := e
      obtain ⟨v, _, o⟩ := md.rep.val i d e
      rw [h0 i hi] at o
      exact o.1
    · exact md.rep.non i fun d z => e ⟨d, z⟩
  let Pv : Nat → Hp → Prop := fun i H' => ∃ F' A' ρ' acc, ∃ ps : List (V × D), Sub F1 F' ∧ Rep c.X Γ (unset ρ' own) (wipe σ own) H' F' A' ∧ ρ'.length = p.2.length ∧ Kept Dp (ps.map (·.1)) H' F' A' ∧ acc = ps.map (·.2) ∧ (∀ q ∈ ps, RD c.X F' q.1 q.2) ∧
    Nxt H1 F1 (Own A1) H' F' (Own A') ∧ compR (lcF g fc fe own) (p.1.drop i) ρ' acc = .ok rr
  have sb := upd_sub (o := .lst []) hD
  refine lc_it w Pv ?_ (fun i H' _ ⟨F', A', ρ', acc, ps, s, r', _⟩ => gG H' (s.trans r'.sub)) ?_ ?_
  · have nD : ¬ Own A1 Dp := fun z => (md.rep.dom z).1 hD
    have n0 : Nxt H1 F1 (Own A1) (upd H1 Dp (.lst [])) F1 (Own A1) := Nxt.grow sb
    have r1 : Rep c.X Γ p.2 σ (upd H1 Dp (.lst [])) F1 A1 := md.rep.step (Nxt.grow (P := fun _ => False) sb) (md.rep.sub.trans sb) fun _ _ z => z
    obtain ⟨A2, r2, o2⟩ := r1.unset own
    refine ⟨F1, A2, p.2, [], [], Sub.refl _, r2.swap (wipe_length _ _) fun i d e => wipe_out (unset_get e).1, rfl, ⟨upd_same, md.fresh hD, fun z => nD (o2 _ z)⟩, rfl, fun _ z => absurd z (by simp), n0.weak (fun _ z => z) fun a z => .inl (o2 a z), er⟩
  · intro i x Hc H2 hlt ⟨F', A', ρ', acc, ps, s, r', hlen, kp, eacc, hps, n', ecomp⟩ hy
    obtain ⟨d, hd⟩ : ∃ d, p.1[i]? = some d := ⟨p.1[i], List.getElem?_eq_getElem hlt⟩
    obtain ⟨F2, k1, k2, k3, k4, rx⟩ := hy F' s r'.sub d hd
    have nn : Nxt Hc F' (fun _ => False) H2 F2 (fun _ => False) := ⟨fun a o e _ => k1 a o e, k2, fun a e => (k4 a e).elim .inl fun z => .inr (.inr z), fun _ z => z.elim⟩
    have nn' : Nxt Hc F' (Own A') H2 F2 (Own A') := nn.weak (fun _ z => z.elim) fun a z => .inr z
    have r2 := r'.step nn k3 fun _ _ z => z
    have ed : p.1.drop i = d :: p.1.drop (i + 1) := by
      rw [List.drop_eq_getElem_cons hlt]
      congr 1
      have := List.getElem?_eq_getElem hlt
      rw [hd] at this
      exact (Option.some.inj this).symm
    rw [ed] at ecomp
    obtain ⟨p1, e1, e2⟩ := bind_ok_inv (show ((lcF g fc fe own) d ρ' acc).bind (fun q => compR (lcF g fc fe own) (p.1.drop (i + 1)) q.2 q.1) = .ok rr from ecomp)
    obtain ⟨ρ1, e3, e4⟩ := bind_ok_inv e1
    obtain ⟨t, e5, e6⟩ := bind_ok_inv e4
    refine ⟨F2, A', _, d, r2, rx, Run.of_eq e3 fun σ2 H3 F3 A3 ag r3 n3 => ⟨wipe_agree ag, F3, A3, ρ1, r3, Run.of_eq e5 fun H4 F4 A4 m4 => ?_⟩⟩
    have nA : Nxt H1 F1 (Own A1) H4 F4 (Own A4) := ((n'.trans nn').trans n3).trans m4.nx0
    have kp4 : Kept Dp (ps.map (·.1)) H4 F4 A4 := ((kp.step nn').step n3).step m4.nx0
    have s4 : Sub F' F4 := k2.trans (n3.fro.trans m4.nx0.fro)
    obtain ⟨tb, ρt⟩ := t
    have lt : ρt.length = p.2.length := by rw [m4.rep.len, ag.len, wipe_length, ← md.rep.len]
    cases tb with
    | false =>
      show Pv (i + 1) H4
      replace e6 : (Except.ok (acc, ρt) : R (List D × Env)) = .ok p1 := e6
      cases e6
      obtain ⟨A5, r5, o5⟩ := m4.rep.again ag
      exact ⟨F4, A5, ρt, acc, ps, s.trans s4, r5, lt, ⟨kp4.at_, kp4.fr, fun z => kp4.nown (o5 _ z)⟩, eacc, fun q hq => (hps q hq).mono s4, nA.weak (fun _ z => z) fun a z => .inl (o5 a z), e2⟩
    | true =>
      show tX c never Γ { own := true, pu := pe, lv := 0 } fe σ2 H4 fun y H4 => ∃ acc, H4 Dp = some (HO.lst acc) ∧ acc.length < sizeLine ∧ Pv (i + 1) (upd H4 Dp (HO.lst (acc ++ [y])))
      replace e6 : (fe ρt).bind (push acc) = .ok p1 := e6
      obtain ⟨q, e7, e8⟩ := bind_ok_inv e6
      unfold push at e8
      split at e8 <;> cases e8
      rename_i hacc
      refine ⟨F4, A4, ρt, m4.rep, Run.of_eq e7 fun y H5 F5 A5 B o5 => ⟨ps.map (·.1), (kp4.step o5.nx0).at_, by rw [← line_lim]; rw [eacc] at hacc; simpa using hacc, ?_⟩⟩
      have kp5 := kp4.step o5.nx0
      have n6 : Nxt H5 F5 (fun a => a = Dp) (upd H5 Dp (.lst (ps.map (·.1) ++ [y]))) F5 (fun a => a = Dp) := ⟨fun a u hu hn => by rw [upd_ne hn]; exact hu, Sub.refl _, fun a z => .inl z, fun a z => .inl z⟩
      have sub6 : Sub F5 (upd H5 Dp (.lst (ps.map (·.1) ++ [y]))) := fun a u hu => by
        have : a ≠ Dp := fun e => by rw [e, kp5.fr] at hu; cases hu
        rw [upd_ne this]; exact o5.rep.sub a u hu
      have r6 : Rep c.X Γ q.2 σ2 (upd H5 Dp (.lst (ps.map (·.1) ++ [y]))) F5 A5 := o5.rep.step n6 sub6 fun a z e => kp5.nown (e ▸ z)
      obtain ⟨A7, r7, o7⟩ := r6.again ag
      have hD1 : ¬ Own A1 Dp := fun z => (md.rep.dom z).1 hD
      refine ⟨F5, A7, q.2, acc ++ [q.1], ps ++ [(y, q.1)], s.trans (s4.trans o5.nx0.fro), r7, by rw [o5.rep.len, ag.len, wipe_length, ← md.rep.len], ⟨by rw [List.map_append]; exact upd_same, kp5.fr, fun z => kp5.nown (o7 _ z)⟩, by rw [eacc, List.map_append]; rfl, fun z hz => ?_, ?_, e2⟩
      · rcases List.mem_append.mp hz with hz | hz
        · exact (hps z hz).mono (s4.trans o5.nx0.fro)
        · rw [List.mem_singleton.mp hz]; exact o5.ot.2
      · have nB := nA.trans o5.nx0
        refine ⟨fun a u hu hn => ?_, nB.fro, nB.new, fun a z => nB.own a (o7 a z)⟩
        have : a ≠ Dp := fun e => by rw [e, hD] at hu; cases hu
        rw [upd_ne this]; exact nB.keep a u hu hn
  · intro He ⟨F', A', ρ', acc, ps, s, r', hlen, kp, eacc, hps, n', ecomp⟩
    rw [List.drop_length] at ecomp
    replace ecomp : (Except.ok (acc, ρ') : R (List D × Env)) = .ok rr := ecomp
    cases ecomp
    have hall := md.nx0.trans n'
    have dis : ∀ i, i ∈ own → A' i = [] := fun i hi => r'.non i fun d z => (unset_get z).1 hi
    refine hq (.ref Dp) He F' A' [Dp] ⟨⟨⟨r'.sub, ?_, fun i d hi => ?_, fun i hi => ?_, r'.nd, r'.dis⟩, ?_, fun z => absurd z (by simp)⟩, ?_, fun _ => by simp, fun _ a ha z => kp.nown (List.mem_singleton.mp ha ▸ z)⟩
    · rw [back_length, hlen]; exact md.rep.len
    · by_cases m : i ∈ own
      · have hil : i < p.2.length := by
          have := (List.getElem?_eq_some_iff.mp hi).1
          rw [back_length, hlen] at this; exact this
        rw [back_in m (by rw [hlen]; exact hil) hil] at hi
        obtain ⟨v, ev, o⟩ := md.rep.val i d hi
        refine ⟨v, ev, ?_⟩
        rw [h0 i m] at o ⊢
        exact ⟨dis i m, o.2.mono s⟩
      · rw [back_out m] at hi
        obtain ⟨v, ev, o⟩ := r'.val i d (by rw [unset_out m]; exact hi)
        rw [wipe_out m] at ev
        exact ⟨v, ev, o⟩
    · by_cases m : i ∈ own
      · exact dis i m
      · exact r'.non i fun d z => hi d (by rw [back_out m]; rw [unset_out m] at z; exact z)
    · exact ⟨hall.keep, hall.fro, hall.new, fun a z => z.elim (hall.own a) fun z => by rw [List.mem_singleton.mp z.2]; exact md.nx0.free hD⟩
    · refine ⟨Dp, ps.map fun q => (q.1, q.2, []), rfl, by rw [eacc, List.map_map]; rfl, by rw [kp.at_, List.map_map]; rfl, kp.fr, ?_, fun q hq' => ?_⟩
      · rw [List.map_map]
        have : (List.map ((fun x : V × D × List Addr => x.2.2) ∘ fun x : V × D => (x.1, x.2, [])) ps).flatten = [] := by
          simp [List.flatten_eq_nil_iff]
        rw [this]
      · obtain ⟨z, hz, rfl⟩ := List.mem_map.mp hq'
        exact ⟨rfl, hps z hz⟩

/-- a test of a comprehension -/
theorem tX2_yes (r : tX2 c W Γ true (fun ρ => .ok (true, ρ)) σ H Q) : tYes σ H Q := by
  obtain ⟨F, A, ρ, r, h⟩ := r
  replace h : ∀ H' F' A', Mid c Γ σ ρ H F A ρ H' F' A' (fun _ => False) true → Q true H' := h
  exact h H F A (Mid.refl r)
/-- name = [..] of a comprehension whose value is stored ahead of its end -/
theorem ss_setLc {own : List Nat} {sm : Stmt} (nm : NmAt Y Γ Z i x) (h0 : ∀ i ∈ own, Γ.getD i 0 = 0)
    (h : PS Y sm (tAsg (tLc (tI c W Γ pi fi) (tG c never (Zb own) Γ Γ g) (tX2 c never Γ pc fc) (tX c never Γ ⟨true, pe, 0⟩ fe) own) (gName i))) {m : Nat} (hm : m ≤ 1) :
    SS c W Z Γ (Γ.set i m) Y sm (fun ρ => ((fi ρ).bind fun p => (nox (compR (lcF g fc fe own) p.1 p.2 [])).bind fun r => .ok (.lst r.1, back p.2 r.2 own)).bind fun p => .ok (.nx (st p.2 i p.1))) :=
  PS.imp h fun N σ H ⟨F, A, ρ, r, h⟩ => lc_go h0 (tX.inS (ka := ⟨true, false, 1⟩) (g := fun d ρ1 => (.ok (.nx (st ρ1 i d)) : R Fl)) r h fun x H1 F1 A1 d ρ1 B o h1 => by
    replace h1 : EndS c Z (Γ.set i m) N σ H F A (.nx (st ρ1 i d)) := h1
    obtain ⟨F2, B2, o2⟩ := o.low (k' := ⟨true, false, m⟩) rfl hm fun z => z
    obtain ⟨A', r', o'⟩ := o2.rep.store nm.lv o2.ot (o2.nd rfl) (o2.dj rfl)
    exact h1 _ H1 F2 A' (.set nm.mm) r' (o2.mid.nx.weak (fun _ h => h) fun a z => .inl ((o' a z).imp (fun z => z) fun z => ⟨rfl, z⟩)))
/-- never reached -/
theorem ss_bad {sm : Stmt} : SS c W Z Γ Γ' Y sm (fun _ => bad) := PS.imp ps_never fun N σ H ⟨F, A, ρ, r, h⟩ => h
/-- x.append(e) -/
theorem ss_app {apos cpos : Pos} (cx : Ctx c W Y) (hN : Y.N[i]? = some x) (hv : Vis Y.env.scope x) (hd : (x == ("__debug__" : Str)) = false) (hcd : (x == ("__classdict__" : Str)) = false) (hi : Γ.getD i 0 = 1) (he : SX c W Γ ⟨true, pe, 0⟩ Y e fe)
    (hbase : attributeBase (.Name x p0) "append" Y.env (eval (.Name x p0) Y.env) = eval (.Name x p0) Y.env)
    (hfew : ((backTo cpos (starEach [e] Y.env)).all (fun x => !x.1) && (backToKw cpos (keywordEach [] Y.env)).all (fun x => x.1.isSome) && decide (([e] : List Expr).length + ([] : List Keyword).length + (if ([] : List Keyword).isEmpty then 0 else 1) < 30)) = true)
    (hline : (apos.endLine == cpos.line) = true) (hs : starEach [e] Y.env = (false, eval e Y.env) :: starEach [] Y.env) (hpl : (backTo cpos (starEach [] Y.env)).any (·.1) = false)
    (hsw : swapsWith (.Call (.Attribute (.Name x p0) "append" apos) [e] [] cpos) none pos.line Y.env = pure false) :
    SS c W Z Γ Γ Y (.Expr (.Call (.Attribute (.Name x p0) "append" apos) [e] [] cpos) pos) (fun ρ => ((optR (gt ρ i)).bind fun _ => .ok (i, [], ρ)).bind fun p : Nat × List Pz.D × Env => (optR ((gt p.2.2 p.1).bind (updAt lstD p.2.1))).bind fun _ => (fe p.2.2).bind fun q =>
      (optR (gt q.2 p.1)).bind fun x => (optR (updAt (appD q.1) p.2.1 x)).bind fun x' => .ok (.nx (st q.2 p.1 x'))) :=
  PS.imp (ps_expr (pe_bm PySem.F.plainAttrs_list PySem.F.slot_list_append PySem.F.type_list_append mt_append (pe_var (i := i) hN hv hd hcd) (pa_cons he pa_nil hs) hbase hfew hline hs hpl) hsw) fun N σ H ⟨F, A, ρ, r, h⟩ => by
    dsimp only at h
    rw [bind_assoc] at h
    obtain ⟨d0, e0, h0⟩ := Run.opt h
    replace h0 : Run c (WM W Z.M σ) σ H F (Own A) ((optR ((gt ρ i).bind lstD)).bind fun _ => (fe ρ).bind fun q => (optR (gt q.2 i)).bind fun x => (optR (appD q.1 x)).bind fun x' => .ok (.nx (st q.2 i x'))) (EndS c Z Γ N σ H F A) := h0
    obtain ⟨d1, e1, h2⟩ := Run.opt h0
    rw [e0] at e1
    replace e1 : lstD d0 = some d1 := e1
    cases d0 <;> first | (cases e1; done) | skip
    rename_i l0
    obtain ⟨ad, ps0, s0, el0, g0, f0, _⟩ := r.list1 hi (gt_ok e0)
    refine ⟨.ref ad, s0, .inl ⟨rfl, _, .of g0⟩, tX.inS (g := fun q ρ1 => (optR (gt ρ1 i)).bind fun x => (optR (appD q x)).bind fun x' => (.ok (.nx (st ρ1 i x')) : R Fl)) r h2 fun y H1 F1 A1 q ρ1 B o h3 => ?_⟩
    obtain ⟨xl, e3, h4⟩ := Run.opt h3
    obtain ⟨xl', e4, h5⟩ := Run.opt h4
    cases xl <;> first | (cases e4; done) | skip
    rename_i l
    replace e4 : (if l.length < lim then some (Pz.D.lst (l ++ [q])) else none) = some xl' := e4
    split at e4 <;> cases e4
    rename_i hlen
    replace h5 : EndS c Z Γ N σ H F A (.nx (st ρ1 i (.lst (l ++ [q])))) := h5
    obtain ⟨ad', ps, s1, rfl, s3, s4, s5⟩ := o.rep.list1 hi (gt_ok e3)
    rw [s0] at s1
    cases s1
    obtain ⟨r6, n6⟩ := s5 (ps ++ [(y, q)]) fun z hz => (List.mem_append.mp hz).elim (s4 z) fun z' => by rw [List.mem_singleton.mp z']; exact o.ot.2
    rw [List.map_append, List.map_append] at r6
    rw [List.map_append] at n6
    refine ⟨ad, _, y, rfl, rfl, s3, by rw [← line_lim]; simpa using hlen, ?_⟩
    exact h5 σ _ F1 A1 .refl r6 (o.nx0.trans n6)
end
end Pz
end
section
set_option Elab.async false
set_option linter.all false
/-! A def's promise from its body; what a checker knows of a scope. -/
namespace Pz
open PySem PySem.Spec PyProof.Rows L2

/-- a scope as the checker sees it -/
structure Scp (c : Cf) (P : Program) (w : World) (mg : Str → Option Value) (base : Heap) (k : Nat) (N : List Str) (sc : List (Str × NameKind)) (W : WX) (Y : Cx) : Prop extends Ctx c W Y where
  eP : Y.prog = P
  ew : Y.w = w
  emg : Y.mg = mg
  ebase : Y.base = base
  room : RoomG k Y.A
  eN : Y.N = N
  nd : N.Nodup
  look : ∀ x kd, sc.lookup x = some kd → Y.env.scope.names.lookup x = some kd ∨ (kd = .free ∧ Y.env.scope.names.lookup x = some .cell)
  fn : ∀ x, sc.lookup x = some .cell → Y.fn x = true
  pass : PassesOwn (model Y.prog Y.w) Y.A Y.env Y.xe

def visB (sc : List (Str × NameKind)) (x : Str) : Bool := match sc.lookup x with | some .local | some .cell | some .free => true | _ => false
def glB (sc : List (Str × NameKind)) (x : Str) : Bool := match sc.lookup x with | some .globalImplicit => true | _ => false
def locB (sc : List (Str × NameKind)) (x : Str) : Bool := match sc.lookup x with | some .local | some .cell => true | _ => false
section
variable {c : Cf} {P : Program} {w : World} {mg : Str → Option Value} {base : Heap} {k : Nat} {N : List Str} {sc : List (Str × NameKind)} {W : WX} {Y : Cx} {x : Str}
theorem Scp.vis (s : Scp c P w mg base k N sc W Y) (h : visB sc x = true) : Vis Y.env.scope x := by
  unfold visB at h
  split at h
  · rename_i e; rcases s.look x _ e with z | z
    · exact .inl z
    · cases z.1
  · rename_i e; rcases s.look x _ e with z | z
    · exact .inr (.inl z)
    · cases z.1
  · rename_i e; rcases s.look x _ e with z | z
    · exact .inr (.inr z)
    · exact .inr (.inl z.2)
  · cases h
theorem Scp.gl (s : Scp c P w mg base k N sc W Y) (h : glB sc x = true) : Gl Y x := by
  unfold glB at h
  split at h
  · rename_i e; rcases s.look x _ e with z | z
    · exact z
    · cases z.1
  · cases h
theorem Scp.loc (s : Scp c P w mg base k N sc W Y) (h : locB sc x = true) : Loc Y.env.scope x ∧ (Y.fn x = true ∨ Y.env.scope.names.lookup x = some .local) := by
  unfold locB at h
  split at h
  · rename_i e; rcases s.look x _ e with z | z
    · exact ⟨.inl z, .inr z⟩
    · cases z.1
  · rename_i e; rcases s.look x _ e with z | z
    · exact ⟨.inr z, .inl (s.fn x e)⟩
    · cases z.1
  · cases h
end

/-- the levels at a def's entry -/
def lev0 (sg : Sg) (ns : Nat) : List Nat := (List.range ns).map fun i => sg.pl.getD i 0
def ioM (io : List Nat) : Nat → Bool := fun i => !(io.contains i)
def Z0 (f : Fn) (sg : Sg) : Zd := ⟨ioM f.io, [], [], lev0 sg f.ns, sg.rl⟩
theorem lev0_get {sg : Sg} {ns i : Nat} (h : i < ns) : (lev0 sg ns).getD i 0 = sg.pl.getD i 0 := by
  unfold lev0
  rw [List.getD_eq_getElem?_getD, List.getElem?_map, List.getElem?_range h]
  rfl
section
variable {c : Cf} {Γ : List Nat} {σ : Sl} {ρ : Env} {H F : Hp} {A : Nat → List Addr} {vs : List V} {np : Nat} {sg : Sg} {io : List Nat} {os : List D}
/-- what is lent comes back -/
theorem Rep.outs (r : Rep c.X Γ ρ σ H F A) (hv : vs.length = np) (hio : io = [] ∨ ∃ j, io = [j] ∧ j < np ∧ σ[j]? = (vs.map some)[j]? ∧ Γ.getD j 0 = sg.pl.getD j 0) (ho : Pz.outs ρ io = some os) :
    os.length = io.length ∧ ∃ A', Rep c.X sg.pl (ioE np io os) (vs.map some) H F A' ∧ ∀ a, Own A' a → Own A a := by
  rcases hio with rfl | ⟨j, rfl, hj, hs, hl⟩
  · cases ho
    refine ⟨rfl, fun _ => [], ⟨r.sub, by simp [ioE, hv], fun i d h => ?_, fun _ _ => rfl, fun _ => List.nodup_nil, fun _ _ _ _ z => absurd z (by simp)⟩, fun a ⟨_, z⟩ => absurd z (by simp)⟩
    rw [show ioE np [] [] = List.replicate np none from rfl, List.getElem?_replicate] at h
    split at h <;> cases h
  · obtain ⟨o, e1, e2⟩ := Option.bind_eq_some_iff.mp ho
    cases e2
    refine ⟨rfl, fun i => if i = j then A j else [], ⟨r.sub, by simp [ioE, hv], fun i d h => ?_, fun i h => ?_, fun i => ?_, fun i l hil a z w => ?_⟩, fun a ⟨i, z⟩ => ?_⟩
    · by_cases e : i = j
      · subst e
        rw [show (ioE np [i] [o])[i]? = some (some o) from List.getElem?_set_self (by simpa using hj)] at h
        cases h
        obtain ⟨v, ev, ot⟩ := r.val i o (gt_ok e1)
        exact ⟨v, by rw [← hs]; exact ev, by rw [← hl]; simpa using ot⟩
      · rw [show (ioE np [j] [o])[i]? = (List.replicate np none)[i]? from List.getElem?_set_ne (Ne.symm e), List.getElem?_replicate] at h
        split at h <;> cases h
    · by_cases e : i = j
      · subst e
        exact absurd (show (ioE np [i] [o])[i]? = some (some o) from List.getElem?_set_self (by simpa using hj)) (h o)
      · simp [e]
    · by_cases e : i = j
      · simpa [e] using r.nd j
      · simp [e]
    · by_cases e : i = j <;> by_cases e' : l = j
      · exact hil (e.trans e'.symm)
      · simp [e'] at w
      · simp [e] at z
      · simp [e] at z
    · by_cases e : i = j
      · simp only [e, if_true] at z; exact ⟨j, z⟩
      · simp [e] at z
end

theorem fn_ok {c : Cf} {P : Program} {w : World} {mg : Str → Option Value} {base : Heap} {k : Nat} {ad : Addr} {name qual : Str} {params : Arguments} {body : List Stmt} {scope : Scope} {dV kV doc pm cdv ct oc : Value} {an od : Option Addr}
    {osl : Array (Option Value)} {N ps : List Str} {f : Fn} {sg : Sg} {C : Cfg} {fb : Env → R Fl} (lk : c.X.K.lookup ad = some ⟨oc, od, .func (PySem.W.fnOf name qual params body scope dV kV doc pm an cdv ct), osl⟩) (hcd : PySem.W.codeIn c.X.K cdv qual = true) (S : FnScope N ps scope)
    (hN : N.length = f.ns) (hps : ps.length = f.np) (hio : f.io = [] ∨ ∃ j, f.io = [j] ∧ j < f.np) (hnn : f.np ≤ f.ns) (hnd : base.NoDigits) (hsm : SmOk base) {Γe : List Nat} (hΓe : ∀ j ∈ f.io, Γe.getD j 0 = sg.pl.getD j 0)
    (hfb : fb = evB C f.body)
    (hbody : ∀ (W : WX) (Y : Cx), Scp c P w mg base k N scope.names W Y → (∀ x, Y.env.kindOf x = scope.names.lookup x) → Y.env.blockKind = .function → Y.stack = Y.env :: Y.outer → Y.env.frame = some Y.env.locals → Y.ex = [] → SSs c W (Z0 f sg) (lev0 sg f.ns) Γe Y body fb) :
    FnG P w c.X.K mg base (L2.CX P w) (k + 1) ad (PySem.W.fnOf name qual params body scope dV kV doc pm an cdv ct) ps (spF c f.np f.io sg (runFn C f)) := by
  refine fng_of lk hcd S (fun vs H Q E ⟨F, A, ds, h1, _⟩ => h1.trans hps.symm) fun A outer s H vs Q E hr hsp => ?_
  obtain ⟨F, A0, ds, hv, hd, r, hrun⟩ := hsp
  let Y := cxOf (L2.CX P w) P w c.X.K mg base N qual scope ad cdv A outer s H E
  have hsc : Scp c P w mg base k N scope.names (fun cls dx _ H' => E cls dx H') Y := {
    K := rfl
    tk := takes_of (E₁ := fun e' s'' => L2.CX P w outer H s E e' s'') rfl rfl rfl rfl
    hu := by have := hr.r.un; show (A.deeper _).units + 65 < cLine; omega
    calm := rfl
    gd := hr.g
    dg := hnd
    sm := hsm
    eP := rfl
    ew := rfl
    emg := rfl
    ebase := rfl
    room := hr
    eN := rfl
    nd := S.nd
    look := fun x kd h => .inl h
    fn := fun _ _ => rfl
    pass := passes_of (E₁ := fun e' s'' => L2.CX P w outer H s E e' s'') rfl }
  refine ⟨_, hbody _ Y hsc (fun _ => rfl) (by show (if scope.kind.isAnnotationScope then ScopeKind.function else scope.kind) = _; rw [S.kind]; rfl) rfl rfl rfl, F, A0, initE f ds, ?_, ?_⟩
  · refine ⟨r.sub, ?_, fun i d h => ?_, fun i h => ?_, r.nd, r.dis⟩
    · unfold initE L2.start
      rw [List.length_append, List.length_append, List.length_map, List.length_map, List.length_replicate, List.length_replicate, hv, hd, hN]
    · have hi : i < f.np := by
        rcases Nat.lt_or_ge i f.np with z | z
        · exact z
        · unfold initE at h
          rw [List.getElem?_append_right (by rw [List.length_map, hd]; exact z), List.getElem?_replicate] at h
          split at h <;> cases h
      unfold initE at h
      rw [List.getElem?_append_left (by rw [List.length_map, hd]; exact hi)] at h
      obtain ⟨v, ev, o⟩ := r.val i d h
      refine ⟨v, ?_, ?_⟩
      · unfold L2.start
        rw [List.getElem?_append_left (by rw [List.length_map, hv]; exact hi)]
        exact ev
      · rw [lev0_get (Nat.lt_of_lt_of_le hi hnn)]; exact o
    · refine r.non i fun d z => h d ?_
      have hi : i < f.np := by
        have := (List.getElem?_eq_some_iff.mp z).1
        rw [List.length_map, hd] at this; exact this
      unfold initE
      rw [List.getElem?_append_left (by rw [List.length_map, hd]; exact hi)]
      exact z
  · have hrun2 : Run c (fun cls dx _ H' => E cls dx H') [] H F (Own A0) ((fb (initE f ds)).bind (endFn f)) (FnP c f.np f.io sg vs H F A0 Q) := by
      rw [hfb]
      have : runFn C f ds = (evB C f.body (initE f ds)).bind (endFn f) := if_pos hd
      rw [← this]; exact hrun
    have hrun3 : Run c (WM (fun cls dx _ H' => E cls dx H') (Z0 f sg).M (L2.start N vs)) (L2.start N vs) H F (Own A0) ((fb (initE f ds)).bind (endFn f)) (FnP c f.np f.io sg vs H F A0 Q) := by
      cases e : (fb (initE f ds)).bind (endFn f) with
      | ok b => rw [e] at hrun2; exact hrun2
      | error er =>
        rw [e] at hrun2
        cases er with
        | stuck => exact hrun2
        | exc kk fs => exact fun cls dx H' x σ' _ => hrun2 cls dx H' x
    have ioK : ∀ {σ' : Sl} {Γ : List Nat}, Agree (Z0 f sg).M (L2.start N vs) σ' → (∀ j ∈ f.io, Γ.getD j 0 = sg.pl.getD j 0) → (f.io = [] ∨ ∃ j, f.io = [j] ∧ j < f.np ∧ σ'[j]? = (vs.map some)[j]? ∧ Γ.getD j 0 = sg.pl.getD j 0) := by
      intro σ' Γ ag hg
      rcases hio with z | ⟨j, z, hj⟩
      · exact .inl z
      · refine .inr ⟨j, z, hj, ?_, hg j (by rw [z]; simp)⟩
        rw [ag.at_ j (by show (!(f.io.contains j)) = false; rw [z]; simp)]
        unfold L2.start
        exact List.getElem?_append_left (by rw [List.length_map, hv]; exact hj)
    refine hrun3.bind.imp fun fl _ hq => ?_
    cases fl with
    | nx ρ' =>
      intro σ' H' F' A' ag r' n'
      replace hq : Run c _ (L2.start N vs) H F (Own A0) ((optR (outs ρ' f.io)).bind fun o => .ok (.non, o)) (FnP c f.np f.io sg vs H F A0 Q) := hq
      obtain ⟨os, eo, hq⟩ := Run.opt hq
      replace hq : FnP c f.np f.io sg vs H F A0 Q (.non, os) := hq
      obtain ⟨hl, A2, r2, o2⟩ := r'.outs (sg := sg) hv (ioK ag hΓe) eo
      exact hq .non H' F' A2 [] hl r2 (n'.weak (fun _ z => z) fun a z => .inl (z.elim (o2 a) fun z => absurd z (by simp))) (.atom .non rfl) List.nodup_nil fun _ z => absurd z (by simp)
    | rt d ρ' =>
      intro σ' v H' F' A' B ag r' n' ot nd dj
      replace hq : Run c _ (L2.start N vs) H F (Own A0) ((optR (outs ρ' f.io)).bind fun o => .ok (d, o)) (FnP c f.np f.io sg vs H F A0 Q) := hq
      obtain ⟨os, eo, hq⟩ := Run.opt hq
      replace hq : FnP c f.np f.io sg vs H F A0 Q (d, os) := hq
      obtain ⟨hl, A2, r2, o2⟩ := r'.outs (sg := sg) hv (ioK ag fun j hj => lev0_get (by rcases hio with z | ⟨i, z, hi⟩ <;> rw [z] at hj <;> simp at hj; omega)) eo
      exact hq v H' F' A2 B hl r2 (n'.weak (fun _ z => z) fun a z => .inl (z.imp (o2 a) fun z => z)) ot nd fun a ha z => dj a ha (o2 a z)
    | bk ρ' => exact hq.elim
    | ct ρ' => exact hq.elim
end Pz
end
section
set_option Elab.async false
set_option linter.all false
/-! Facts of syntax; return of a slot. -/
namespace Pz
open PySem PySem.Spec PyProof.Rows L2

def noStar : Expr → Bool
  | .Starred _ _ => false
  | _ => true
theorem star_cons {e : Expr} {es : List Expr} {env : PySem.Env} (h : noStar e = true) : starEach (e :: es) env = (false, eval e env) :: starEach es env := by
  cases e <;> first | rfl | cases h
theorem star_any {es : List Expr} {env : PySem.Env} {pos : Pos} (h : es.all noStar = true) : (backTo pos (starEach es env)).any (·.1) = false := by
  induction es with
  | nil => rfl
  | cons e es ih =>
    rw [List.all_cons, Bool.and_eq_true] at h
    rw [star_cons h.1]
    unfold backTo at ih ⊢
    rw [List.map_cons, List.any_cons, ih h.2]; rfl
def plainT : Expr → Bool
  | .BoolOp .. | .UnaryOp .. | .IfExp .. | .Compare .. => false
  | _ => true
theorem plain_true {e : Expr} {env : PySem.Env} (h : plainT e = true) : ∀ whole, isTrue e env whole = (do let v ← whole; standAt e.pos; holding [v] (truthy v)) := by
  intro whole
  cases e <;> first | rfl | (cases h; done)
def plainI : Expr → Bool
  | .Slice .. => false
  | _ => true
theorem plain_ix {e : Expr} (h : plainI e = true) : PlainIx e := by
  intro o i
  cases e <;> first | rfl | (cases h; done)
def noSet : Expr → Bool
  | .Set .. => false
  | _ => true
theorem folded {e : Expr} {env : PySem.Env} (h : noSet e = true) : ∀ x, foldedSetIterable e env x = pure x := by
  intro x
  cases e <;> first | rfl | (cases h; done)
theorem mark {e : Expr} {op : CmpOp} (h : noSet e = true) : behindInMarks op e = false := by
  cases e <;> first | rfl | (cases h; done)
theorem assign_cons {e : Expr} {es : List Expr} {env : PySem.Env} (h : noStar e = true) : (assignEach (e :: es) env).map (·.2) = assign e env :: (assignEach es env).map (·.2) := by
  cases e <;> first | rfl | cases h
theorem assign_len {es : List Expr} {env : PySem.Env} : (assignEach es env).length = es.length := by
  induction es with
  | nil => rfl
  | cons e es ih => cases e <;> exact congrArg (· + 1) ih
theorem assign_find {es : List Expr} {env : PySem.Env} (h : es.all noStar = true) : (assignEach es env).findIdx? (·.1) = none := by
  induction es with
  | nil => rfl
  | cons e es ih =>
    rw [List.all_cons, Bool.and_eq_true] at h
    have h2 := ih h.2
    cases e <;> first | (cases h.1; done) | skip
    all_goals
      show ((_, _) :: assignEach es env).findIdx? (·.1) = none
      rw [List.findIdx?_cons, h2]; rfl
def noComp : Expr → Bool
  | .ListComp .. | .SetComp .. | .DictComp .. => false
  | _ => true
theorem swaps_no {e : Expr} {t : Option Expr} {l : Nat} {env : PySem.Env} (h : noComp e = true) : swapsWith e t l env = pure false := by
  cases e <;> first | rfl | (cases h; done)
theorem attr_name {x a : Str} {p : Pos} {env : PySem.Env} {wh : Sem Value} : attributeBase (.Name x p) a env wh = wh := rfl

section
variable {c : Cf} {W : WX} {Z : Zd} {Γ Γ1 Γ' : List Nat} {Y : Cx} {pos p0 : Pos} {i : Nat} {x : Str}
/-- a slot's own value goes out -/
theorem ss_retv (hN : Y.N[i]? = some x) (hv : Vis Y.env.scope x) (hd : (x == ("__debug__" : Str)) = false) (hcd : (x == ("__classdict__" : Str)) = false) (hr : Z.rl ≤ Γ.getD i 0) (hl : ∀ j, j ≠ i → Z.Γr.getD j 0 ≤ Γ.getD j 0) :
    SS c W Z Γ Γ' Y (.Return (some (.Name x p0)) pos) (fun ρ => (optR (gt ρ i)).bind fun d => .ok (.rt d (ρ.set i none))) :=
  PS.imp (ps_ret (pe_var (i := i) hN hv hd hcd)) fun N σ H ⟨F, A, ρ, r, h⟩ => by
    obtain ⟨d, e, h⟩ := Run.opt h
    replace h : EndS c Z Γ' N σ H F A (.rt d (ρ.set i none)) := h
    obtain ⟨v, ev, o⟩ := r.val i d (gt_ok e)
    refine ⟨v, ev, ?_⟩
    -- the slot's tree, at the level that is told
    obtain ⟨B, b1, b2, b3⟩ := o.lower (r.nd i) hr
    have own := fun a (ha : a ∈ A i) => r.dom ⟨i, ha⟩
    let F1 := frz H F ((A i).filter fun a => decide (a ∉ B))
    have s1 := frz_sub (B := (A i).filter fun a => decide (a ∉ B)) r.sub
    have n1 : Nxt H F (fun a => a ∈ A i) H F1 (fun a => a ∈ B) := ⟨fun a u hu _ => hu, s1.1, fun a z => (frz_ne z).imp (fun z => z) fun z => .inl (List.mem_filter.mp z).1, fun a z => .inl (b1 a z)⟩
    have ob : OT c.X H F1 Z.rl v d B := b3 F1 s1.1 (fun b hb nb => frz_at (List.mem_filter.mpr ⟨hb, by simp [nb]⟩)) fun b hb => by
      show frz H F _ b = none
      unfold frz
      rw [if_neg fun z => by have := (List.mem_filter.mp z).2; simp at this; exact this hb]
      exact (own b (b1 b hb)).2
    have rd := r.drop i
    have r1 : Rep c.X Γ (ρ.set i none) σ H F1 (fun j => if j = i then [] else A j) := rd.step n1 s1.2 fun a ⟨j, z⟩ w => by
      by_cases e : j = i
      · simp [e] at z
      · simp only [e, if_false] at z
        exact r.dis j i e a z w
    obtain ⟨F2, A2, r2, n2⟩ := r1.relevel (Γ' := Z.Γr) fun j d hj => by
      by_cases e : j = i
      · subst e
        by_cases hl : j < ρ.length
        · rw [List.getElem?_set_self hl] at hj; cases hj
        · rw [List.getElem?_eq_none (by simpa using hl)] at hj; cases hj
      · exact hl j e
    have o1 : ∀ a, Own (fun j => if j = i then [] else A j) a → Own A a ∧ a ∉ A i := fun a ⟨j, z⟩ => by
      by_cases e : j = i
      · simp [e] at z
      · simp only [e, if_false] at z
        exact ⟨⟨j, z⟩, fun w => r.dis j i e a z w⟩
    have dB : ∀ a ∈ B, ¬ Own (fun j => if j = i then [] else A j) a := fun a ha z => (o1 a z).2 (b1 a ha)
    have nA : Nxt H F (Own A) H F2 (fun a => Own A2 a ∨ a ∈ B) := by
      refine ⟨fun a u hu _ => hu, s1.1.trans n2.fro, fun a z => ?_, fun a z => ?_⟩
      · rcases n2.new a z with z | z | z
        · exact (frz_ne z).imp (fun z => z) fun z => .inl ⟨i, (List.mem_filter.mp z).1⟩
        · exact .inr (.inl (o1 a z).1)
        · exact .inr (.inr z)
      · rcases z with z | z
        · exact (n2.own a z).imp (fun z => (o1 a z).1) fun z => z
        · exact .inl ⟨i, b1 a z⟩
    exact h σ v H F2 A2 B .refl r2 nA (ob.step n2 dB) b2 fun a ha z => (n2.own a z).elim (dB a ha) fun w => (own a (b1 a ha)).1 w
end
end Pz
end
section
set_option Elab.async false
set_option linter.all false
/-! Rules of built-in functions. -/
namespace Pz
open PySem PySem.Spec PyProof.Rows L2

section
variable {c : Cf} {W : WX} {Γ : List Nat} {Y : Cx} {e a b : Expr} {es : List Expr} {pos p0 : Pos} {k ka kb : Kd} {fa fb : Env → R (D × Env)} {fs : Env → R (List D × Env)} {ls : List (Option Nat)} {pu : Bool} {x : Str} {id : String}
theorem SX.cong {f g : Env → R (D × Env)} (h : SX c W Γ k Y e f) (q : ∀ ρ, f ρ = g ρ) : SX c W Γ k Y e g := by
  rw [← funext q]; exact h
/-- a built-in function of one value, whose result is an atom -/
def At1 (X : Tx) (g : List D → Option D) (r : List V → Hp → VK → Prop) : Prop := ∀ (H : Hp) (v : V) (d d' : D), RD X H v d → g [d] = some d' → isAtom d' = true ∧ ∃ v', (∀ F, RD X F v' d') ∧ ∀ Q : VK, Q v' H → r [v] H Q
theorem sx_at1 {g : List D → Option D} {r : List V → Hp → VK → Prop} (pe : ∀ t, PA Y [a] t → PE Y e (tCB r t)) (hr : At1 c.X g r) (ha : SX c W Γ ka Y a fa) (hs : noStar a = true) :
    SX c W Γ (kA ka.pu) Y e (fun ρ => (fa ρ).bind fun p => (optR (g [p.1])).bind fun d => .ok (d, p.2)) :=
  PE.imp (pe _ (pa_cons ha pa_nil (star_cons hs))) fun σ H Q ⟨F, A, ρ, rp, h⟩ => tX.one (g := fun d ρ1 => (optR (g [d])).bind fun d => .ok (d, ρ1)) rp h fun v H1 F1 A1 d ρ1 B o h1 => by
    obtain ⟨d', e', h2⟩ := Run.opt h1
    replace h2 : Ends' c Γ (kA ka.pu) σ ρ H F A Q (d', ρ1) := h2
    obtain ⟨q1, v', q2, q3⟩ := hr H1 v d d' (o.ot.read o.rep.sub) e'
    exact q3 _ (h2 v' H1 F1 A1 [] (o.mid.val (q2 _) (fun z => z) (.inr q1)))
/-- .. of two -/
def At2 (X : Tx) (g : List D → Option D) (r : List V → Hp → VK → Prop) : Prop := ∀ (H : Hp) (v w : V) (d e d' : D), RD X H v d → RD X H w e → g [d, e] = some d' → isAtom d' = true ∧ ∃ v', (∀ F, RD X F v' d') ∧ ∀ Q : VK, Q v' H → r [v, w] H Q
theorem sx_at2 {g : List D → Option D} {r : List V → Hp → VK → Prop} (pe : ∀ t, PA Y [a, b] t → PE Y e (tCB r t)) (hr : At2 c.X g r) (ha : SA c W Γ [none, none] pu Y [a, b] fs) :
    SX c W Γ (kA pu) Y e (fun ρ => (fs ρ).bind fun p => (optR (g p.1)).bind fun d => .ok (d, p.2)) :=
  PE.imp (pe _ ha) fun σ H Q ⟨F, A, ρ, rp, h⟩ => tF.one (g := fun ds ρ1 => (optR (g ds)).bind fun d => .ok (d, ρ1)) rp h fun vs H1 F1 A1 ds ρ1 m ap h1 => by
    obtain ⟨d', e', h2⟩ := Run.opt h1
    replace h2 : Ends' c Γ (kA pu) σ ρ H F A Q (d', ρ1) := h2
    obtain ⟨v, d, w, e2, rfl, rfl, r1, r2⟩ := ap.two
    obtain ⟨q1, v', q2, q3⟩ := hr H1 v w d e2 d' (r1.mono m.rep.sub) (r2.mono m.rep.sub) e'
    exact q3 _ (h2 v' H1 F1 A1 [] (m.val (q2 _) (fun z => z) (.inr q1)))
end

section
variable {X : Tx}
theorem at_len : At1 X (biD .len) (fun xs H Q => ∃ x n, xs = [x] ∧ LenV X.K x H n ∧ Q (.int n) H) := fun H v d d' r e => by
  replace e : lenD d = some d' := e
  cases d <;> first | (cases e; done) | skip
  · rename_i s
    replace e : (if s.length ≤ lim then some (D.int s.length) else none) = some d' := e
    split at e <;> cases e
    rename_i hl
    refine ⟨rfl, _, fun F => .int _, fun Q q => ⟨v, s.length, rfl, ?_, q⟩⟩
    rw [r.str_eq]
    exact ⟨by rw [sV_length, ← line_lim]; exact hl, (sV_length s).symm⟩
  · cases e
    obtain ⟨a, ps, rfl, rfl, s, _⟩ := r.lst_eq
    refine ⟨rfl, _, fun F => .int _, fun Q q => ⟨_, _, rfl, .inl ⟨_, s, rfl⟩, by simpa using q⟩⟩
  · cases e
    obtain ⟨a, ps, rfl, rfl, s, _⟩ := r.tup_eq
    refine ⟨rfl, _, fun F => .int _, fun Q q => ⟨_, _, rfl, .inr ⟨_, s, rfl⟩, by simpa using q⟩⟩
theorem at_int : At1 X (biD .int) (fun xs H Q => (∃ i, xs = [.int i] ∧ Q (.int i) H) ∨ ∃ k, xs = [.bl k] ∧ Q (.int (if k then 1 else 0)) H) := fun H v d d' r e => by
  cases d <;> first | (cases e; done) | skip
  · rename_i b
    cases e
    exact ⟨rfl, _, fun F => .int _, fun Q q => .inr ⟨b, by rw [r.bl_eq], q⟩⟩
  · rename_i i
    cases e
    exact ⟨rfl, _, fun F => .int _, fun Q q => .inl ⟨i, by rw [r.int_eq], q⟩⟩
theorem at_abs : At1 X (biD .abs) (fun xs H Q => ∃ i, xs = [.int i] ∧ Q (.int (if i < 0 then -i else i)) H) := fun H v d d' r e => by
  cases d <;> first | (cases e; done) | skip
  rename_i i
  cases e
  exact ⟨rfl, _, fun F => .int _, fun Q q => ⟨i, by rw [r.int_eq], q⟩⟩
theorem sumL_ints : ∀ (l : List D) (a b : Int), sumL a l = some b → ∃ ns : List Int, l = ns.map D.int ∧ b = a + ns.sum
  | [], a, b, h => by cases h; exact ⟨[], rfl, by simp⟩
  | .int i :: l, a, b, h => by
    obtain ⟨ns, e1, e2⟩ := sumL_ints l (a + i) b h
    exact ⟨i :: ns, by rw [e1]; rfl, by rw [e2, List.sum_cons]; omega⟩
  | .non :: _, _, _, h => by cases h
  | .bl _ :: _, _, _, h => by cases h
  | .str _ :: _, _, _, h => by cases h
  | .lst _ :: _, _, _, h => by cases h
  | .tup _ :: _, _, _, h => by cases h
  | .dic _ _ :: _, _, _, h => by cases h
  | .set _ :: _, _, _, h => by cases h
  | .fn _ :: _, _, _, h => by cases h
  | .exc _ _ :: _, _, _, h => by cases h
theorem ints_of {H : Hp} : ∀ {ns : List Int} {ps : List (V × D)}, ns.map D.int = ps.map (·.2) → (∀ p ∈ ps, RD X H p.1 p.2) → ps.map (·.1) = ns.map V.int
  | [], [], _, _ => rfl
  | [], _ :: _, h, _ => by cases h
  | _ :: _, [], h, _ => by cases h
  | n :: ns, p :: ps, h, r => by
    have h1 : D.int n = p.2 := (List.cons.inj h).1
    have h2 := (List.cons.inj h).2
    have rp := r p List.mem_cons_self
    rw [← h1] at rp
    rw [List.map_cons, List.map_cons, rp.int_eq, ints_of h2 fun q hq => r q (List.mem_cons_of_mem _ hq)]
theorem at_sum : At1 X (biD .sum) (rSum X.K) := fun H v d d' r e => by
  cases d <;> first | (cases e; done) | skip
  rename_i l
  replace e : (sumL 0 l).map D.int = some d' := e
  obtain ⟨b, e1, rfl⟩ := Option.map_eq_some_iff.mp e
  obtain ⟨ns, rfl, rfl⟩ := sumL_ints l 0 b e1
  obtain ⟨a, ps, rfl, e2, s, rr⟩ := r.lst_eq
  refine ⟨rfl, _, fun F => .int _, fun Q q => ⟨a, ns, rfl, by rw [← ints_of e2 rr]; exact s, by simpa using q⟩⟩
theorem at_max2 : At2 X (biD .max2) (fun xs H Q => ∃ i j, xs = [.int i, .int j] ∧ Q (.int (if j > i then j else i)) H) := fun H v w d e d' r r' h => by
  cases d <;> first | (cases h; done) | skip
  cases e <;> first | (cases h; done) | skip
  rename_i i j
  cases h
  exact ⟨rfl, _, fun F => .int _, fun Q q => ⟨i, j, by rw [r.int_eq, r'.int_eq], q⟩⟩
theorem at_min2 : At2 X (biD .min2) (fun xs H Q => ∃ i j, xs = [.int i, .int j] ∧ Q (.int (if j < i then j else i)) H) := fun H v w d e d' r r' h => by
  cases d <;> first | (cases h; done) | skip
  cases e <;> first | (cases h; done) | skip
  rename_i i j
  cases h
  exact ⟨rfl, _, fun F => .int _, fun Q q => ⟨i, j, by rw [r.int_eq, r'.int_eq], q⟩⟩
end
end Pz
end
section
set_option Elab.async false
set_option linter.all false
/-! isinstance, slices, bit_length. -/
namespace Pz
open PySem PySem.Spec PyProof.Rows L2

def tnD : D → String
  | .non => "NoneType" | .bl _ => "bool" | .int _ => "int" | .str _ => "str" | .lst _ => "list" | .tup _ => "tuple" | .dic _ _ => "dict" | _ => ""
def tyN : Ty → String
  | .int => "int" | .bool => "bool" | .str => "str" | .list => "list" | .tuple => "tuple" | .dict => "dict" | .cls _ => ""
theorem kit_is (d : D) (t : Ty) (h : tyOk d = true) (ht : ∀ c, t ≠ .cls c) : kitB (tnD d) (tyN t) = some (isTy d t) := by
  cases d <;> first | (cases h; done) | skip
  all_goals cases t <;> first | exact absurd rfl (ht _) | skip
  all_goals (show kitB _ _ = some _; simp only [tnD, tyN, isTy]; decide +kernel)
theorem RD.ty {X : Tx} {H : Hp} {v : V} {d : D} (r : RD X H v d) (h : tyOk d = true) : TyX X.K H v (.type (tnD d)) := by
  cases d <;> first | (cases h; done) | skip
  · rw [r.non_eq]; exact .base .non
  · rw [r.bl_eq]; exact .base (.bl _)
  · rw [r.int_eq]; exact .base (.int _)
  · rw [r.str_eq]; exact .base (.str _)
  · obtain ⟨a, ps, rfl, _, s, _⟩ := r.lst_eq
    rcases s with (s | ⟨o, s⟩) | s
    · exact .base (.lst s)
    · exact .base (.frz s)
    · obtain ⟨o, its, n, e, c, z⟩ := s
      exact .kList e c
  · obtain ⟨a, ps, rfl, _, s, _⟩ := r.tup_eq
    rcases s with (s | ⟨o, s⟩) | s
    · exact .base (.tup s)
    · exact .fTuple s
    · obtain ⟨o, its, n, e, c, z⟩ := s
      exact .kTuple e c
  · obtain ⟨a, ps, rfl, _, s, _⟩ := r.dic_eq
    exact .base (.dK s)

section
variable {c : Cf} {W : WX} {Γ : List Nat} {Y : Cx} {e a b : Expr} {es : List Expr} {pos p0 p1 p2 : Pos} {k ka kb kc : Kd} {fa fb fc : Env → R (D × Env)} {x : Str}
/-- isinstance(a, T), T a built-in type -/
theorem sx_isi {t : Ty} (cx : Ctx c W Y) (hg : Gl Y "isinstance") (hm : Y.mg "isinstance" = none) (hg2 : Gl Y x) (hm2 : Y.mg x = none) (hv : bootBuiltins x = some (.type (tyN t))) (hn : x ≠ "__name__") (hd : (x == ("__debug__" : Str)) = false) (ht : ∀ c, t ≠ .cls c)
    (ha : SX c W Γ ka Y a fa) (hs : noStar a = true) :
    SX c W Γ (kA ka.pu) Y (.Call (.Name "isinstance" p0) [a, .Name x p1] [] pos) (fun ρ => (fa ρ).bind fun p => (optR (isTs p.1 [t])).bind fun b => .ok (.bl b, p.2)) :=
  PE.imp (pe_callB call_isi hg hm PyProof.Rows.boot_isinstance (pa_cons ha (pa_cons (pe_bltn (v := .ty (tyN t)) hg2 hm2 hv rfl hn hd) pa_nil (star_cons rfl)) (star_cons hs)) (by decide) (by decide) (star_cons hs) (star_any rfl)) fun σ H Q ⟨F, A, ρ, rp, h⟩ =>
    tX.one (g := fun d ρ1 => (optR (isTs d [t])).bind fun b => .ok (D.bl b, ρ1)) rp h fun v H1 F1 A1 d ρ1 B o h1 => by
      obtain ⟨b, e', h2⟩ := Run.opt h1
      replace h2 : Ends' c Γ (kA ka.pu) σ ρ H F A Q (.bl b, ρ1) := h2
      have hto : tyOk d = true ∧ b = isTy d t := by
        cases t <;> first | exact absurd rfl (ht _) | skip
        all_goals
          replace e' : (if tyOk d then (if isTy d _ then some true else some false) else none) = some b := e'
          split at e' <;> first | (cases e'; done) | skip
          rename_i h0
          refine ⟨h0, ?_⟩
          split at e' <;> cases e' <;> (rename_i h1'; first | exact h1'.symm | (rw [Bool.not_eq_true] at h1'; exact h1'.symm))
      obtain ⟨h3, rfl⟩ := hto
      refine ⟨v, .ty (tyN t), .type (tnD d), .type (tyN t), _, rfl, .ty _, ?_, kit_ty (kit_is d t h3 ht), h2 _ _ _ _ _ (o.mid.val (.bl _) (fun z => z) (.inr rfl))⟩
      rw [cx.K]
      exact (o.ot.read o.rep.sub).ty h3
/-- isinstance(a, (T, U)) -/
theorem isTs2 {d : D} {t u : Ty} {b : Bool} (ht : ∀ c, t ≠ .cls c) (hu : ∀ c, u ≠ .cls c) (e : isTs d [t, u] = some b) : tyOk d = true ∧ b = (isTy d t || isTy d u) := by
  have h0 : tyOk d = true := by
    cases h : tyOk d with
    | true => rfl
    | false =>
      cases t <;> first | exact absurd rfl (ht _) | skip
      all_goals (replace e : (if tyOk d then (if isTy d _ then some true else isTs d [u]) else none) = some b := e; rw [h] at e; cases e)
  refine ⟨h0, ?_⟩
  have e1 : isTs d [t, u] = if isTy d t then some true else if isTy d u then some true else some false := by
    have e2 : isTs d [u] = if isTy d u then some true else some false := by
      cases u <;> first | exact absurd rfl (hu _) | skip
      all_goals (show (if tyOk d then (if isTy d _ then some true else some false) else none) = _; rw [h0]; rfl)
    rw [← e2]
    cases t <;> first | exact absurd rfl (ht _) | skip
    all_goals (show (if tyOk d then (if isTy d _ then some true else isTs d [u]) else none) = _; rw [h0]; rfl)
  rw [e1] at e
  cases h1 : isTy d t <;> cases h2 : isTy d u <;> (rw [h1, h2] at e; cases e; rfl)
theorem sx_isi2 {t u : Ty} {y : Str} {p3 p4 : Pos} {tk} (cx : Ctx c W Y) (hg : Gl Y "isinstance") (hm : Y.mg "isinstance" = none)
    (hg2 : Gl Y x) (hm2 : Y.mg x = none) (hv : bootBuiltins x = some (.type (tyN t))) (hn : x ≠ "__name__") (hd : (x == ("__debug__" : Str)) = false) (ht : ∀ c, t ≠ .cls c)
    (hg3 : Gl Y y) (hm3 : Y.mg y = none) (hv3 : bootBuiltins y = some (.type (tyN u))) (hn3 : y ≠ "__name__") (hd3 : (y == ("__debug__" : Str)) = false) (hu : ∀ c, u ≠ .cls c)
    (ha : SX c W Γ ka Y a fa) (hs : noStar a = true) :
    SX c W Γ (kA ka.pu) Y (.Call (.Name "isinstance" p0) [a, .Tuple [.Name x p1, .Name y p3] tk p4] [] pos) (fun ρ => (fa ρ).bind fun p => (optR (isTs p.1 [t, u])).bind fun b => .ok (.bl b, p.2)) :=
  PE.imp (pe_callB call_isiT hg hm PyProof.Rows.boot_isinstance (pa_cons ha (pa_cons (pe_tup (pa_cons (pe_bltn (v := .ty (tyN t)) hg2 hm2 hv rfl hn hd) (pa_cons (pe_bltn (v := .ty (tyN u)) hg3 hm3 hv3 rfl hn3 hd3) pa_nil (star_cons rfl)) (star_cons rfl))) pa_nil (star_cons rfl)) (star_cons hs)) (by decide) (by decide) (star_cons hs) (star_any rfl)) fun σ H Q ⟨F, A, ρ, rp, h⟩ =>
    tX.one (g := fun d ρ1 => (optR (isTs d [t, u])).bind fun b => .ok (D.bl b, ρ1)) rp h fun v H1 F1 A1 d ρ1 B o h1 => by
      obtain ⟨b, e', h2⟩ := Run.opt h1
      replace h2 : Ends' c Γ (kA ka.pu) σ ρ H F A Q (.bl b, ρ1) := h2
      obtain ⟨h3, rfl⟩ := isTs2 ht hu e'
      refine ⟨by rw [sizeLine_eq]; exact Nat.le_of_ble_eq_true rfl, fun p hp => ?_⟩
      have m2 := o.mid.grow (H2 := upd H1 p (.tup [.ty (tyN t), .ty (tyN u)])) (F2 := F1) (q2 := fun _ => False) (upd_sub hp) (Sub.refl _) (o.rep.sub.trans (upd_sub hp)) (fun a h => .inl h) (fun _ z => z.elim)
      refine ⟨v, p, [.ty (tyN t), .ty (tyN u)], .type (tnD d), [.type (tyN t), .type (tyN u)], _, rfl, upd_same, .cons (.ty _) (.cons (.ty _) .nil), ?_, ?_, h2 _ _ _ _ _ (m2.val (.bl _) (fun z => z) (.inr rfl))⟩
      · rw [cx.K]
        exact ((o.ot.read o.rep.sub).mono (upd_sub hp)).ty h3
      · have k1 := fun K : PySem.W.Frag => kit_ty (K := K) (kit_is d t h3 ht)
        have k2 := fun K : PySem.W.Frag => kit_ty (K := K) (kit_is d u h3 hu)
        refine kitAny_cons (k1 _) (fun z => kitAny_cons (k2 _) (fun z2 => ?_) fun z2 => ?_) fun z => ?_
        · rw [z, z2]; exact kitAny_nil
        · rw [z2, Bool.or_true]
        · rw [z, Bool.true_or]
/-- i.bit_length() -/
theorem sx_bits (ha : SX c W Γ ka Y a fa) (hbase : attributeBase a "bit_length" Y.env (eval a Y.env) = eval a Y.env) (hline : (p1.endLine == pos.line) = true) :
    SX c W Γ (kA ka.pu) Y (.Call (.Attribute a "bit_length" p1) [] [] pos) (fun ρ => (fa ρ).bind fun p => (optR (meD .bitlen p.1 [])).bind fun d => .ok (d, p.2)) :=
  PE.imp (pe_bits ha hbase hline) fun σ H Q ⟨F, A, ρ, rp, h⟩ => tX.one (g := fun d ρ1 => (optR (meD .bitlen d [])).bind fun d => .ok (d, ρ1)) rp h fun v H1 F1 A1 d ρ1 B o h1 => by
    obtain ⟨d', e', h2⟩ := Run.opt h1
    cases d <;> first | (cases e'; done) | skip
    rename_i i
    cases e'
    replace h2 : Ends' c Γ (kA ka.pu) σ ρ H F A Q (.int (bitLen i), ρ1) := h2
    have e2 : (Builtin.Int.intBits i : Nat) = bitLen i := by
      unfold bitLen Builtin.Int.intBits
      by_cases hi : i = 0 <;> simp [hi]
    refine ⟨i, o.ot.int_eq, ?_⟩
    rw [e2]
    exact h2 _ _ _ _ _ (o.mid.val (.int _) (fun z => z) (.inr rfl))
/-- a slice's part -/
def tO (c : Cf) (W : WX) (Γ : List Nat) (pu : Bool) (f : Env → R (Option Int × Env)) : TO := fun σ H Q =>
  ∃ F A ρ, Rep c.X Γ ρ σ H F A ∧ Run c W σ H F (Own A) (f ρ) fun p => ∀ H' F' A', Mid c Γ σ ρ H F A p.2 H' F' A' (fun _ => False) pu → Q p.1 H'
abbrev SO (c : Cf) (W : WX) (Γ : List Nat) (pu : Bool) (Y : Cx) (e : Option Expr) (f : Env → R (Option Int × Env)) : Prop := PO Y e (tO c W Γ pu f)
theorem PO.imp {Y : Cx} {e : Option Expr} {t u : TO} (h : PO Y e t) (i : ∀ σ H Q, u σ H Q → t σ H Q) : PO Y e u := ⟨fun pins s σ H Q I z => h.run pins s σ H Q I (i σ H Q z)⟩
theorem so_none {f : Env → R (D × Env)} : SO c W Γ true Y none (partR true f) := PO.imp po_none fun σ H Q ⟨F, A, ρ, r, h⟩ => by
  replace h : ∀ H' F' A', Mid c Γ σ ρ H F A ρ H' F' A' (fun _ => False) true → Q none H' := h
  exact h H F A (Mid.refl r)
theorem so_some (h : SX c W Γ ka Y a fa) : SO c W Γ ka.pu Y (some a) (partR false fa) := PO.imp (po_some h) fun σ H Q ⟨F, A, ρ, r, h⟩ =>
  tX.one (g := fun d ρ1 => (optR (intO d)).bind fun i => .ok (some i, ρ1)) r h fun v H1 F1 A1 d ρ1 B o h1 => by
    obtain ⟨i, e, h2⟩ := Run.opt h1
    cases d <;> first | (cases e; done) | skip
    cases e
    replace h2 : ∀ H' F' A', Mid c Γ σ ρ H F A ρ1 H' F' A' (fun _ => False) ka.pu → Q (some i) H' := h2
    exact ⟨i, o.ot.int_eq, h2 _ _ _ (o.mid.weak (fun _ z => z.elim) fun z => z)⟩
theorem tO.one {pu : Bool} {f : Env → R (Option Int × Env)} {σ : Sl} {H F : Hp} {A : Nat → List Addr} {ρ : Env} {β : Type} {g : Option Int → Env → R β} {ok : β → Prop} {Rr : Option Int → Hp → Prop} (r : Rep c.X Γ ρ σ H F A)
    (h : Run c W σ H F (Own A) ((f ρ).bind fun p => g p.1 p.2) ok)
    (kk : ∀ b H1 F1 A1 ρ1, Mid c Γ σ ρ H F A ρ1 H1 F1 A1 (fun _ => False) pu → Run c W σ H1 F1 (Own A1) (g b ρ1) ok → Rr b H1) : tO c W Γ pu f σ H Rr :=
  ⟨F, A, ρ, r, h.bind.imp fun p _ hp H' F' A' m => kk p.1 H' F' A' p.2 m (hp.at m.nx0 fun _ z => z)⟩
/-- a[lo:hi] -/
def rSlAll (K : PySem.W.Frag) : V → Option Int → Option Int → Hp → VK → Prop := fun x lo hi H Q => rSlL K x lo hi H Q ∨ rSlA K x lo hi H Q ∨ rSlS x lo hi H Q
theorem sl_all {X : Cx} : SlR X (rSlAll X.K) := sl_list.or (sl_tupA.or sl_str)
theorem slcL_cut {α : Type} (l : List α) (lo hi : Option Int) : slcL l lo hi = (l.drop (HT.sIx l.length 0 lo)).take (HT.sIx l.length l.length hi - HT.sIx l.length 0 lo) := by
  unfold slcL
  cases lo <;> cases hi <;> rfl
/-- what a slice of a frozen (or borrowed) value comes to -/
theorem slc_end {σ : Sl} {ρ ρ1 : Env} {H F H1 F1 : Hp} {A A1 : Nat → List Addr} {q : Addr → Prop} {p : Bool} {v : V} {d d' : D} {lo hi : Option Int} {Q : VK} (m : Mid c Γ σ ρ H F A ρ1 H1 F1 A1 q p) (o : RD c.X F1 v d)
    (e : slcV lo hi d = some d') (h : Ends' c Γ ⟨true, p, 0⟩ σ ρ H F A Q (d', ρ1)) : rSlAll c.X.K v lo hi H1 Q := by
  cases d <;> first | (cases e; done) | skip
  · rename_i s
    replace e : (if s.length ≤ lim then some (D.str (slcL s lo hi)) else none) = some d' := e
    split at e <;> cases e
    rename_i hl
    refine .inr (.inr ⟨⟨s.toArray⟩, o.str_eq, by rw [sV_length, ← line_lim]; exact hl, ?_⟩)
    have := h (sV (slcL s lo hi)) H1 F1 A1 [] (m.val (.str _) (fun z => z) (.inl rfl))
    rw [slcL_cut] at this
    unfold cutS
    simpa [Str.length] using this
  · cases e
    obtain ⟨a1, ps, rfl, rfl, s1, r1⟩ := o.lst_eq
    refine .inl ⟨a1, _, rfl, m.rep.sub.sqL s1, fun p hp => ?_⟩
    have hr : ∀ x ∈ slcL ps lo hi, RD c.X F1 x.1 x.2 := fun x hx => r1 x (by rw [slcL_cut] at hx; exact List.mem_of_mem_drop (List.mem_of_mem_take hx))
    have o2 := m.newLF (k := ⟨true, _, 0⟩) hp hr (fun z => z) rfl
    have e1 : (slcL ps lo hi).map (·.1) = cutV (ps.map (·.1)) lo hi := by rw [slcL_cut]; unfold cutV; rw [List.map_take, List.map_drop, List.length_map]
    have e2 : (slcL ps lo hi).map (·.2) = slcL (ps.map (·.2)) lo hi := by rw [slcL_cut, slcL_cut, List.map_take, List.map_drop, List.length_map]
    rw [e1, e2] at o2
    exact h _ _ _ _ _ o2
  · cases e
    obtain ⟨a1, ps, rfl, e0, s1, r1⟩ := o.tup_eq
    subst e0
    refine .inr (.inl ⟨a1, _, rfl, m.rep.sub.sqT s1, fun hw => ?_, fun _ p hp => ?_⟩)
    · have e3 : slcL (ps.map (·.2)) lo hi = ps.map (·.2) := by
        rw [slcL_cut]
        rw [List.length_map] at hw ⊢
        rw [hw.1, hw.2, List.drop_zero, Nat.sub_zero]
        exact List.take_of_length_le (by rw [List.length_map]; exact Nat.le_refl _)
      rw [e3] at h
      exact h _ _ _ _ _ (m.val o (fun z => z) (.inl rfl))
    · have hr : ∀ x ∈ slcL ps lo hi, RD c.X F1 x.1 x.2 := fun x hx => r1 x (by rw [slcL_cut] at hx; exact List.mem_of_mem_drop (List.mem_of_mem_take hx))
      have o2 := m.newT (k := ⟨true, _, 0⟩) hp hr (fun z => z) rfl
      have e1 : (slcL ps lo hi).map (·.1) = cutV (ps.map (·.1)) lo hi := by rw [slcL_cut]; unfold cutV; rw [List.map_take, List.map_drop, List.length_map]
      have e2 : (slcL ps lo hi).map (·.2) = slcL (ps.map (·.2)) lo hi := by rw [slcL_cut, slcL_cut, List.map_take, List.map_drop, List.length_map]
      rw [e1, e2] at o2
      exact h _ _ _ _ _ o2
/-- a[lo:hi] -/
theorem sx_slc {l u : Option Expr} {pa pb pc : Bool} {fl fu : Env → R (Option Int × Env)} (cx : Ctx c W Y) (ha : SX c W Γ ⟨true, pa, 0⟩ Y a fa) (hb : SO c W Γ pb Y l fl) (hc : SO c W Γ pc Y u fu) :
    SX c W Γ ⟨true, pa && pb && pc, 0⟩ Y (.Subscript a (.Slice l u none p2) pos) (fun ρ => (fa ρ).bind fun p => (fl p.2).bind fun q => (fu q.2).bind fun r => (optR (slcV q.1 r.1 p.1)).bind fun d => .ok (d, r.2)) :=
  PE.imp (pe_slice sl_all ha hb hc) fun σ H Q ⟨F, A, ρ, rp, h⟩ => tX.one (g := fun d ρ1 => (fl ρ1).bind fun q => (fu q.2).bind fun r => (optR (slcV q.1 r.1 d)).bind fun d => .ok (d, r.2)) rp h fun v H1 F1 A1 d ρ1 B o h1 => by
    refine tO.one (g := fun q ρ2 => (fu ρ2).bind fun r => (optR (slcV q r.1 d)).bind fun d => .ok (d, r.2)) o.rep h1 fun lo H2 F2 A2 ρ2 m2 h2 => ?_
    refine tO.one (g := fun r ρ3 => (optR (slcV lo r d)).bind fun d => .ok (d, ρ3)) m2.rep h2 fun hi H3 F3 A3 ρ3 m3 h3 => ?_
    obtain ⟨d', e, h4⟩ := Run.opt h3
    replace h4 : Ends' c Γ ⟨true, pa && pb && pc, 0⟩ σ ρ H F A Q (d', ρ3) := h4
    rw [cx.K]
    exact slc_end ((o.mid.trans m2).trans m3) ((o.ot.2.mono m2.nx.fro).mono m3.nx.fro) e h4
end
end Pz
end
section
set_option Elab.async false
set_option linter.all false
/-! repr; tuple(x), list(x); str(i); sorted, min, max, all, any. -/
namespace Pz
open PySem PySem.Spec PyProof.Rows L2

/-! ### repr -/
mutual
theorem okD_nodict : ∀ (d : D) (n : Nat), okD n d = true → (toPy d).hasDict = false
  | .non, _, _ => rfl
  | .bl _, _, _ => rfl
  | .int _, _, _ => rfl
  | .str _, _, _ => rfl
  | .lst l, 0, h => by cases h
  | .lst l, n + 1, h => okL_nodict l n h
  | .tup l, 0, h => by cases h
  | .tup l, n + 1, h => okL_nodict l n h
  | .dic _ _, _, h => by cases h
  | .set _, _, h => by cases h
  | .fn _, _, h => by cases h
  | .exc _ _, _, h => by cases h
theorem okL_nodict : ∀ (l : List D) (n : Nat), okL n l = true → PyData.hasDictAll (toPyL l) = false
  | [], _, _ => rfl
  | d :: l, n, h => by
    replace h : (okD n d && okL n l) = true := h
    rw [Bool.and_eq_true] at h
    show ((toPy d).hasDict || PyData.hasDictAll (toPyL l)) = false
    rw [okD_nodict d n h.1, okL_nodict l n h.2]; rfl
end
mutual
theorem RD.reads {X : Tx} {Y : Cx} {pins : List (Addr × Obj)} {σ : Sl} {H : Hp} {s : Shared} (I : Inv Y pins σ H s) (hK : Y.K = X.K) (sm : SmOk Y.base) : ∀ (d : D) (v : V) (u : Value), noLst d = true → RD X H v d → RelV v u → ∃ as, Reads s.heap u (toPy d) as ∧ sysModules ∉ as
  | .non, _, _, _, h, r => by rw [h.non_eq] at r; cases r; exact ⟨_, Reads.none, by simp⟩
  | .bl b, _, _, _, h, r => by rw [h.bl_eq] at r; cases r; exact ⟨_, Reads.bool b, by simp⟩
  | .int i, _, _, _, h, r => by rw [h.int_eq] at r; obtain ⟨t, rfl⟩ := r; exact ⟨_, Reads.int i t, by simp⟩
  | .str i, _, _, _, h, r => by rw [h.str_eq] at r; obtain ⟨t, rfl⟩ := r; exact ⟨_, Reads.str _ t, by simp⟩
  | .lst l, _, _, n, h, r => by
    obtain ⟨a, ps, rfl, e, sq, rr⟩ := h.lst_eq
    cases r
    obtain ⟨its, rv, ⟨o, k, ho, hc, hdd, hd⟩, _⟩ := I.list (hK ▸ sq)
    obtain ⟨as, hr, hn⟩ := RD.readsL I hK sm l (ps.map (·.1)) its n (e ▸ rdl_of rr) rv
    have h0 : sysModules ≠ a := fun z => by
      subst z
      obtain ⟨o', es, m, e1, e2⟩ := sm
      have e3 := I.bk _ _ e1
      rw [ho] at e3
      cases e3
      rw [hd] at e2
      cases e2
    exact ⟨_, Reads.list ho hc hd hr, by simp [h0, hn]⟩
  | .tup l, _, _, n, h, r => by
    obtain ⟨a, ps, rfl, e, sq, rr⟩ := h.tup_eq
    cases r
    obtain ⟨its, rv, ⟨o, ho, hc, k, hd⟩, _⟩ := I.tuple (hK ▸ sq)
    obtain ⟨as, hr, hn⟩ := RD.readsL I hK sm l (ps.map (·.1)) its n (e ▸ rdl_of rr) rv
    exact ⟨_, Reads.tuple ho hc hd hr, hn⟩
  | .dic ks vs, _, _, n, h, r => by
    obtain ⟨a, ps, rfl, e1, e2, e3, rr⟩ := h.dic_eq
    cases r
    obtain ⟨_, hS, ws, kv, dd⟩ := dk_of I.hok e2
    obtain ⟨o, es, ep, ho, ⟨hc, _, _⟩, hd, _, pr, _⟩ := dd
    replace n : noLstL vs = true := n
    obtain ⟨as, hr, hn⟩ := RD.readsL I hK sm vs (ps.map (·.2.1)) (es.toList.map (·.val)) n (by
      rw [e1]
      have : ∀ ps : List (Key × V × D), (∀ p ∈ ps, RD X H p.2.1 p.2.2) → RDL X H (ps.map (·.2.1)) (ps.map (·.2.2)) := fun ps => by
        induction ps with
        | nil => exact fun _ => .nil
        | cons p ps ih => exact fun h => .cons (h p List.mem_cons_self) (ih fun q hq => h q (List.mem_cons_of_mem _ hq))
      exact this ps rr) (by
      have : ∀ (es : List DictEntry) (ps : List (Key × V × D)) (ws : List (Key × Value)), KV (ps.map fun p => (p.1, p.2.1)) ws → Pairs (mixKind Y.prog Y.w) es ws → Vals (ps.map (·.2.1)) (es.map (·.val)) := fun es => by
        induction es with
        | nil =>
          intro ps ws k p
          cases p
          cases ps with
          | nil => exact .nil
          | cons p ps => cases k
        | cons e es ih =>
          intro ps ws k p
          cases p with
          | cons p1 p2 p3 =>
            cases ps with
            | nil => cases k
            | cons q ps =>
              cases k with
              | cons k1 k2 => exact .cons (by show RelV q.2.1 e.val; rw [p2]; exact k1.2) (ih _ _ k2 p3)
      exact this _ _ _ kv pr)
    obtain ⟨bs, hb, hm⟩ : ∃ bs, ReadsAll s.heap (es.toList.map (·.key)) (toPyL ks) bs ∧ sysModules ∉ bs := by
      rw [e3]
      have : ∀ (es : List DictEntry) (ps : List (Key × V × D)) (ws : List (Key × Value)), KV (ps.map fun p => (p.1, p.2.1)) ws → Pairs (mixKind Y.prog Y.w) es ws → ∃ bs, ReadsAll s.heap (es.map (·.key)) (toPyL (ps.map fun p => kD p.1)) bs ∧ sysModules ∉ bs := fun es => by
        induction es with
        | nil =>
          intro ps ws k p
          cases p
          cases ps with
          | nil => exact ⟨_, .nil, by simp⟩
          | cons p ps => cases k
        | cons e es ih =>
          intro ps ws k p
          cases p with
          | cons p1 p2 p3 =>
            cases ps with
            | nil => cases k
            | cons q ps =>
              cases k with
              | cons k1 k2 =>
                obtain ⟨bs, h1, h2⟩ := ih _ _ k2 p3
                have : ∃ cs, Reads s.heap e.key (toPy (kD q.1)) cs ∧ cs = [] := by
                  have p1 : keyIs _ e.key = true := p1
                  rw [← k1.1] at p1
                  rcases keyIs_shape p1 with ⟨i, t, h3, h4⟩ | ⟨i, t, h3, h4⟩
                  · refine ⟨[], ?_, rfl⟩
                    replace h3 : q.1 = .inl i := h3
                    rw [h4, h3]; exact Reads.int i t
                  · refine ⟨[], ?_, rfl⟩
                    replace h3 : q.1 = .inr i := h3
                    rw [h4, h3]
                    show Reads _ _ (PyData.str _) _
                    have : (⟨i.cps.toList.toArray⟩ : Str) = i := by cases i; simp
                    rw [this]; exact Reads.str i t
                obtain ⟨cs, h5, rfl⟩ := this
                exact ⟨_, ReadsAll.cons h5 h1, by simpa using h2⟩
      exact this _ _ _ kv pr
    have el : (toPyL ks).length = (toPyL vs).length := by
      rw [toPyL_len, toPyL_len, e1, e3]; simp
    refine ⟨_, Reads.dict (kvs := (toPyL ks).zip (toPyL vs)) ho hc hd (by rw [List.map_fst_zip (by omega)]; exact hb) (by rw [List.map_snd_zip (by omega)]; exact hr), ?_⟩
    have : (a == sysModules) = false := hS
    have h0 : sysModules ≠ a := fun z => by rw [← z] at this; simp at this
    simp [h0, hn, hm]
  | .set _, _, _, n, _, _ => by cases n
  | .fn _, _, _, n, _, _ => by cases n
  | .exc _ _, _, _, n, _, _ => by cases n
theorem RD.readsL {X : Tx} {Y : Cx} {pins : List (Addr × Obj)} {σ : Sl} {H : Hp} {s : Shared} (I : Inv Y pins σ H s) (hK : Y.K = X.K) (sm : SmOk Y.base) : ∀ (l : List D) (vs : List V) (us : List Value), noLstL l = true → RDL X H vs l → Vals vs us → ∃ as, ReadsAll s.heap us (toPyL l) as ∧ sysModules ∉ as
  | [], _, _, _, h, r => by cases h; cases r; exact ⟨_, .nil, by simp⟩
  | d :: l, _, _, n, h, r => by
    cases h with
    | cons h1 h2 =>
      cases r with
      | cons r1 r2 =>
        replace n : (noLst d && noLstL l) = true := n
        rw [Bool.and_eq_true] at n
        obtain ⟨as, q1, q2⟩ := RD.reads I hK sm d _ _ n.1 h1 r1
        obtain ⟨bs, q3, q4⟩ := RD.readsL I hK sm l _ _ n.2 h2 r2
        exact ⟨_, ReadsAll.cons q1 q3, by simp [q2, q4]⟩
end

section
variable {X : Tx} {Y : Cx}
theorem sV_cps (x : Str) : sV x.cps.toList = .str x := by
  cases x; simp [sV]
/-- repr of data -/
def rRepr (X : Tx) : List V → Hp → VK → Prop := fun xs H Q => ∃ v d s, xs = [v] ∧ RD X H v d ∧ reprD d = some (.str s) ∧ Q (sV s) H
theorem cr_repr (hK : Y.K = X.K) (sm : SmOk Y.base) (hu : Y.A.units + 65 < cLine) (hg : Y.A.guards = some []) : CallR Y (.builtin "repr") (rRepr X) := by
  intro pins s σ H xs us Q I r ⟨v, d, t, hx, rd, e, q⟩
  subst hx
  obtain ⟨u, rfl, rx⟩ := vals1 r
  obtain ⟨h, e2⟩ := ite_some (show (if (okD 60 d || noLst d) && (toPy d).showable && decide ((toPy d).depth ≤ 60) && decide ((toPy d).shown.length ≤ lim) then some (D.str (toPy d).shown.cps.toList) else none) = some (D.str t) from e)
  cases e2
  simp only [Bool.and_eq_true, decide_eq_true_eq] at h
  obtain ⟨⟨⟨h1, h2⟩, h3⟩, h4⟩ := h
  rw [sV_cps] at q
  rw [line_lim] at h4
  have big : ∀ a : Addr, u = .ref a → wpAny (model Y.prog Y.w) Y.A (call (.builtin "repr") [u]) (EP Y pins σ Q) Y.xe s := by
    intro a ea
    subst ea
    have rr : ∃ as, Reads s.heap (.ref a) (toPy d) as ∧ ((toPy d).hasDict = true → sysModules ∉ as) := by
      cases hn : noLst d with
      | true =>
        obtain ⟨as, k1, k2⟩ := RD.reads I hK sm d v _ hn rd rx
        exact ⟨as, k1, fun _ => k2⟩
      | false =>
        rw [hn, Bool.or_false] at h1
        obtain ⟨as, k1⟩ := rd.readsP I hK d 60 v _ h1 rx
        refine ⟨as, k1, fun z => ?_⟩
        rw [okD_nodict d 60 h1] at z
        cases z
    obtain ⟨as, k1, k2⟩ := rr
    exact repr_of_reads' k1 h2 k2 hg (by omega) (fun _ _ e => e) (fun h' w tk hk => ⟨.str _, H, I.kept hk, ⟨_, rfl⟩, q⟩) h4
  cases d <;> first | (cases h1; done) | skip
  · rw [rd.non_eq] at rx; cases rx
    exact PySem.P.repr_of_none ⟨.str _, H, I.tok _, ⟨_, rfl⟩, q⟩
  · rename_i b
    rw [rd.bl_eq] at rx; cases rx
    exact PySem.P.repr_of_bool ⟨.str _, H, I.tok _, ⟨_, rfl⟩, q⟩
  · rw [rd.int_eq] at rx; obtain ⟨tk, rfl⟩ := rx
    exact PySem.P.repr_of_int (by simpa [toPy, PyData.showable] using h2) ⟨.str _, H, I.tok _, ⟨_, rfl⟩, q⟩
  · rw [rd.str_eq] at rx; obtain ⟨tk, rfl⟩ := rx
    exact PySem.P.repr_of_str ⟨.str _, H, I.tok _, ⟨_, rfl⟩, q⟩ h4
  · obtain ⟨a, ps, rfl, _⟩ := rd.lst_eq; cases rx; exact big a rfl
  · obtain ⟨a, ps, rfl, _⟩ := rd.tup_eq; cases rx; exact big a rfl
  · obtain ⟨a, ps, rfl, _⟩ := rd.dic_eq; cases rx; exact big a rfl
/-- list(text) -/
theorem call_list_sign (hc : Y.calm = true) : CallR Y (.type "list") (fun xs H Q => ∃ z, xs = [.str z] ∧ z.cps.size ≤ sizeLine ∧ ∀ l, H l = none → Q (.ref l) (upd H l (.lst (z.cps.toList.map fun ch => V.str ⟨#[ch]⟩)))) := by
  intro pins s σ H xs us Q I r ⟨z, hx, hz, q⟩
  subst hx
  obtain ⟨u, rfl, tk, rfl⟩ := vals1 r
  refine call_list_str (I.ok.hd hc) z tk (fun h' tk2 acc c' hk e hacc => ?_) hz
  have hl : acc.toList.length = z.cps.size := by rw [Array.length_toList]; exact hacc.1
  have e2 : (z.cps.toList.map fun ch => V.str ⟨#[ch]⟩) = (List.range acc.toList.length).map fun i => V.str ⟨#[z.cps.toList.getD i 0]⟩ := by
    apply List.ext_getElem?
    intro i
    rw [List.getElem?_map, List.getElem?_map, hl]
    by_cases hi : i < z.cps.size
    · rw [List.getElem?_range hi, List.getElem?_eq_getElem (by simpa using hi)]
      simp [List.getD_eq_getElem?_getD, hi]
    · rw [List.getElem?_eq_none (by simpa using hi), List.getElem?_eq_none (by simpa using hi)]; rfl
  refine ⟨.ref s.heap.objs.size, upd H s.heap.objs.size _, I.laid (t' := tk2) hk (Nat.le_refl _) (show ObjOk Y.prog Y.w _ h' _ (.lst (z.cps.toList.map fun ch => V.str ⟨#[ch]⟩)) from ⟨by rw [List.length_map, Array.length_toList]; exact hz, acc.toList, c', ?_, by simpa using e⟩), rfl, q _ (I.hok.fresh (Nat.le_refl _))⟩
  rw [e2]
  refine vals_of_get acc.toList _ fun j u hj => ?_
  obtain ⟨ch, t, hc1, rfl⟩ := hacc.2 j u (by rw [← hj, Array.getElem?_toList])
  refine ⟨t, ?_⟩
  have : z.cps.toList.getD j 0 = ch := by
    rw [List.getD_eq_getElem?_getD, Array.getElem?_toList, hc1]; rfl
  rw [this]
end
end Pz
end
section
set_option Elab.async false
set_option linter.all false
/-! sorted, min, max over data. -/
namespace Pz
open PySem PySem.Spec PyProof.Rows L2

/-! ### the order as a total one -/
/-- x is not behind y -/
def dle (x y : D) : Bool := PySem.W.dataLe false toPy x y
theorem dle_eq (x y : D) : dle x y = !PySem.W.dataLt (toPy y) (toPy x) := rfl
theorem dle_total : PySem.W.TotalLe dle := PySem.W.sortLe_total (PyProof.Rows.listOrd itemOrd) false fun b => PySem.W.keyToks (toPy b)
def insG (lt : D → D → Bool) (x : D) : List D → List D
  | [] => [x]
  | y :: l => if lt y x then y :: insG lt x l else x :: y :: l
theorem mem_insG {lt : D → D → Bool} {x z : D} : ∀ {l : List D}, z ∈ insG lt x l ↔ z = x ∨ z ∈ l
  | [] => by simp [insG]
  | y :: l => by
    unfold insG
    split
    · rw [List.mem_cons, mem_insG, List.mem_cons]
      constructor
      · rintro (h | h | h) <;> simp [h]
      · rintro (h | h | h) <;> simp [h]
    · simp
theorem mem_insT {x z : D} : ∀ {l : List D}, z ∈ insT x l ↔ z = x ∨ z ∈ l
  | [] => by simp [insT]
  | y :: l => by
    unfold insT
    split
    · rw [List.mem_cons, mem_insT, List.mem_cons]
      constructor
      · rintro (h | h | h) <;> simp [h]
      · rintro (h | h | h) <;> simp [h]
    · simp
theorem mem_isort {z : D} : ∀ {l : List D}, z ∈ isort l ↔ z ∈ l
  | [] => Iff.rfl
  | x :: l => by
    show z ∈ insT x (isort l) ↔ _
    rw [mem_insT, mem_isort, List.mem_cons]
theorem insT_perm (x : D) : ∀ l : List D, (insT x l).Perm (x :: l)
  | [] => .refl _
  | y :: l => by
    unfold insT
    split
    · exact ((insT_perm x l).cons y).trans (.swap x y l)
    · exact .refl _
theorem isort_perm : ∀ l : List D, (isort l).Perm l
  | [] => .refl _
  | x :: l => (insT_perm x _).trans ((isort_perm l).cons x)
abbrev Srt (l : List D) : Prop := l.Pairwise fun a b => dle a b = true
/-- on alike items the two orders are one -/
def Al (l : List D) : Prop := ∀ a ∈ l, ∀ b ∈ l, ltT a b = !dle b a
theorem insT_srt {x : D} : ∀ {l : List D}, Al (x :: l) → Srt l → Srt (insT x l)
  | [], _, _ => List.pairwise_singleton _ _
  | y :: l, al, h => by
    have ⟨h1, h2⟩ := List.pairwise_cons.mp h
    have e : ltT y x = !dle x y := al y (by simp) x (by simp)
    unfold insT
    by_cases z : ltT y x = true
    · rw [if_pos z]
      have z2 : dle x y = false := by rw [e] at z; simpa using z
      have z3 : dle y x = true := (dle_total.total y x).resolve_right (by rw [z2]; simp)
      refine List.pairwise_cons.mpr ⟨fun w hw => ?_, insT_srt (fun a ha b hb => al a ?_ b ?_) h2⟩
      · rcases mem_insT.mp hw with rfl | hw
        · exact z3
        · exact h1 w hw
      · rcases List.mem_cons.mp ha with rfl | ha <;> simp [*]
      · rcases List.mem_cons.mp hb with rfl | hb <;> simp [*]
    · rw [if_neg z]
      have z2 : dle x y = true := by
        rw [Bool.not_eq_true] at z
        rw [e] at z; simpa using z
      exact List.pairwise_cons.mpr ⟨fun w hw => (List.mem_cons.mp hw).elim (fun q => q ▸ z2) fun q => dle_total.trans _ _ _ z2 (h1 w q), h⟩
theorem isort_srt : ∀ {l : List D}, Al l → Srt (isort l)
  | [], _ => .nil
  | x :: l, al => insT_srt (fun a ha b hb => al a (by
      rcases List.mem_cons.mp ha with rfl | ha
      · simp
      · exact List.mem_cons_of_mem _ (mem_isort.mp ha)) b (by
      rcases List.mem_cons.mp hb with rfl | hb
      · simp
      · exact List.mem_cons_of_mem _ (mem_isort.mp hb))) (isort_srt fun a ha b hb => al a (List.mem_cons_of_mem _ ha) b (List.mem_cons_of_mem _ hb))
theorem insT_filter {x c : D} : ∀ {l : List D}, Al (x :: l) → (insT x l).filter (PySem.W.sameRank dle c) = (x :: l).filter (PySem.W.sameRank dle c)
  | [], _ => rfl
  | y :: l, al => by
    have e : ltT y x = !dle x y := al y (by simp) x (by simp)
    unfold insT
    by_cases z : ltT y x = true
    · rw [if_pos z]
      have z2 : dle x y = false := by rw [e] at z; simpa using z
      have ih := insT_filter (x := x) (c := c) (l := l) fun a ha b hb => al a (by rcases List.mem_cons.mp ha with rfl | ha <;> simp [*]) b (by rcases List.mem_cons.mp hb with rfl | hb <;> simp [*])
      rw [List.filter_cons, ih, List.filter_cons, List.filter_cons (x := x), List.filter_cons (x := y)]
      cases sx : PySem.W.sameRank dle c x with
      | false => simp
      | true =>
        cases sy : PySem.W.sameRank dle c y with
        | false => simp
        | true =>
          exfalso
          unfold PySem.W.sameRank at sx sy
          rw [Bool.and_eq_true] at sx sy
          have := dle_total.trans _ _ _ sx.2 sy.1
          rw [z2] at this; cases this
    · rw [if_neg z]
theorem isort_filter (c : D) : ∀ {l : List D}, Al l → (isort l).filter (PySem.W.sameRank dle c) = l.filter (PySem.W.sameRank dle c)
  | [], _ => rfl
  | x :: l, al => by
    show (insT x (isort l)).filter _ = _
    rw [insT_filter (fun a ha b hb => al a (by
      rcases List.mem_cons.mp ha with rfl | ha
      · simp
      · exact List.mem_cons_of_mem _ (mem_isort.mp ha)) b (by
      rcases List.mem_cons.mp hb with rfl | hb
      · simp
      · exact List.mem_cons_of_mem _ (mem_isort.mp hb))), List.filter_cons, List.filter_cons, isort_filter c fun a ha b hb => al a (List.mem_cons_of_mem _ ha) b (List.mem_cons_of_mem _ hb)]
theorem isort_merge {l : List D} (al : Al l) : isort l = l.mergeSort dle := PySem.W.sort_unique dle_total (isort_srt al) fun c => isort_filter c al
theorem allAlk_mem {l : List D} (h : allAlk l = true) : (∀ a ∈ l, ∀ b ∈ l, alk a b = true) ∧ ∀ a ∈ l, a ≠ .non := by
  unfold allAlk at h
  rw [List.all_eq_true] at h
  refine ⟨fun a ha b hb => ?_, fun a ha => ?_⟩
  · have := h a ha
    rw [Bool.and_eq_true] at this
    exact List.all_eq_true.mp this.2 b hb
  · have := h a ha
    rw [Bool.and_eq_true] at this
    exact nonD_ne this.1
theorem okL_mem {n : Nat} : ∀ {l : List D}, okL n l = true → ∀ a ∈ l, okD n a = true
  | x :: l, h, a, ha => by
    replace h : (okD n x && okL n l) = true := h
    rw [Bool.and_eq_true] at h
    rcases List.mem_cons.mp ha with rfl | ha
    · exact h.1
    · exact okL_mem h.2 a ha
theorem al_of {l : List D} (h : allAlk l = true) (o : okL 60 l = true) : Al l := fun a ha b hb => by
  obtain ⟨h1, h2⟩ := allAlk_mem h
  rw [dle_eq, Bool.not_not, dataLt_toPy a b 60 60 (okL_mem o a ha) (okL_mem o b hb) (h1 a ha b hb) (h2 a ha)]
section
variable {X : Tx} {Y : Cx} {pins : List (Addr × Obj)} {σ : Sl} {H : Hp} {s : Shared}
/-- the items read one by one -/
theorem each_reads (I : Inv Y pins σ H s) (hK : Y.K = X.K) : ∀ {ps : List (V × D)} {us : List Value}, (∀ p ∈ ps, RD X H p.1 p.2) → okL 60 (ps.map (·.2)) = true → Vals (ps.map (·.1)) us →
    PySem.W.EachIs (fun (u : Value) (p : V × D) => RelV p.1 u) us ps ∧ PySem.W.EachIs (fun (u : Value) (p : V × D) => ∃ as, Reads s.heap u (toPy p.2) as) us ps
  | [], us, _, _, r => by cases r; exact ⟨.nil, .nil⟩
  | p :: ps, us, h, o, r => by
    cases r with
    | cons r1 r2 =>
      replace o : (okD 60 p.2 && okL 60 (ps.map (·.2))) = true := o
      rw [Bool.and_eq_true] at o
      obtain ⟨e1, e2⟩ := each_reads I hK (fun q hq => h q (List.mem_cons_of_mem _ hq)) o.2 r2
      exact ⟨.cons r1 e1, .cons ((h p List.mem_cons_self).readsP I hK p.2 60 _ _ o.1 r1) e2⟩
theorem each_vals : ∀ {ps : List (V × D)} {us : List Value}, PySem.W.EachIs (fun (u : Value) (p : V × D) => RelV p.1 u) us ps → Vals (ps.map (·.1)) us
  | _, _, .nil => .nil
  | _, _, .cons r t => .cons r (each_vals t)
theorem srtOk_sortable {l : List D} (h : srtOk l = true) (n : ∀ a ∈ l, a ≠ .non) (o : okL 60 l = true) : PySem.W.Sortable (l.map toPy) := by
  unfold srtOk at h
  rw [Bool.or_eq_true] at h
  rcases h with h | h
  · refine .inl fun d hd => ?_
    obtain ⟨a, ha, rfl⟩ := List.mem_map.mp hd
    have := List.all_eq_true.mp h a ha
    match a, this with
    | .tup (x :: l), _ => exact ⟨_, _, rfl⟩
  · refine .inr fun d hd => ?_
    obtain ⟨a, ha, rfl⟩ := List.mem_map.mp hd
    have h1 := List.all_eq_true.mp h a ha
    have h2 := n a ha
    have h3 := okL_mem o a ha
    cases a <;> first | exact absurd rfl h2 | (cases h1; done) | (cases h3; done) | exact ⟨(by intro z; cases z), by intro xs z; cases z⟩
/-- sorted(list) -/
def rSort (X : Tx) : List V → Hp → VK → Prop := fun xs H Q => ∃ (a : Addr) (ps : List (V × D)) (l : List D), xs = [.ref a] ∧ SqL X.K H a (ps.map (·.1)) ∧ (∀ p ∈ ps, RD X H p.1 p.2) ∧ sortO (ps.map (·.2)) = some l ∧
  ∀ p (qs : List (V × D)), H p = none → qs.map (·.2) = l → (∀ q ∈ qs, q ∈ ps) → Q (.ref p) (upd H p (.lst (qs.map (·.1))))
theorem cr_sort (hK : Y.K = X.K) (hu : Y.A.units + 65 < cLine) : CallR Y (.builtin "sorted") (rSort X) := by
  intro pins s σ H xs us Q I r ⟨a, ps, l, hx, sq, rr, e, q⟩
  subst hx
  rw [Vals.ref1 r]
  obtain ⟨h, e2⟩ := ite_some (show (if allAlk (ps.map (·.2)) && okL 60 (ps.map (·.2)) && srtOk (ps.map (·.2)) && decide ((ps.map (·.2)).length ≤ lim) then some (isort (ps.map (·.2))) else none) = some l from e)
  subst e2
  simp only [Bool.and_eq_true, decide_eq_true_eq] at h
  obtain ⟨⟨⟨h1, h2⟩, h3⟩, h4⟩ := h
  obtain ⟨its, rv, hl, hz⟩ := I.list (hK ▸ sq)
  obtain ⟨e1, e2⟩ := each_reads I hK rr h2 rv
  obtain ⟨m1, m2⟩ := allAlk_mem h1
  have em : (ps.map (·.2)).map toPy = ps.map fun p => toPy p.2 := by rw [List.map_map]; rfl
  refine PySem.W.sorted_data (R := fun (u : Value) (p : V × D) => RelV p.1 u) (enc := fun p : V × D => toPy p.2) hl.isList e1 e2 ?_ ?_ (by rw [List.length_map, line_lim] at h4; exact h4) (fun p hp => ?_) fun out ho h' => ?_
  · intro d hd d' hd'
    obtain ⟨p, hp, rfl⟩ := List.mem_map.mp hd
    obtain ⟨p', hp', rfl⟩ := List.mem_map.mp hd'
    exact alike_toPy _ _ (m1 _ (List.mem_map.mpr ⟨p, hp, rfl⟩) _ (List.mem_map.mpr ⟨p', hp', rfl⟩))
  · rw [← em]; exact srtOk_sortable h3 m2 h2
  · have := (okD_plain p.2 60 (okL_mem h2 _ (List.mem_map.mpr ⟨p, hp, rfl⟩))).2
    omega
  · obtain ⟨ep, he'⟩ := PyProof.Rows.sortedAll_at s.heap its out.toArray
    have vq := each_vals h'
    have hs : (ps.mergeSort (PySem.W.dataLe false fun p : V × D => toPy p.2)).map (·.2) = isort (ps.map (·.2)) := by
      rw [isort_merge (al_of h1 h2)]
      exact PySem.W.sort_maps (fun p : V × D => p.2) fun a _ b _ => rfl
    have hlen : ((ps.mergeSort (PySem.W.dataLe false fun p : V × D => toPy p.2)).map (·.1)).length ≤ sizeLine := by
      rw [List.length_map, List.length_mergeSort]
      rw [List.length_map] at hz; exact hz
    exact ⟨.ref _, upd H (s.heap.objs.size + 1) (.lst _), I.laid (t' := s.toks) (fun _ _ => PyProof.Rows.sortedAll_old) (Nat.le_succ _) ⟨hlen, out, ep, vq, he'⟩, rfl, q _ _ (I.hok.fresh (Nat.le_succ _)) hs fun z hz => (List.mem_mergeSort.mp hz)⟩

/-! ### min, max -/
mutual
theorem toPy_inj : ∀ (d e : D) (n m : Nat), okD n d = true → okD m e = true → toPy d = toPy e → d = e
  | .non, e, _, _, _, k, h => by cases e <;> first | rfl | (cases k; done) | (cases h; done)
  | .bl _, e, _, _, _, k, h => by cases e <;> first | (cases h; rfl) | (cases k; done) | (cases h; done)
  | .int _, e, _, _, _, k, h => by cases e <;> first | (cases h; rfl) | (cases k; done) | (cases h; done)
  | .str s, e, _, _, _, k, h => by
    cases e <;> first | (cases k; done) | (cases h; done) | skip
    replace h : PyData.str ⟨s.toArray⟩ = PyData.str _ := h
    injection h with h
    injection h with h
    have := congrArg Array.toList h
    simp at this
    rw [this]
  | .lst l, e, 0, _, h, _, _ => by cases h
  | .lst l, e, n + 1, m, k1, k2, h => by
    cases e <;> first | (cases k2; done) | (cases h; done) | skip
    cases m <;> first | (cases k2; done) | skip
    replace h : PyData.list _ = PyData.list _ := h
    injection h with h
    rw [toPyL_inj l _ _ _ k1 k2 h]
  | .tup l, e, 0, _, h, _, _ => by cases h
  | .tup l, e, n + 1, m, k1, k2, h => by
    cases e <;> first | (cases k2; done) | (cases h; done) | skip
    cases m <;> first | (cases k2; done) | skip
    replace h : PyData.tuple _ = PyData.tuple _ := h
    injection h with h
    rw [toPyL_inj l _ _ _ k1 k2 h]
  | .dic _ _, _, _, _, h, _, _ => by cases h
  | .set _, _, _, _, h, _, _ => by cases h
  | .fn _, _, _, _, h, _, _ => by cases h
  | .exc _ _, _, _, _, h, _, _ => by cases h
theorem toPyL_inj : ∀ (l k : List D) (n m : Nat), okL n l = true → okL m k = true → toPyL l = toPyL k → l = k
  | [], [], _, _, _, _, _ => rfl
  | [], _ :: _, _, _, _, _, h => by cases h
  | _ :: _, [], _, _, _, _, h => by cases h
  | d :: l, e :: k, n, m, h1, h2, h => by
    replace h1 : (okD n d && okL n l) = true := h1
    replace h2 : (okD m e && okL m k) = true := h2
    rw [Bool.and_eq_true] at h1 h2
    obtain ⟨a, b⟩ := List.cons.inj h
    rw [toPy_inj d e n m h1.1 h2.1 a, toPyL_inj l k n m h1.2 h2.2 b]
end
theorem fold_mem {f : D → D → D} (hf : ∀ a b, f a b = a ∨ f a b = b) : ∀ (l : List D) (x : D), l.foldl f x = x ∨ l.foldl f x ∈ l
  | [], x => .inl rfl
  | y :: l, x => by
    rcases fold_mem hf l (f x y) with h | h
    · rcases hf x y with e | e
      · exact .inl (by rw [List.foldl_cons, h, e])
      · exact .inr (by rw [List.foldl_cons, h, e]; exact List.mem_cons_self)
    · exact .inr (List.mem_cons_of_mem _ h)
theorem minO_inv {l : List D} {d : D} (h : minO l = some d) : ∃ x l', l = x :: l' ∧ allAlk l = true ∧ okL 60 l = true ∧ d ∈ l ∧ toPy d = PySem.W.minD (toPy x) (l'.map toPy) := by
  cases l with
  | nil => cases h
  | cons x l =>
    obtain ⟨h1, rfl⟩ := ite_some (show (if allAlk (x :: l) && okL 60 (x :: l) then some (l.foldl (fun a y => if ltT y a then y else a) x) else none) = some d from h)
    rw [Bool.and_eq_true] at h1
    refine ⟨x, l, rfl, h1.1, h1.2, ?_, ?_⟩
    · rcases fold_mem (f := fun a y => if ltT y a then y else a) (fun a b => by by_cases z : ltT b a = true <;> simp [z]) l x with e | e
      · rw [e]; exact List.mem_cons_self
      · exact List.mem_cons_of_mem _ e
    · have key : ∀ (l : List D) (x : D), (∀ a ∈ x :: l, ∀ b ∈ x :: l, ltT a b = PySem.W.dataLt (toPy a) (toPy b)) → toPy (l.foldl (fun a y => if ltT y a then y else a) x) = PySem.W.minD (toPy x) (l.map toPy) := by
        intro l
        induction l with
        | nil => exact fun _ _ => rfl
        | cons y l ih =>
          intro x hh
          unfold PySem.W.minD
          rw [List.foldl_cons, List.map_cons, List.foldl_cons, hh y (by simp) x (by simp)]
          have := ih (if PySem.W.dataLt (toPy y) (toPy x) then y else x) fun a ha b hb => hh a (by
            by_cases z : PySem.W.dataLt (toPy y) (toPy x) = true <;> simp only [z, if_true, if_false, Bool.false_eq_true] at ha <;> rcases List.mem_cons.mp ha with rfl | ha <;> simp [*]) b (by
            by_cases z : PySem.W.dataLt (toPy y) (toPy x) = true <;> simp only [z, if_true, if_false, Bool.false_eq_true] at hb <;> rcases List.mem_cons.mp hb with rfl | hb <;> simp [*])
          rw [this]
          unfold PySem.W.minD
          congr 1
          split <;> rfl
      obtain ⟨m1, m2⟩ := allAlk_mem h1.1
      exact key l x fun a ha b hb => (dataLt_toPy a b 60 60 (okL_mem h1.2 a ha) (okL_mem h1.2 b hb) (m1 a ha b hb) (m2 a ha)).symm
/-- min(list or tuple) -/
def rMin (X : Tx) : List V → Hp → VK → Prop := fun xs H Q => ∃ (a : Addr) (ps : List (V × D)) (d : D), xs = [.ref a] ∧ (SqL X.K H a (ps.map (·.1)) ∨ SqT X.K H a (ps.map (·.1))) ∧ (∀ p ∈ ps, RD X H p.1 p.2) ∧ minO (ps.map (·.2)) = some d ∧
  ∀ v, (v, d) ∈ ps → Q v H
theorem cr_min (hK : Y.K = X.K) (hu : Y.A.units + 65 < cLine) (hc : Y.calm = true) : CallR Y (.builtin "min") (rMin X) := by
  intro pins s σ H xs us Q I r ⟨a, ps, d, hx, sq, rr, e, q⟩
  subst hx
  rw [Vals.ref1 r]
  obtain ⟨x, l', e1, h1, h2, h3, h4⟩ := minO_inv e
  obtain ⟨m1, m2⟩ := allAlk_mem h1
  have eL : (x :: l').map toPy = toPy x :: l'.map toPy := rfl
  have fin : ∀ (its : List Value), Vals (ps.map (·.1)) its → (∃ as, ReadsAll s.heap its (toPyL (x :: l')) as) ∧ PySem.W.AlikeAll (toPy x :: l'.map toPy) ∧ Y.A.units + 1 + PyData.depthAll (toPy x :: l'.map toPy) < cLine ∧
      ∀ (i : Nat) (v : Value) (h' : Heap) (tk : Nat) (bs : List Addr), its.toArray[i]? = some v → Reads h' v (PySem.W.minD (toPy x) (l'.map toPy)) bs → (∀ b o, s.heap.get? b = some o → h'.get? b = some o) → EP Y pins σ Q v { s with heap := h', toks := tk } := by
    intro its rv
    refine ⟨RD.readsLP I hK (x :: l') 60 _ its (e1 ▸ h2) (e1 ▸ rdl_of rr) rv, ⟨?_, ?_⟩, ?_, ?_⟩
    · rw [← eL, ← e1]
      intro d hd d' hd'
      obtain ⟨p, hp, rfl⟩ := List.mem_map.mp hd
      obtain ⟨p', hp', rfl⟩ := List.mem_map.mp hd'
      exact alike_toPy _ _ (m1 _ hp _ hp')
    · rw [← eL, ← e1]
      intro d hd
      obtain ⟨p, hp, rfl⟩ := List.mem_map.mp hd
      exact toPy_ne_none (m2 _ hp) (m1 _ hp _ hp)
    · have := (okL_plain (x :: l') 60 (e1 ▸ h2)).2
      rw [toPyL_map, eL] at this
      omega
    · intro i v h' tk bs hv rd' hk
      rw [← h4] at rd'
      have hv' : its[i]? = some v := by simpa using hv
      rcases vals_get rv i with ⟨_, z⟩ | ⟨w, u, z1, z2, z3⟩
      · rw [hv'] at z; cases z
      · rw [hv'] at z2
        cases z2
        rw [List.getElem?_map] at z1
        obtain ⟨p, hp, rfl⟩ := Option.map_eq_some_iff.mp z1
        have mp := List.mem_of_getElem? hp
        have op : okD 60 p.2 = true := okL_mem h2 _ (List.mem_map.mpr ⟨p, mp, rfl⟩)
        have I' : Inv Y pins σ H { s with heap := h', toks := tk } := I.kept hk
        obtain ⟨as, k⟩ := (rr p mp).readsP I' hK p.2 60 p.1 v op z3
        have ed := SeqAt.plain_unique _ _ _ _ _ (okD_plain p.2 60 op).1 k rd'
        have : p.2 = d := toPy_inj _ _ 60 60 op (okL_mem h2 d h3) ed
        exact ⟨p.1, H, I', z3, q p.1 (by rw [← this]; exact mp)⟩
  rcases sq with sq | sq
  · obtain ⟨its, rv, hl, hz⟩ := I.list (hK ▸ sq)
    obtain ⟨⟨as, k1⟩, k2, k3, k4⟩ := fin its rv
    rw [toPyL_map, eL] at k1
    exact PySem.W.min_list_data (I.ok.hd hc) hl.isList (by simpa using k1) k2 k3 k4
  · obtain ⟨its, rv, hl, hz⟩ := I.tuple (hK ▸ sq)
    obtain ⟨⟨as, k1⟩, k2, k3, k4⟩ := fin its rv
    rw [toPyL_map, eL] at k1
    exact PySem.W.min_tuple_data (I.ok.hd hc) (show s.heap.IsTuple a its.toArray from hl) (by simpa using k1) k2 k3 k4
end
end Pz
end
section
set_option Elab.async false
set_option linter.all false
/-! The rules as judgements: constants of the text, calls with keywords, built-in functions, walks of pairs. -/
namespace Pz
open PySem PySem.Spec PyProof.Rows L2

section
variable {c : Cf} {W : WX} {Γ : List Nat} {Y : Cx} {e a b : Expr} {es : List Expr} {pos p0 p1 p2 : Pos} {k ka kb kc : Kd} {fa fb fc : Env → R (D × Env)} {fs gs : Env → R (List D × Env)} {x : Str} {ls : List (Option Nat)} {pu pa pb : Bool} {kws : List Keyword} {np : Nat} {sg : Sg} {call : List D → R (D × List D)} {kwl : KwL}
/-- a constant of the text -/
theorem sx_glob {d : D} (hg : Gl Y x) (hd : (x == ("__debug__" : Str)) = false) (h : (∃ i tk, d = .int i ∧ Y.mg x = some (.int i tk)) ∨ ∃ z tk, d = .str z ∧ Y.mg x = some (.str ⟨z.toArray⟩ tk)) :
    SX c W Γ (kA true) Y (.Name x pos) (fun ρ => .ok (d, ρ)) := by
  rcases h with ⟨i, tk, rfl, hm⟩ | ⟨z, tk, rfl, hm⟩
  · exact sx_const (v := .int i) (pe_glob hg hm ⟨_, rfl⟩ hd) (fun _ => .int i) rfl
  · exact sx_const (v := sV z) (pe_glob hg hm ⟨_, rfl⟩ hd) (fun _ => .str z) rfl

/-! ### keywords -/
abbrev SK (c : Cf) (W : WX) (Γ : List Nat) (ls : List (Option Nat)) (pu : Bool) (Y : Cx) (kws : List Keyword) (f : Env → R (List D × Env)) : Prop := PK Y kws (tF c W Γ ls pu f)
theorem PK.imp {Y : Cx} {kws : List Keyword} {t u : TA} (h : PK Y kws t) (i : ∀ σ H Q, u σ H Q → t σ H Q) : PK Y kws u := ⟨fun p pins s σ H Q I z => h.run p pins s σ H Q I (i σ H Q z)⟩
theorem sk_nil : SK c W Γ [] true Y [] (fun ρ => .ok ([], ρ)) := PK.imp pk_nil fun σ H Q ⟨F, A, ρ, r, h⟩ => by
  replace h : ∀ vs H' F' A', Mid c Γ σ ρ H F A ρ H' F' A' (fun _ => False) true → ArgP c.X σ F' [] vs [] → Q vs H' := h
  exact h _ _ _ _ (Mid.refl r) .nil
theorem sk_cons {nm : Option Str} (he : SX c W Γ ⟨true, pa, 0⟩ Y e fa) (hr : SK c W Γ ls pb Y kws fs) :
    SK c W Γ (none :: ls) (pa && pb) Y (⟨nm, e, p0⟩ :: kws) (fun ρ => (fa ρ).bind fun p => (fs p.2).bind fun q => .ok (p.1 :: q.1, q.2)) :=
  PK.imp (pk_cons he hr) fun σ H Q ⟨F, A, ρ, r, h⟩ => tX.one (g := fun d ρ1 => (fs ρ1).bind fun q => .ok (d :: q.1, q.2)) r h fun x H1 F1 A1 d ρ1 B o h1 => by
    refine ⟨F1, A1, ρ1, o.rep, h1.bind.imp fun p _ hp vs H2 F2 A2 m ap => ?_⟩
    replace hp : ∀ vs H' F' A', Mid c Γ σ ρ H F A p.2 H' F' A' (fun _ => False) (pa && pb) → ArgP c.X σ F' (none :: ls) vs (d :: p.1) → Q vs H' := hp
    exact hp _ _ _ _ ((o.mid.trans m).weak (fun _ z => z.elim) fun z => z) (.frz (o.ot.2.mono m.nx.fro) ap)
theorem permD_L {as : List D} : ∀ {pm : List Nat} {ds : List D}, permD as pm = some ds → permL pm as = ds ∧ ds.length = pm.length
  | [], ds, h => by cases h; exact ⟨rfl, rfl⟩
  | i :: pm, ds, h => by
    obtain ⟨d, e1, h⟩ := Option.bind_eq_some_iff.mp h
    obtain ⟨ds', e2, rfl⟩ := Option.map_eq_some_iff.mp h
    obtain ⟨e3, e4⟩ := permD_L e2
    refine ⟨?_, congrArg (· + 1) e4⟩
    unfold permL at e3 ⊢
    rw [List.filterMap_cons, e1, e3]
theorem permL_map {α β : Type} (f : α → β) (l : List α) : ∀ pm : List Nat, permL pm (l.map f) = (permL pm l).map f
  | [] => rfl
  | i :: pm => by
    unfold permL
    rw [List.filterMap_cons, List.filterMap_cons, List.getElem?_map]
    cases l[i]? with
    | none => exact permL_map f l pm
    | some x => exact congrArg (f x :: ·) (permL_map f l pm)
theorem permL_mem {α : Type} {l : List α} {x : α} : ∀ {pm : List Nat}, x ∈ permL pm l → x ∈ l
  | i :: pm, h => by
    unfold permL at h
    rw [List.filterMap_cons] at h
    cases e : l[i]? with
    | none => rw [e] at h; exact permL_mem (pm := pm) h
    | some y =>
      rw [e] at h
      rcases List.mem_cons.mp h with rfl | h
      · exact List.mem_of_getElem? e
      · exact permL_mem (pm := pm) h
/-- a call of a def with frozen values -/
theorem call_frz (hlen : ∀ {σ : Sl} {ρ1 : Env} {H H1 F F1 : Hp} {A A1 : Nat → List Addr} {ρ : Env} {Q : VK} {qs : List (V × D)} {ds : List D}, True) : True := trivial
theorem frz_call {σ : Sl} {ρ ρ1 : Env} {H F H1 F1 : Hp} {A A1 : Nat → List Addr} {Q : VK} {qs : List (V × D)} (hp : ∀ i, sg.pl.getD i 0 = 0) (m : Mid c Γ σ ρ H F A ρ1 H1 F1 A1 (fun _ => False) pu) (e3 : ∀ q ∈ qs, RD c.X F1 q.1 q.2) (hl : qs.length = np)
    (h1 : Run c W σ H1 F1 (Own A1) ((call (qs.map (·.2))).bind fun r => .ok (r.1, ρ1)) (Ends' c Γ ⟨true, pu, sg.rl⟩ σ ρ H F A Q)) : spF c np [] sg call (qs.map (·.1)) H1 Q (WE W σ) := by
  refine ⟨F1, fun _ => [], qs.map (·.2), by simpa using hl, by simpa using hl, ⟨m.rep.sub, by simp, fun i d hi => ?_, fun _ _ => rfl, fun _ => List.nodup_nil, fun _ _ _ _ z => absurd z (by simp)⟩, ?_⟩
  · have hi := map_some_get hi
    rw [List.getElem?_map] at hi
    obtain ⟨q, hq, rfl⟩ := Option.map_eq_some_iff.mp hi
    exact ⟨q.1, map_some_of (by rw [List.getElem?_map, hq]; rfl), by rw [hp]; exact ⟨rfl, e3 q (List.mem_of_getElem? hq)⟩⟩
  · refine Run.imp (Run.shift h1.bind (Q := Own fun _ => []) fun a ⟨_, z⟩ => absurd z (by simp)) fun q _ hq v H' F' A' B hlen r' n' o nd dj => ?_
    replace hq : Ends' c Γ ⟨true, pu, sg.rl⟩ σ ρ H F A Q (q.1, ρ1) := hq
    have nf : Nxt H1 F1 (fun _ => False) H' F' (fun a => a ∈ B) := n'.weak (fun a ⟨_, z⟩ => absurd z (by simp)) fun a z => .inl (.inr z)
    have n1 : Nxt H1 F1 (Own A1) H' F' (fun a => Own A1 a ∨ a ∈ B) := (nf.beside (B := Own A1)).weak (fun a z => z.elim False.elim fun z => z) fun a z => .inl (z.elim .inr .inl)
    have hB : ∀ a ∈ B, H1 a = none := fun a ha => (nf.own a ha).elim False.elim fun z => z
    refine hq v H' F' A1 B ⟨⟨m.rep.step nf r'.sub fun _ _ z => z, (m.nx0.trans n1).weak (fun _ z => z) fun a z => .inl (z.imp (fun z => z) fun z => z.2), fun z => ?_⟩, o, fun _ => nd, fun _ a ha z => (m.rep.dom z).1 (hB a ha)⟩
    obtain ⟨z1, z2, z3⟩ := m.pu z
    exact ⟨z1, z2, (z3.trans (nf.weak (fun _ z => z) fun a z => z.elim))⟩
theorem evA_app (C : Cfg) : ∀ (as bs : T) (ρ : Env), True := fun _ _ _ => trivial
/-- f(a, .., k = b, ..) -/
theorem sx_callk {n : Nat} {ks : List Str} {pm : List Nat} {ls' : List (Option Nat)} (cx : Ctx c W Y) (fn : FnAt c Y kwl x np [] sg call) (hk : (x, n, ks, pm) ∈ kwl) (hg : Gl Y x) (hd : (x == ("__debug__" : Str)) = false) (ha : SA c W Γ ls pa Y (e :: es) fs) (hw : SK c W Γ ls' pb Y kws gs)
    (hn : allN ls = true) (hn' : allN ls' = true) (l1 : ls.length = n) (l2 : ls'.length = ks.length) (lp : pm.length = np) (hks : kwNames kws ks = true) (hp : ∀ i, sg.pl.getD i 0 = 0)
    (hs : starEach (e :: es) Y.env = (false, eval e Y.env) :: starEach es Y.env) (hs2 : (backTo pos (starEach es Y.env)).any (·.1) = false) :
    SX c W Γ ⟨true, pa && pb, sg.rl⟩ Y (.Call (.Name x p0) (e :: es) kws pos) (fun ρ => ((fs ρ).bind fun p => (gs p.2).bind fun q => .ok (p.1 ++ q.1, q.2)).bind fun p => (optR (permD p.1 pm)).bind fun as' => (optR (lend p.2 as' [])).bind fun ds => (call ds).bind fun r => .ok (r.1, setIO p.2 [] r.2)) := by
  obtain ⟨k, ad, fd, ps, F0, hr, hm, hkp, _, hb⟩ := fn.ex
  refine PE.imp (pe_callKG (E := WE W) F0 hr hg hm hkp (hb n ks pm hk) (fun σ => passAt cx.tk σ) ha hw hd hks hs hs2) fun σ H Q ⟨F, A, ρ, r, h⟩ => ?_
  dsimp only at h
  rw [bind_assoc] at h
  refine tF.one (g := fun ds ρ1 => ((gs ρ1).bind fun q => .ok (ds ++ q.1, q.2)).bind fun p => (optR (permD p.1 pm)).bind fun as' => (optR (lend p.2 as' [])).bind fun ds => (call ds).bind fun r => .ok (r.1, setIO p.2 [] r.2)) r h fun vs H1 F1 A1 ds ρ1 m ap h1 => ?_
  rw [bind_assoc] at h1
  refine tF.one (g := fun es ρ2 => (optR (permD (ds ++ es) pm)).bind fun as' => (optR (lend ρ2 as' [])).bind fun ds => (call ds).bind fun r => .ok (r.1, setIO ρ2 [] r.2)) m.rep h1 fun zs H2 F2 A2 es2 ρ2 m2 ap2 h2 => ?_
  obtain ⟨as', e1, h3⟩ := Run.opt h2
  replace h3 : Run c W σ H2 F2 (Own A2) ((call as').bind fun r => .ok (r.1, ρ2)) (Ends' c Γ ⟨true, pa && pb, sg.rl⟩ σ ρ H F A Q) := h3
  obtain ⟨qs, q1, q2, q3⟩ := ap.ps hn
  obtain ⟨rs, r1, r2, r3⟩ := ap2.ps hn'
  obtain ⟨e2, e3⟩ := permD_L e1
  refine ⟨ap.len.1.trans l1, ap2.len.1.trans l2, ?_⟩
  have ev : permL pm (vs ++ zs) = (permL pm (qs ++ rs)).map (·.1) := by rw [q1, r1, ← List.map_append, permL_map]
  have ed : as' = (permL pm (qs ++ rs)).map (·.2) := by rw [← e2, q2, r2, ← List.map_append, permL_map]
  rw [ev]
  refine frz_call (np := np) hp ((m.trans m2).weak (q1 := fun _ => False) (fun _ z => z.elim) fun z => z) (fun q hq => ?_) (by rw [← lp, ← e3, ed, List.length_map]) (by rw [← ed]; exact h3)
  rcases List.mem_append.mp (permL_mem hq) with z | z
  · exact (q3 q z).mono m2.nx.fro
  · exact r3 q z
theorem sx_callk0 {ks : List Str} {pm : List Nat} (cx : Ctx c W Y) (fn : FnAt c Y kwl x np [] sg call) (hk : (x, 0, ks, pm) ∈ kwl) (hg : Gl Y x) (hd : (x == ("__debug__" : Str)) = false) (hw : SK c W Γ ls pb Y kws gs)
    (hn : allN ls = true) (l2 : ls.length = ks.length) (lp : pm.length = np) (hks : kwNames kws ks = true) (hp : ∀ i, sg.pl.getD i 0 = 0) :
    SX c W Γ ⟨true, pb, sg.rl⟩ Y (.Call (.Name x p0) [] kws pos) (fun ρ => (gs ρ).bind fun p => (optR (permD p.1 pm)).bind fun as' => (optR (lend p.2 as' [])).bind fun ds => (call ds).bind fun r => .ok (r.1, setIO p.2 [] r.2)) := by
  obtain ⟨k, ad, fd, ps, F0, hr, hm, hkp, _, hb⟩ := fn.ex
  refine PE.imp (pe_callKG0 (E := WE W) F0 hr hg hm hkp (hb 0 ks pm hk) (fun σ => passAt cx.tk σ) hw hd hks) fun σ H Q ⟨F, A, ρ, r, h⟩ => ?_
  refine tF.one (g := fun es ρ2 => (optR (permD es pm)).bind fun as' => (optR (lend ρ2 as' [])).bind fun ds => (call ds).bind fun r => .ok (r.1, setIO ρ2 [] r.2)) r h fun zs H2 F2 A2 es2 ρ2 m2 ap2 h2 => ?_
  obtain ⟨as', e1, h3⟩ := Run.opt h2
  replace h3 : Run c W σ H2 F2 (Own A2) ((call as').bind fun r => .ok (r.1, ρ2)) (Ends' c Γ ⟨true, pb, sg.rl⟩ σ ρ H F A Q) := h3
  obtain ⟨rs, r1, r2, r3⟩ := ap2.ps hn
  obtain ⟨e2, e3⟩ := permD_L e1
  refine ⟨ap2.len.1.trans l2, ?_⟩
  have ev : permL pm zs = (permL pm rs).map (·.1) := by rw [r1, permL_map]
  have ed : as' = (permL pm rs).map (·.2) := by rw [← e2, r2, permL_map]
  rw [ev]
  exact frz_call (np := np) hp m2 (fun q hq => r3 q (permL_mem hq)) (by rw [← lp, ← e3, ed, List.length_map]) (by rw [← ed]; exact h3)

/-! ### built-in functions of one value -/
/-- .. whose result is a frozen value, or a new tuple -/
def FzR (X : Tx) (g : List D → Option D) (r : List V → Hp → VK → Prop) : Prop := ∀ (H F : Hp) (v : V) (d d' : D), Sub F H → RD X F v d → g [d] = some d' → ∀ Q : VK, (∀ v', RD X F v' d' → Q v' H) →
  (∀ p (ps : List (V × D)), H p = none → d' = .tup (ps.map (·.2)) → (∀ x ∈ ps, RD X F x.1 x.2) → Q (.ref p) (upd H p (.tup (ps.map (·.1))))) → r [v] H Q
theorem sx_fz {g : List D → Option D} {r : List V → Hp → VK → Prop} (pe : ∀ t, PA Y [a] t → PE Y e (tCB r t)) (hr : FzR c.X g r) (ha : SX c W Γ ⟨true, pa, 0⟩ Y a fa) (hs : noStar a = true) :
    SX c W Γ ⟨true, pa, 0⟩ Y e (fun ρ => (fa ρ).bind fun p => (optR (g [p.1])).bind fun d => .ok (d, p.2)) :=
  PE.imp (pe _ (pa_cons ha pa_nil (star_cons hs))) fun σ H Q ⟨F, A, ρ, rp, h⟩ => tX.one (g := fun d ρ1 => (optR (g [d])).bind fun d => .ok (d, ρ1)) rp h fun v H1 F1 A1 d ρ1 B o h1 => by
    obtain ⟨d', e', h2⟩ := Run.opt h1
    replace h2 : Ends' c Γ ⟨true, pa, 0⟩ σ ρ H F A Q (d', ρ1) := h2
    refine hr H1 F1 v d d' o.rep.sub o.ot.2 e' _ (fun v' r' => h2 v' H1 F1 A1 [] (o.mid.val r' (fun z => z) (.inl rfl))) fun p ps hp e2 hr => ?_
    subst e2
    exact h2 _ _ _ _ _ (o.mid.newT hp hr (fun z => z) rfl)
/-- .. whose result is a new list -/
def NlR (X : Tx) (g : List D → Option D) (r : List V → Hp → VK → Prop) : Prop := ∀ (H F : Hp) (v : V) (d d' : D), Sub F H → RD X F v d → g [d] = some d' → ∀ Q : VK,
  (∀ p (ps : List (V × D)), H p = none → d' = .lst (ps.map (·.2)) → (∀ x ∈ ps, RD X F x.1 x.2) → Q (.ref p) (upd H p (.lst (ps.map (·.1))))) → r [v] H Q
theorem sx_nl {g : List D → Option D} {r : List V → Hp → VK → Prop} (pe : ∀ t, PA Y [a] t → PE Y e (tCB r t)) (hr : NlR c.X g r) (ha : SX c W Γ ⟨true, pa, 0⟩ Y a fa) (hs : noStar a = true) :
    SX c W Γ ⟨true, pa, 1⟩ Y e (fun ρ => (fa ρ).bind fun p => (optR (g [p.1])).bind fun d => .ok (d, p.2)) :=
  PE.imp (pe _ (pa_cons ha pa_nil (star_cons hs))) fun σ H Q ⟨F, A, ρ, rp, h⟩ => tX.one (g := fun d ρ1 => (optR (g [d])).bind fun d => .ok (d, ρ1)) rp h fun v H1 F1 A1 d ρ1 B o h1 => by
    obtain ⟨d', e', h2⟩ := Run.opt h1
    replace h2 : Ends' c Γ ⟨true, pa, 1⟩ σ ρ H F A Q (d', ρ1) := h2
    refine hr H1 F1 v d d' o.rep.sub o.ot.2 e' _ fun p ps hp e2 hr => ?_
    subst e2
    exact h2 _ _ _ _ _ (o.mid.newL hp hr (fun z => z) rfl)
end
section
variable {X : Tx}
theorem at_repr : At1 X (biD .repr) (rRepr X) := fun H v d d' r e => by
  replace e : reprD d = some d' := e
  have : ∃ s, d' = .str s := by
    obtain ⟨_, h⟩ := ite_some (show (if (okD 60 d || noLst d) && (toPy d).showable && decide ((toPy d).depth ≤ 60) && decide ((toPy d).shown.length ≤ lim) then some (D.str (toPy d).shown.cps.toList) else none) = some d' from e)
    exact ⟨_, h.symm⟩
  obtain ⟨s, rfl⟩ := this
  exact ⟨rfl, _, fun F => .str s, fun Q q => ⟨v, d, s, rfl, r, e, q⟩⟩
theorem fz_tuple : FzR X (biD .tuple) (fun xs H Q => ∃ p ys, xs = [.ref p] ∧ ((SqL X.K H p ys ∧ ∀ l, H l = none → Q (.ref l) (upd H l (.tup ys))) ∨ (SqT X.K H p ys ∧ Q (.ref p) H))) := fun H F v d d' s r e Q q1 q2 => by
  cases d <;> first | (cases e; done) | skip
  · cases e
    obtain ⟨a, ps, rfl, rfl, sq, rr⟩ := r.lst_eq
    exact ⟨a, _, rfl, .inl ⟨s.sqL sq, fun l hl => q2 l ps hl rfl rr⟩⟩
  · cases e
    obtain ⟨a, ps, rfl, e2, sq, rr⟩ := r.tup_eq
    exact ⟨a, _, rfl, .inr ⟨s.sqT sq, q1 _ r⟩⟩
theorem nl_list : NlR X (biD .list) (fun xs H Q => (∃ p ys, xs = [.ref p] ∧ (SqL X.K H p ys ∨ SqT X.K H p ys) ∧ ∀ l, H l = none → Q (.ref l) (upd H l (.lst ys))) ∨ ∃ z, xs = [.str z] ∧ z.cps.size ≤ sizeLine ∧ ∀ l, H l = none → Q (.ref l) (upd H l (.lst (z.cps.toList.map fun ch => V.str ⟨#[ch]⟩)))) := fun H F v d d' s r e Q q => by
  cases d <;> first | (cases e; done) | skip
  · rename_i z
    replace e : (if z.length ≤ lim then some (D.lst (z.map fun ch => .str [ch])) else none) = some d' := e
    split at e <;> cases e
    rename_i hz
    refine .inr ⟨⟨z.toArray⟩, by rw [r.str_eq], by rw [← line_lim]; simpa using hz, fun l hl => ?_⟩
    have := q l (z.map fun ch => (sV [ch], D.str [ch])) hl (by rw [List.map_map]; rfl) fun x hx => by
      obtain ⟨ch, _, rfl⟩ := List.mem_map.mp hx
      exact .str _
    rw [List.map_map] at this
    exact this
  · cases e
    obtain ⟨a, ps, rfl, rfl, sq, rr⟩ := r.lst_eq
    exact .inl ⟨a, _, rfl, .inl (s.sqL sq), fun l hl => q l ps hl rfl rr⟩
  · cases e
    obtain ⟨a, ps, rfl, rfl, sq, rr⟩ := r.tup_eq
    exact .inl ⟨a, _, rfl, .inr (s.sqT sq), fun l hl => q l ps hl rfl rr⟩
theorem nl_sort : NlR X (biD .sorted) (rSort X) := fun H F v d d' s r e Q q => by
  cases d <;> first | (cases e; done) | skip
  rename_i l
  · replace e : (sortO l).map D.lst = some d' := e
    obtain ⟨l', e1, rfl⟩ := Option.map_eq_some_iff.mp e
    obtain ⟨a, ps, rfl, rfl, sq, rr⟩ := r.lst_eq
    refine ⟨a, ps, l', rfl, s.sqL sq, fun p hp => (rr p hp).mono s, e1, fun p qs hp e2 hq => ?_⟩
    exact q p qs hp (by rw [e2]) fun x hx => rr x (hq x hx)
  · cases r
theorem fz_min : FzR X (biD .min) (rMin X) := fun H F v d d' s r e Q q1 q2 => by
  cases d <;> first | (cases e; done) | skip
  · rename_i l
    replace e : minO l = some d' := e
    obtain ⟨a, ps, rfl, rfl, sq, rr⟩ := r.lst_eq
    exact ⟨a, ps, d', rfl, .inl (s.sqL sq), fun p hp => (rr p hp).mono s, e, fun v hv => q1 v (rr _ hv)⟩
  · rename_i l
    replace e : minO l = some d' := e
    obtain ⟨a, ps, rfl, rfl, sq, rr⟩ := r.tup_eq
    exact ⟨a, ps, d', rfl, .inr (s.sqT sq), fun p hp => (rr p hp).mono s, e, fun v hv => q1 v (rr _ hv)⟩
theorem allB_inv : ∀ {l : List D} {b : Bool}, allB l = some b → ∃ bs : List Bool, l = bs.map D.bl ∧ b = bs.all id
  | [], b, h => by cases h; exact ⟨[], rfl, rfl⟩
  | .bl c :: l, b, h => by
    obtain ⟨b', e, rfl⟩ := Option.map_eq_some_iff.mp (show (allB l).map (c && ·) = some b from h)
    obtain ⟨bs, rfl, rfl⟩ := allB_inv e
    exact ⟨c :: bs, rfl, rfl⟩
  | .non :: _, _, h | .int _ :: _, _, h | .str _ :: _, _, h | .lst _ :: _, _, h | .tup _ :: _, _, h | .dic _ _ :: _, _, h | .set _ :: _, _, h | .fn _ :: _, _, h | .exc _ _ :: _, _, h => by cases h
theorem anyB_inv : ∀ {l : List D} {b : Bool}, anyB l = some b → ∃ bs : List Bool, l = bs.map D.bl ∧ b = bs.any id
  | [], b, h => by cases h; exact ⟨[], rfl, rfl⟩
  | .bl c :: l, b, h => by
    obtain ⟨b', e, rfl⟩ := Option.map_eq_some_iff.mp (show (anyB l).map (c || ·) = some b from h)
    obtain ⟨bs, rfl, rfl⟩ := anyB_inv e
    exact ⟨c :: bs, rfl, rfl⟩
  | .non :: _, _, h | .int _ :: _, _, h | .str _ :: _, _, h | .lst _ :: _, _, h | .tup _ :: _, _, h | .dic _ _ :: _, _, h | .set _ :: _, _, h | .fn _ :: _, _, h | .exc _ _ :: _, _, h => by cases h
theorem bls_of {H : Hp} : ∀ {bs : List Bool} {ps : List (V × D)}, bs.map D.bl = ps.map (·.2) → (∀ p ∈ ps, RD X H p.1 p.2) → ps.map (·.1) = bs.map V.bl
  | [], [], _, _ => rfl
  | [], _ :: _, h, _ => by cases h
  | _ :: _, [], h, _ => by cases h
  | n :: ns, p :: ps, h, r => by
    have h1 : D.bl n = p.2 := (List.cons.inj h).1
    have h2 := (List.cons.inj h).2
    have rp := r p List.mem_cons_self
    rw [← h1] at rp
    rw [List.map_cons, List.map_cons, rp.bl_eq, bls_of h2 fun q hq => r q (List.mem_cons_of_mem _ hq)]
theorem at_all : At1 X (biD .all) (rAll X.K) := fun H v d d' r e => by
  cases d <;> first | (cases e; done) | skip
  rename_i l
  obtain ⟨b, e1, rfl⟩ := Option.map_eq_some_iff.mp (show (allB l).map D.bl = some d' from e)
  obtain ⟨bs, rfl, rfl⟩ := allB_inv e1
  obtain ⟨a, ps, rfl, e2, s, rr⟩ := r.lst_eq
  exact ⟨rfl, _, fun F => .bl _, fun Q q => ⟨a, bs, rfl, by rw [← bls_of e2 rr]; exact s, q⟩⟩
theorem at_any : At1 X (biD .any) (rAny X.K) := fun H v d d' r e => by
  cases d <;> first | (cases e; done) | skip
  rename_i l
  obtain ⟨b, e1, rfl⟩ := Option.map_eq_some_iff.mp (show (anyB l).map D.bl = some d' from e)
  obtain ⟨bs, rfl, rfl⟩ := anyB_inv e1
  obtain ⟨a, ps, rfl, e2, s, rr⟩ := r.lst_eq
  exact ⟨rfl, _, fun F => .bl _, fun Q q => ⟨a, bs, rfl, by rw [← bls_of e2 rr]; exact s, q⟩⟩
/-- str(i): as long as the figures' limit lets -/
theorem call_str_any {X : Cx} (hc : X.calm = true) (hn : X.base.NoDigits) : CallR X (.type "str") (fun xs H Q => ∃ i : Int, xs = [.int i] ∧ i.natAbs < 10 ^ 4300 ∧ Q (.str (toString i)) H) := by
  intro pins s σ H xs us Q I r h
  obtain ⟨i, rfl, hz, q⟩ := h
  obtain ⟨u, rfl, t, rfl⟩ := vals1 r
  exact PyProof.Rows.str_of_int_or (I.ok.hd hc) (hn.keeps I.bk) (fun _ => ⟨.str _, H, I.tok _, ⟨_, rfl⟩, q⟩) fun hge => absurd hz (Nat.not_lt.mpr hge)
theorem figs_ok {i : Int} (h : i.natAbs.log2 < 12900) : i.natAbs < 10 ^ 4300 := Nat.lt_of_lt_of_le (PyProof.Rows.lt_of_log2 h) PyProof.Rows.pow_lo
theorem at_str : At1 X (biD .str) (fun xs H Q => (∃ i : Int, xs = [.int i] ∧ i.natAbs < 10 ^ 4300 ∧ Q (.str (toString i)) H) ∨ ∃ a, xs = [.str a] ∧ Q (.str a) H) := fun H v d d' r e => by
  cases d <;> first | (cases e; done) | skip
  · rename_i i
    replace e : (if i.natAbs.log2 < 12900 then some (D.str (digits i)) else none) = some d' := e
    split at e <;> cases e
    rename_i h
    refine ⟨rfl, _, fun F => .str _, fun Q q => .inl ⟨i, by rw [r.int_eq], figs_ok h, ?_⟩⟩
    have : sV (digits i) = .str (toString i) := by
      show V.str _ = V.str _
      congr 1
      rw [Str.ofString_eq_toList]; rfl
    rw [← this]; exact q
  · rename_i z
    cases e
    exact ⟨rfl, _, fun F => .str z, fun Q q => .inr ⟨_, by rw [r.str_eq], q⟩⟩
end
end Pz
end
section
set_option Elab.async false
set_option linter.all false
/-! Walks of pairs; reversed lists; join; dict displays. -/
namespace Pz
open PySem PySem.Spec PyProof.Rows L2

theorem enumD_get : ∀ (l : List D) (n i : Nat), (enumD n l)[i]? = (l[i]?).map fun d => D.tup [.int ((n + i : Nat) : Int), d]
  | [], _, _ => by simp [enumD]
  | x :: l, n, 0 => rfl
  | x :: l, n, i + 1 => by
    show (enumD (n + 1) l)[i]? = _
    rw [enumD_get l (n + 1) i, List.getElem?_cons_succ, show n + 1 + i = n + (i + 1) by omega]
theorem enumD_len : ∀ (l : List D) (n : Nat), (enumD n l).length = l.length
  | [], _ => rfl
  | x :: l, n => congrArg (· + 1) (enumD_len l (n + 1))
theorem zipD_get : ∀ (l m : List D) (i : Nat), (zipD l m)[i]? = (l[i]?).bind fun d => (m[i]?).map fun e => D.tup [d, e]
  | [], _, _ => by simp [zipD]
  | x :: l, [], i => by
    show ([] : List D)[i]? = _
    cases (x :: l)[i]? <;> simp
  | x :: l, y :: m, 0 => rfl
  | x :: l, y :: m, i + 1 => by
    show (zipD l m)[i]? = _
    rw [zipD_get l m i]; rfl
theorem zipD_len : ∀ (l m : List D), (zipD l m).length = min l.length m.length
  | [], m => by simp [zipD]
  | x :: l, [] => by simp [zipD]
  | x :: l, y :: m => by
    show (zipD l m).length + 1 = _
    rw [zipD_len l m, List.length_cons, List.length_cons]; omega
section
variable {X : Tx}
/-- a walk that yields new pairs -/
theorem iters_pair {F1 : Hp} {J : It} {l : List D} {xs ys : Nat → Option V} {G : Hp → Prop} (hg : ∀ H', Sub F1 H' → G H') (w : Walk J l.length G (YPair xs ys))
    (h : ∀ i d x y, l[i]? = some d → xs i = some x → ys i = some y → ∃ d1 d2, d = .tup [d1, d2] ∧ RD X F1 x d1 ∧ RD X F1 y d2) : Iters X F1 J l :=
  ⟨G, hg, w.mono (fun _ h => h) fun i H v H' _ _ ⟨T, x, y, e1, e2, e3, e4, e5⟩ F' s1 s2 d hd => by
    obtain ⟨d1, d2, rfl, r1, r2⟩ := h i d x y hd e4 e5
    subst e1 e3
    have hf : F' T = none := by
      cases e : F' T with
      | none => rfl
      | some o => rw [s2 T o e] at e2; cases e2
    refine ⟨upd F' T (.tup [x, y]), upd_sub e2, upd_sub hf, fun b u eb => ?_, fun b eb => ?_, ?_⟩
    · by_cases hb : b = T
      · subst hb; rw [upd_same] at eb ⊢; exact eb
      · rw [upd_ne hb] at eb ⊢; exact s2 b u eb
    · by_cases hb : b = T
      · subst hb; exact .inr e2
      · rw [upd_ne hb] at eb; exact .inl eb
    · refine .tup [(x, d1), (y, d2)] rfl (.of upd_same) fun p hp => ?_
      rcases List.mem_cons.mp hp with rfl | hp
      · exact (r1.mono s1).mono (upd_sub hf)
      · rw [List.mem_singleton.mp hp]; exact (r2.mono s1).mono (upd_sub hf)⟩
end
theorem zipT_walk {K : PySem.W.Frag} {a b : Addr} {xs ys : List V} {n : Nat} (hn : n = min xs.length ys.length) : Walk (RZ.ItzT K a b) n (fun H => SqT K H a xs ∧ SqT K H b ys) (YPair (fun i => xs[i]?) (fun i => ys[i]?)) where
  goes := fun i H hi ⟨q1, q2⟩ => ⟨xs, ys, xs[i]'(by omega), ys[i]'(by omega), q1, q2, List.getElem?_eq_getElem _, List.getElem?_eq_getElem _⟩
  stops := fun H ⟨q1, q2⟩ => ⟨xs, ys, q1, q2, by omega⟩
  yields := fun i H v H' _ ⟨q1, q2⟩ ⟨T, x, y, e1, e2, e3, e4, e5⟩ => ⟨T, x, y, e1, e2, e3, e4 xs q1, e5 ys q2⟩
section
variable {c : Cf} {W : WX} {Γ : List Nat} {Y : Cx} {e a b : Expr} {es elts : List Expr} {pos p0 p1 p2 tpos : Pos} {fa fb : Env → R (D × Env)} {fs : Env → R (List D × Env)} {pu pa pb : Bool} {kk : Nat}
theorem si_enum (cx : Ctx c W Y) (hg : Gl Y "enumerate") (hm : Y.mg "enumerate" = none) (ha : SX c W Γ ⟨true, pa, 0⟩ Y a fa) (hs : noStar a = true) :
    SI c W Γ pa Y (.Tuple elts kk tpos) (.Call (.Name "enumerate" p0) [a] [] pos) (fun ρ => (fa ρ).bind fun p => (optR (lstO p.1)).bind fun l => .ok (enumD 0 l, p.2)) :=
  PI.imp (pi_enum hg hm (pa_cons ha pa_nil (star_cons hs)) (star_cons hs)) fun σ H Rr ⟨F, A, ρ, r, h⟩ => tX.one (g := fun d ρ1 => (optR (lstO d)).bind fun l => .ok (enumD 0 l, ρ1)) r h fun x H1 F1 A1 d ρ1 B o h1 => by
    obtain ⟨l, e, h1⟩ := Run.opt h1
    replace h1 : ∀ J H2 F2 A2, Mid c Γ σ ρ H F A ρ1 H2 F2 A2 (fun _ => False) pa → Iters c.X F2 J (enumD 0 l) → Rr J H2 := h1
    have m := o.mid.weak (q1 := fun _ => False) (fun _ z => z.elim) fun z => z
    cases d <;> first | (cases e; done) | skip
    cases e
    obtain ⟨ad, ps, rfl, rfl, sq, rr⟩ := o.ot.2.lst_eq
    rw [cx.K]
    refine ⟨ad, _, rfl, o.rep.sub.sqL sq, h1 _ _ _ _ m (iters_pair (G := fun H => SqL c.X.K H ad (ps.map (·.1))) (fun H' s => s.sqL sq) (by rw [enumD_len, List.length_map]; have := walk_enum (K := c.X.K) (a := ad) (xs := ps.map (·.1)); rw [List.length_map] at this; exact this) ?_)⟩
    intro i d x y hd hx hy
    rw [enumD_get, List.getElem?_map] at hd
    rw [List.getElem?_map] at hy
    cases hx
    obtain ⟨p, hp, rfl⟩ := Option.map_eq_some_iff.mp hy
    rw [hp] at hd
    cases hd
    exact ⟨_, _, rfl, by rw [Nat.zero_add]; exact .int _, rr p (List.mem_of_getElem? hp)⟩
theorem si_zip (cx : Ctx c W Y) (hg : Gl Y "zip") (hm : Y.mg "zip" = none) (ha : SX c W Γ ⟨true, pa, 0⟩ Y a fa) (hb : SX c W Γ ⟨true, pb, 0⟩ Y b fb) (hs : noStar a = true) (hs2 : noStar b = true) :
    SI c W Γ (pa && pb) Y (.Tuple elts kk tpos) (.Call (.Name "zip" p0) [a, b] [] pos) (fun ρ => (fa ρ).bind fun p => (fb p.2).bind fun q => (optR (zipO p.1 q.1)).bind fun l => .ok (l, q.2)) :=
  PI.imp (RZ.pi_zipA hg hm (pa_cons ha (pa_cons hb pa_nil (star_cons hs2)) (star_cons hs)) (star_cons hs) (by rw [star_cons hs2]; rfl)) fun σ H Rr ⟨F, A, ρ, r, h⟩ =>
    tX.two (g := fun d1 d2 ρ2 => (optR (zipO d1 d2)).bind fun l => .ok (l, ρ2)) (.inl rfl) r h fun x y H2 F2 A2 d1 d2 ρ2 B1 B2 t h2 => by
    obtain ⟨l, e, h1⟩ := Run.opt h2
    replace h1 : ∀ J H3 F3 A3, Mid c Γ σ ρ H F A ρ2 H3 F3 A3 (fun _ => False) (pa && pb) → Iters c.X F3 J l → Rr J H3 := h1
    have m := t.mid.weak (q1 := fun _ => False) (fun _ z => z.elim) fun z => z
    rw [cx.K]
    have key : ∀ (ps qs : List (V × D)), (∀ p ∈ ps, RD c.X F2 p.1 p.2) → (∀ p ∈ qs, RD c.X F2 p.1 p.2) → ∀ (i : Nat) (d : Pz.D) (x y : V), (zipD (ps.map (·.2)) (qs.map (·.2)))[i]? = some d → (ps.map (·.1))[i]? = some x → (qs.map (·.1))[i]? = some y → ∃ d1 d2, d = Pz.D.tup [d1, d2] ∧ RD c.X F2 x d1 ∧ RD c.X F2 y d2 := by
      intro ps qs h1 h2 i d x y hd hx hy
      rw [zipD_get, List.getElem?_map, List.getElem?_map] at hd
      rw [List.getElem?_map] at hx hy
      obtain ⟨p, hp, rfl⟩ := Option.map_eq_some_iff.mp hx
      obtain ⟨q, hq, rfl⟩ := Option.map_eq_some_iff.mp hy
      rw [hp, hq] at hd
      cases hd
      exact ⟨_, _, rfl, h1 p (List.mem_of_getElem? hp), h2 q (List.mem_of_getElem? hq)⟩
    cases d1 <;> first | (cases e; done) | skip
    · cases d2 <;> first | (cases e; done) | skip
      cases e
      obtain ⟨a1, ps, rfl, rfl, s1, r1⟩ := t.o1.2.lst_eq
      obtain ⟨a2, qs, rfl, rfl, s2, r2⟩ := t.o2.2.lst_eq
      refine ⟨a1, a2, ps.map (·.1), qs.map (·.1), rfl, .inl ⟨t.mid.rep.sub.sqL s1, t.mid.rep.sub.sqL s2, h1 _ _ _ _ m (iters_pair (G := fun H => SqL c.X.K H a1 (ps.map (·.1)) ∧ SqL c.X.K H a2 (qs.map (·.1))) (fun H' s => ⟨s.sqL s1, s.sqL s2⟩) (walk_zip (by rw [zipD_len]; simp)) (key ps qs r1 r2))⟩⟩
    · cases d2 <;> first | (cases e; done) | skip
      cases e
      obtain ⟨a1, ps, rfl, rfl, s1, r1⟩ := t.o1.2.tup_eq
      obtain ⟨a2, qs, rfl, rfl, s2, r2⟩ := t.o2.2.tup_eq
      refine ⟨a1, a2, ps.map (·.1), qs.map (·.1), rfl, .inr ⟨t.mid.rep.sub.sqT s1, t.mid.rep.sub.sqT s2, h1 _ _ _ _ m (iters_pair (G := fun H => SqT c.X.K H a1 (ps.map (·.1)) ∧ SqT c.X.K H a2 (qs.map (·.1))) (fun H' s => ⟨s.sqT s1, s.sqT s2⟩) (zipT_walk (by rw [zipD_len]; simp)) (key ps qs r1 r2))⟩⟩
/-- a[::-1], a list -/
theorem sx_rev {n : Nat} (cx : Ctx c W Y) (ha : SX c W Γ ⟨true, pa, 0⟩ Y a fa) :
    SX c W Γ ⟨true, pa, 1⟩ Y (.Subscript a (.Slice none none (some (.UnaryOp .USub (.Constant (.int 1) n p0) p1)) p2) pos) (fun ρ => (fa ρ).bind fun p => (optR (revD p.1)).bind fun d => .ok (d, p.2)) :=
  PE.imp (pe_revL ha) fun σ H Q ⟨F, A, ρ, rp, h⟩ => tX.one (g := fun d ρ1 => (optR (revD d)).bind fun d => .ok (d, ρ1)) rp h fun v H1 F1 A1 d ρ1 B o h1 => by
    obtain ⟨d', e', h2⟩ := Run.opt h1
    replace h2 : Ends' c Γ ⟨true, pa, 1⟩ σ ρ H F A Q (d', ρ1) := h2
    cases d <;> first | (cases e'; done) | skip
    cases e'
    obtain ⟨ad, ps, rfl, rfl, sq, rr⟩ := o.ot.2.lst_eq
    rw [cx.K]
    refine ⟨ad, _, rfl, o.rep.sub.sqL sq, fun p hp => ?_⟩
    have := o.mid.newL (k := ⟨true, pa, 1⟩) (ps := ps.reverse) hp (fun x hx => rr x (List.mem_reverse.mp hx)) (fun z => z) rfl
    rw [List.map_reverse, List.map_reverse] at this
    exact h2 _ _ _ _ _ this
/-- {} -/
theorem sx_dct0 : SX c W Γ ⟨true, true, 1⟩ Y (.Dict [] [] pos) (fun ρ => .ok (.dic [] [], ρ)) :=
  PE.imp pe_dnewK fun σ H Q ⟨F, A, ρ, rp, hq⟩ => fun p hp => by
    replace hq : Ends' c Γ ⟨true, true, 1⟩ σ ρ H F A Q (.dic [] [], ρ) := hq
    have m := Mid.refl (c := c) (p := true) rp
    have sb := upd_sub (o := .dK []) hp
    refine hq _ _ _ _ [p] ⟨(m.grow sb (Sub.refl _) (rp.sub.trans sb) (fun _ e => .inl e) (q2 := fun b => true = true ∧ b ∈ [p]) fun b z => .inr (by rw [List.mem_singleton.mp z.2]; exact hp)).weak (fun _ h => h) fun z => z, ?_, fun _ => by simp, fun _ b hb z => ?_⟩
    · exact ⟨p, [], rfl, rfl, upd_same, m.fresh hp, rfl, rfl, fun q hq => absurd hq (by simp)⟩
    · rw [List.mem_singleton.mp hb] at z
      exact (rp.dom z).1 hp

/-! ### join -/
theorem strs_inv : ∀ {l : List D} {ws : List (List Nat)}, strsOf l = some ws → l = ws.map D.str
  | [], ws, h => by cases h; rfl
  | .str s :: l, ws, h => by
    obtain ⟨ws', e, rfl⟩ := Option.map_eq_some_iff.mp (show (strsOf l).map (s :: ·) = some ws from h)
    rw [strs_inv e]; rfl
  | .non :: _, _, h | .int _ :: _, _, h | .bl _ :: _, _, h | .lst _ :: _, _, h | .tup _ :: _, _, h | .dic _ _ :: _, _, h | .set _ :: _, _, h | .fn _ :: _, _, h | .exc _ _ :: _, _, h => by cases h
theorem strs_of {X : Tx} {H : Hp} : ∀ {ws : List (List Nat)} {ps : List (V × D)}, ws.map D.str = ps.map (·.2) → (∀ p ∈ ps, RD X H p.1 p.2) → ps.map (·.1) = (ws.map fun s => (⟨s.toArray⟩ : Str)).map V.str
  | [], [], _, _ => rfl
  | [], _ :: _, h, _ => by cases h
  | _ :: _, [], h, _ => by cases h
  | n :: ns, p :: ps, h, r => by
    have h1 : D.str n = p.2 := (List.cons.inj h).1
    have h2 := (List.cons.inj h).2
    have rp := r p List.mem_cons_self
    rw [← h1] at rp
    rw [List.map_cons, List.map_cons, List.map_cons, rp.str_eq, strs_of h2 fun q hq => r q (List.mem_cons_of_mem _ hq)]
theorem joinS_fold (sep : List Nat) : ∀ (ws : List (List Nat)) (a : List Nat), joinS sep (a :: ws) = ws.foldl (fun acc p => acc ++ sep ++ p) a
  | [], a => rfl
  | w :: ws, a => by
    show a ++ sep ++ joinS sep (w :: ws) = _
    rw [joinS_fold sep ws w, List.foldl_cons]
    have : ∀ (ws : List (List Nat)) (p b : List Nat), p ++ ws.foldl (fun acc q => acc ++ sep ++ q) b = ws.foldl (fun acc q => acc ++ sep ++ q) (p ++ b) := fun ws => by
      induction ws with
      | nil => exact fun _ _ => rfl
      | cons w ws ih =>
        intro p b
        rw [List.foldl_cons, List.foldl_cons, ih]
        simp only [List.append_assoc]
    exact this ws (a ++ sep) w
theorem glued_eq (sep : List Nat) (ws : List (List Nat)) : Txt.join ⟨sep.toArray⟩ (ws.map fun s => (⟨s.toArray⟩ : Str)) = ⟨(joinS sep ws).toArray⟩ := by
  show (⟨_⟩ : Str) = _
  congr 1
  cases ws with
  | nil => rfl
  | cons w ws =>
    rw [joinS_fold]
    show (ws.map _).foldl _ _ = _
    have : ∀ (ws : List (List Nat)) (a : List Nat), (ws.map fun s => (⟨s.toArray⟩ : Str)).foldl (fun acc p => acc ++ sep.toArray ++ p.cps) a.toArray = (ws.foldl (fun acc p => acc ++ sep ++ p) a).toArray := fun ws => by
      induction ws with
      | nil => exact fun _ => rfl
      | cons w ws ih =>
        intro a
        rw [List.map_cons, List.foldl_cons, List.foldl_cons, ← ih]
        simp
    exact this ws w
theorem sx_join {s1 : List Nat} {z : Str} {n : Nat} (cx : Ctx c W Y) (hz : z = ⟨s1.toArray⟩) (hb : SX c W Γ ⟨true, pb, 0⟩ Y b fb) (hs : noStar b = true) (hline : (p1.endLine == pos.line) = true) :
    SX c W Γ (kA pb) Y (.Call (.Attribute (.Constant (.str z) n p2) "join" p1) [b] [] pos) (fun ρ => (fb ρ).bind fun q => (optR (meD .join (.str s1) [q.1])).bind fun d => .ok (d, q.2)) :=
  PE.imp (pe_join pe_str hb (star_cons hs) rfl hline) fun σ H Q ⟨F, A, ρ, rp, h⟩ => by
    subst hz
    refine ⟨⟨_, rfl⟩, tX.one (g := fun d2 ρ2 => (optR (meD .join (.str s1) [d2])).bind fun d => .ok (d, ρ2)) rp h fun y H2 F2 A2 d2 ρ2 B2 o2 k3 => ?_⟩
    obtain ⟨d, e, k4⟩ := Run.opt k3
    replace k4 : Ends' c Γ (kA pb) σ ρ H F A Q (d, ρ2) := k4
    cases d2 <;> first | (cases e; done) | skip
    rename_i l
    replace e : ((strsOf l).bind fun ws => if (joinS s1 ws).length ≤ lim ∧ (ws.map (·.length)).sum + ws.length * s1.length ≤ lim then some (D.str (joinS s1 ws)) else none) = some d := e
    obtain ⟨ws, e1, e2⟩ := Option.bind_eq_some_iff.mp e
    split at e2 <;> cases e2
    rename_i hz
    obtain ⟨ad, ps, rfl, e3, sq, rr⟩ := o2.ot.2.lst_eq
    rw [strs_inv e1] at e3
    refine ⟨⟨s1.toArray⟩, ad, ws.map fun s => ⟨s.toArray⟩, rfl, rfl, .inl ?_, ?_, ?_⟩
    · rw [← strs_of e3 rr, cx.K]; exact o2.rep.sub.sqL sq
    · rw [List.map_map, List.length_map]
      have := hz.2
      exact this
    · rw [glued_eq]
      exact k4 (sV _) _ _ _ _ (o2.mid.val (.str _) (fun z => z) (.inr rfl))
end
end Pz
end
section
set_option Elab.async false
set_option linter.all false
/-! Dict displays with constant keys. -/
namespace Pz
open PySem PySem.Spec PyProof.Rows L2

section
variable {c : Cf} {W : WX} {Γ : List Nat} {Y : Cx} {e a b ke ve : Expr} {es elts : List Expr} {pos p0 p1 p2 tpos : Pos} {fa fb : Env → R (D × Env)} {fs : Env → R (List D × Env)} {pu pa pb : Bool} {keys : List (Option Expr)} {values : List Expr} {ks : List Key} {k : Key}
/-- the pairs of a display: the values are frozen -/
def SPs (c : Cf) (W : WX) (Γ : List Nat) (pu : Bool) (Y : Cx) (pos : Pos) (keys : List (Option Expr)) (values : List Expr) (ks : List Key) (f : Env → R (List D × Env)) : Prop :=
  keys.length = values.length ∧ keys.length = ks.length ∧ keys.all (·.isSome) = true ∧ ∃ trs, PPs Y pos keys values trs ∧ ∀ (σ : Sl) (H F : Hp) (A : Nat → List Addr) (ρ : Env) (Q : List (V × V) → Hp → Prop), Rep c.X Γ ρ σ H F A →
    Run c W σ H F (Own A) (f ρ) (fun p => ∀ vs H' F' A', Mid c Γ σ ρ H F A p.2 H' F' A' (fun _ => False) pu → RDL c.X F' vs p.1 → vs.length = ks.length → Q ((ks.map kV).zip vs) H') → tPairs trs σ H Q
theorem sps_nil : SPs c W Γ true Y pos [] [] [] (fun ρ => .ok ([], ρ)) := ⟨rfl, rfl, rfl, [], pps_nil, fun σ H F A ρ Q r h => by
  replace h : ∀ vs H' F' A', Mid c Γ σ ρ H F A ρ H' F' A' (fun _ => False) true → RDL c.X F' vs [] → vs.length = 0 → Q (([] : List V).zip vs) H' := h
  exact h [] _ _ _ (Mid.refl r) .nil rfl⟩
theorem RDL.mono {X : Tx} {F G : Hp} (s : Sub F G) {vs : List V} {ds : List D} (h : RDL X F vs ds) : RDL X G vs ds := by
  induction h with
  | nil => exact .nil
  | cons r _ ih => exact .cons (r.mono s) ih
theorem sps_cons (hk : PE Y ke (tC (kV k))) (hv : SX c W Γ ⟨true, pa, 0⟩ Y ve fa) (hr : SPs c W Γ pb Y pos keys values ks fs) :
    SPs c W Γ (pa && pb) Y pos (some ke :: keys) (ve :: values) (k :: ks) (fun ρ => (fa ρ).bind fun p => (fs p.2).bind fun q => .ok (p.1 :: q.1, q.2)) := by
  obtain ⟨l1, l2, l3, trs, pp, hh⟩ := hr
  refine ⟨congrArg (· + 1) l1, congrArg (· + 1) l2, by rw [List.all_cons, l3]; rfl, _, pps_cons hk hv pp, fun σ H F A ρ Q r h => ?_⟩
  show tX c W Γ ⟨true, pa, 0⟩ fa σ H fun y H2 => tPairs trs σ H2 fun ps H3 => Q ((kV k, y) :: ps) H3
  refine tX.one (g := fun d ρ1 => (fs ρ1).bind fun q => .ok (d :: q.1, q.2)) r h fun x H1 F1 A1 d ρ1 B o h1 => ?_
  refine hh σ H1 F1 A1 ρ1 _ o.rep (h1.bind.imp fun p _ hp vs H2 F2 A2 m rl ll => ?_)
  replace hp : ∀ vs H' F' A', Mid c Γ σ ρ H F A p.2 H' F' A' (fun _ => False) (pa && pb) → RDL c.X F' vs (d :: p.1) → vs.length = ks.length + 1 → Q (((k :: ks).map kV).zip vs) H' := hp
  exact hp (x :: vs) H2 F2 A2 ((o.mid.trans m).weak (fun _ z => z.elim) fun z => z) (.cons (o.ot.2.mono m.nx.fro) rl) (congrArg (· + 1) ll)
theorem mergeK_nd : ∀ (kvs acc : List (Key × V)), ((acc ++ kvs).map (·.1)).Nodup → mergeK acc kvs = acc ++ kvs
  | [], acc, _ => by simp [mergeK]
  | p :: kvs, acc, h => by
    have e : L2.putK acc p.1 p.2 = acc ++ [p] := by
      unfold L2.putK
      rw [if_neg]
      intro z
      rw [List.any_eq_true] at z
      obtain ⟨q, hq, eq⟩ := z
      rw [List.map_append, List.map_cons] at h
      have := (List.nodup_append.mp h).2.2 q.1 (List.mem_map.mpr ⟨q, hq, rfl⟩) p.1 List.mem_cons_self
      exact this (of_decide_eq_true eq)
    show mergeK (L2.putK acc p.1 p.2) kvs = _
    rw [e, mergeK_nd kvs (acc ++ [p]) (by rw [List.append_assoc]; exact h), List.append_assoc]; rfl
theorem sx_dct (h : SPs c W Γ pu Y pos keys values ks fs) (h0 : keys ≠ []) (h15 : keys.length ≤ 15) (nd : ks.Nodup) :
    SX c W Γ ⟨true, pu, 1⟩ Y (.Dict keys values pos) (fun ρ => (fs ρ).bind fun p => .ok (.dic (ks.map kD) p.1, p.2)) := by
  obtain ⟨l1, l2, l3, trs, pp, hh⟩ := h
  refine PE.imp (pe_disp pp l3 l1 h0 h15) fun σ H Q ⟨F, A, ρ, r, h⟩ p hp => ?_
  have nA : ¬ Own A p := fun z => (r.dom z).1 hp
  have hF : F p = none := by
    cases e : F p with
    | none => rfl
    | some o => rw [r.sub p o e] at hp; cases hp
  have g : Nxt H F (Own A) (upd H p (.dK [])) F (Own A) := Nxt.grow (upd_sub hp)
  have g0 : Nxt H F (fun _ => False) (upd H p (.dK [])) F (fun _ => False) := Nxt.grow (upd_sub hp)
  have r1 : Rep c.X Γ ρ σ (upd H p (.dK [])) F A := r.step g0 (r.sub.trans (upd_sub hp)) fun _ _ z => z
  refine hh σ _ F A ρ _ r1 ((h.bind.at g fun _ z => z).imp fun q _ hq vs H2 F2 A2 m rl ll => ?_)
  replace hq : Ends' c Γ ⟨true, pu, 1⟩ σ ρ H F A Q (.dic (ks.map kD) q.1, q.2) := hq
  have nA2 : ¬ Own A2 p := fun z => (m.nx.own p (.inl z)).elim nA fun y => by rw [upd_same] at y; cases y
  have e2 : H2 p = some (.dK []) := m.nx.keep p _ upd_same nA
  have hF2 : F2 p = none := by
    cases e : F2 p with
    | none => rfl
    | some o =>
      exfalso
      rcases m.nx.new p (by rw [e]; simp) with z | z | z
      · exact z hF
      · exact nA z
      · rw [upd_same] at z; cases z
  refine ⟨e2, ks.zip vs, ?_, by rw [List.length_zip]; omega, ?_⟩
  · rw [List.zip_map_left]; rfl
  · obtain ⟨ps, q1, q2, q3⟩ := rdl_ps rl
    have lks : ks.length = ps.length := by rw [q1, List.length_map] at ll; exact ll.symm
    have nk : mergeK [] (ks.zip vs) = ks.zip vs := mergeK_nd (ks.zip vs) [] (by rw [List.nil_append, List.map_fst_zip (by omega)]; exact nd)
    rw [nk]
    have gp : Nxt H2 F2 (fun a => a = p) (upd H2 p (.dK (ks.zip vs))) F2 (fun a => a = p) := ⟨fun a o ea na => by rw [upd_ne na]; exact ea, Sub.refl _, fun a z => .inl z, fun a z => .inl z⟩
    have s2 : Sub F2 (upd H2 p (.dK (ks.zip vs))) := fun a o ea => by
      by_cases ha : a = p
      · subst ha; rw [hF2] at ea; cases ea
      · rw [upd_ne ha]; exact m.rep.sub a o ea
    refine hq (.ref p) _ F2 A2 [p] ⟨⟨m.rep.step gp s2 fun a z w => nA2 (w ▸ z), ⟨fun a o ea na => ?_, m.nx.fro, fun a z => ?_, fun a z => ?_⟩, fun z => ?_⟩, ?_, fun _ => by simp, fun _ a ha z => nA2 (List.mem_singleton.mp ha ▸ z)⟩
    · by_cases ha : a = p
      · subst ha; rw [hp] at ea; cases ea
      · rw [upd_ne ha]; exact m.nx.keep a o (by rw [upd_ne ha]; exact ea) na
    · rcases m.nx.new a z with w | w | w
      · exact .inl w
      · exact .inr (.inl w)
      · by_cases ha : a = p
        · subst ha; exact .inr (.inr hp)
        · rw [upd_ne ha] at w; exact .inr (.inr w)
    · rcases z with z | z
      · rcases m.nx.own a (.inl z) with w | w
        · exact .inl w
        · by_cases ha : a = p
          · subst ha; exact .inr hp
          · rw [upd_ne ha] at w; exact .inr w
      · rw [List.mem_singleton.mp z.2]; exact .inr hp
    · obtain ⟨z1, z2, z3⟩ := m.pu z
      refine ⟨z1, z2, ⟨fun a o ea na => ?_, z3.fro, fun a w => ?_, fun _ w => w.elim⟩⟩
      · by_cases ha : a = p
        · subst ha; rw [hp] at ea; cases ea
        · rw [upd_ne ha]; exact z3.keep a o (by rw [upd_ne ha]; exact ea) na
      · rcases z3.new a w with w | w | w
        · exact .inl w
        · exact .inr (.inl w)
        · by_cases ha : a = p
          · subst ha; exact .inr (.inr hp)
          · rw [upd_ne ha] at w; exact .inr (.inr w)
    · refine ⟨p, (ks.zip ps).map fun z => (z.1, z.2.1, z.2.2, []), rfl, ?_, ?_, hF2, ?_, ?_, fun z hz => ?_⟩
      · rw [List.map_map, q2]
        show _ = List.map (fun z : Key × V × D => z.2.2) _
        rw [← List.map_snd_zip (l₁ := ks) (l₂ := ps) (by omega), List.map_map]
        simp [List.map_snd_zip, lks]
      · rw [upd_same, List.map_map, q1, List.zip_map_right]; rfl
      · rw [List.map_map]
        show _ = List.map (fun z : Key × V × D => kD z.1) _
        have := congrArg (List.map kD) (List.map_fst_zip (l₁ := ks) (l₂ := ps) (by omega))
        rw [List.map_map] at this
        exact this.symm
      · rw [List.map_map]
        have : (List.map ((fun q : Key × V × D × List Addr => q.2.2.2) ∘ fun z : Key × V × D => (z.1, z.2.1, z.2.2, [])) (ks.zip ps)).flatten = [] := by
          simp [List.flatten_eq_nil_iff]
        rw [this]
      · obtain ⟨y, hy, rfl⟩ := List.mem_map.mp hz
        exact ⟨rfl, q3 y.2 (List.of_mem_zip hy).2⟩
end
end Pz
end
section
set_option Elab.async false
set_option linter.all false
/-! l.index(x). -/
namespace Pz
open PySem PySem.Spec PyProof.Rows L2

theorem firstIx_inv (x : D) : ∀ (l : List D) (n j : Nat), firstIx x l n = some j → ∃ i z, j = n + i ∧ l[i]? = some z ∧ eqD z x = true ∧ ∀ (m : Nat) (z' : D), m < i → l[m]? = some z' → eqD z' x = false
  | [], _, _, h => by cases h
  | y :: l, n, j, h => by
    unfold firstIx at h
    split at h
    · rename_i e
      cases h
      exact ⟨0, y, rfl, rfl, e, fun m z' hm => absurd hm (Nat.not_lt_zero m)⟩
    · rename_i e
      obtain ⟨i, z, e1, e2, e3, e4⟩ := firstIx_inv x l (n + 1) j h
      refine ⟨i + 1, z, by omega, e2, e3, fun m z' hm hz => ?_⟩
      cases m with
      | zero =>
        cases hz
        simpa using e
      | succ m => exact e4 m z' (by omega) hz
section
variable {X : Tx} {Y : Cx}
/-- what index asks -/
def rIxR (X : Tx) : V → List V → Hp → VK → Prop := fun x xs H Q => ∃ (l : List D) (d : D) (y : V) (j : Nat), RD X H x (.lst l) ∧ xs = [y] ∧ RD X H y d ∧ okD 60 d = true ∧ okL 60 l = true ∧ firstIx d l 0 = some j ∧ Q (.int (j : Nat)) H
theorem mt_indexR (hK : Y.K = X.K) (hu : Y.A.units + 65 < cLine) : MtR Y "list.index" (rIxR X) := by
  intro pins s σ H x xs v us Q I rx rxs h
  obtain ⟨l, d, y, j, r1, rfl, r2, h1, h2, hj, q⟩ := h
  obtain ⟨a, ps, rfl, e, sq, rr⟩ := r1.lst_eq
  cases rx
  cases rxs with
  | cons ry rt =>
    rename_i uy ut
    cases rt
    obtain ⟨bs, q1⟩ := r2.readsP I hK d 60 y uy h1 ry
    obtain ⟨its, rv, ⟨⟨cls, dd, data, sls⟩, n, ho, hc, hdn, hdt⟩, hlen⟩ := I.list (hK ▸ sq)
    obtain ⟨as, h4⟩ := RD.readsLP I hK l 60 (ps.map (·.1)) its h2 (e ▸ rdl_of rr) rv
    simp only at hc hdt
    subst hc hdt
    have p1 := okD_plain d 60 h1
    have p2 := okL_plain l 60 h2
    obtain ⟨i, z, e1, e2, e3, e4⟩ := firstIx_inv d l 0 j hj
    obtain rfl : j = i := by omega
    have hmap : its.map (SeqAt.readOf s.heap) = toPyL l := SeqAt.readsAll_map_plain (toPyL l) its as p2.1 h4
    have hlenL : its.length = l.length := by rw [← toPyL_len l, ← hmap, List.length_map]
    obtain ⟨hjl, _⟩ := List.getElem?_eq_some_iff.mp e2
    have hsl := sizeLine_eq
    have hvl := rv.length
    have hpl : (ps.map (·.1)).length = l.length := by rw [e, List.length_map, List.length_map]
    have ok_at : ∀ (m : Nat) (z' : D), l[m]? = some z' → okD 60 z' = true := fun m z' hm => by
      have : ∀ (l : List D) (m : Nat), okL 60 l = true → l[m]? = some z' → okD 60 z' = true := fun l => by
        induction l with
        | nil => intro m _ h; simp at h
        | cons y l ih =>
          intro m ho h
          replace ho : (okD 60 y && okL 60 l) = true := ho
          rw [Bool.and_eq_true] at ho
          cases m with
          | zero => cases h; exact ho.1
          | succ m => exact ih m ho.2 h
      exact this l m h2 hm
    have at_ : ∀ (m : Nat) (hm : m < its.toArray.size) (z' : D), l[m]? = some z' → PyData.eqv (SeqAt.readOf s.heap its.toArray[m]) (toPy d) = eqD z' d := by
      intro m hm z' hz'
      have hml : m < its.length := by simpa using hm
      have e5 : (its.map (SeqAt.readOf s.heap))[m]? = some (toPy z') := by rw [hmap, toPyL_map, List.getElem?_map, hz']; rfl
      rw [List.getElem?_map, List.getElem?_eq_getElem hml] at e5
      have e6 : SeqAt.readOf s.heap its[m] = toPy z' := Option.some.inj (show some (SeqAt.readOf s.heap its[m]) = some (toPy z') from e5)
      have e7 : its.toArray[m] = its[m] := by simp
      rw [e7, e6]
      exact eqv_toPy z' d 60 60 (ok_at m z' hz') h1
    have hj2 : j < its.toArray.size := by simpa using (show j < its.length by omega)
    have hz : its.length ≤ sizeLine := by omega
    refine call_meets PySem.F.slot_list_index ⟨_, ho, rfl⟩ PySem.F.entry_list_index (PySem.F.args_list_index_2 _ _)
      (SeqAt.list_indexAt a its.toArray n dd sls uy (fun u => PyData.eqv (SeqAt.readOf s.heap u) (toPy d)) j hj2 (by omega) ?_ ?_) ⟨ho, SeqAt.items_plain (vs := its.toArray) (show ReadsAll s.heap its.toArray.toList (toPyL l) as from h4) q1 p2.1 p1.1 (by omega), ?_⟩
    · show PyData.eqv (SeqAt.readOf s.heap its.toArray[j]) (toPy d) = true
      rw [at_ j hj2 z e2]
      exact e3
    · intro m hm hmj
      have hmd : m < l.length := by omega
      have hz' : l[m]? = some l[m] := List.getElem?_eq_getElem hmd
      show PyData.eqv (SeqAt.readOf s.heap its.toArray[m]) (toPy d) = false
      rw [at_ m hm _ hz']
      exact e4 m _ hmj hz'
    · exact ⟨.int (j : Nat), H, I.tok _, ⟨_, rfl⟩, q⟩
end
section
variable {c : Cf} {W : WX} {Γ : List Nat} {Y : Cx} {a : Expr} {pos p1 p2 : Pos} {ka kb : Kd} {fa fb : Env → R (D × Env)} {y : Str}
theorem sx_index (cx : Ctx c W Y) (ha : SX c W Γ ka Y a fa) (hb : SX c W Γ kb Y (.Name y p2) fb) (hne : ∀ ρ, ∃ o, fb ρ = optR o) (hc : ka.own = true ∨ kb.pu = true)
    (hbase : attributeBase a "index" Y.env (eval a Y.env) = eval a Y.env) (hline : (p1.endLine == pos.line) = true) :
    SX c W Γ (kA (ka.pu && kb.pu)) Y (.Call (.Attribute a "index" p1) [.Name y p2] [] pos) (fun ρ => (fa ρ).bind fun p => (fb p.2).bind fun q => (optR (meD .index p.1 [q.1])).bind fun d => .ok (d, q.2)) :=
  PE.imp (pe_bm PySem.F.plainAttrs_list PySem.F.slot_list_index PySem.F.type_list_index (mt_indexR (X := c.X) cx.K cx.hu) ha (pa_cons hb pa_nil rfl) hbase (by rfl) hline (by rfl) (by rfl)) fun σ H Q ⟨F, A, ρ, rp, h⟩ =>
    tX.one (g := fun d1 ρ1 => (fb ρ1).bind fun q => (optR (meD .index d1 [q.1])).bind fun d => .ok (d, q.2)) rp h fun x H1 F1 A1 d1 ρ1 B1 o1 h1 => by
      have hl : ∃ l, d1 = .lst l := by
        obtain ⟨o, eo⟩ := hne ρ1
        have h1' := h1
        rw [eo] at h1'
        obtain ⟨q, _, h2⟩ := Run.opt h1'
        obtain ⟨d, e, _⟩ := Run.opt h2
        cases d1 <;> first | (cases e; done) | exact ⟨_, rfl⟩
      obtain ⟨l, rfl⟩ := hl
      refine ⟨?_, tX.one (g := fun d2 ρ2 => (optR (meD .index (.lst l) [d2])).bind fun d => .ok (d, ρ2)) o1.rep h1 fun z H2 F2 A2 d2 ρ2 B2 o2 h2 => ?_⟩
      · obtain ⟨b, ps, rfl, _, sq, _⟩ := (o1.ot.read o1.rep.sub).lst_eq
        rw [cx.K]
        exact .inl ⟨rfl, _, sq⟩
      · obtain ⟨d, e, h3⟩ := Run.opt h2
        replace h3 : Ends' c Γ (kA (ka.pu && kb.pu)) σ ρ H F A Q (d, ρ2) := h3
        have two := o1.two o2 hc
        obtain ⟨h0, e2⟩ : (okD 60 d2 && okL 60 l) = true ∧ ((firstIx d2 l 0).map fun n : Nat => D.int n) = some d := by
          unfold meD at e
          simp only at e
          split at e
          · rename_i h0; exact ⟨h0, e⟩
          · cases e
        rw [Bool.and_eq_true] at h0
        obtain ⟨j, ej, rfl⟩ := Option.map_eq_some_iff.mp e2
        exact ⟨l, d2, z, j, two.o1.read two.mid.rep.sub, rfl, two.o2.read two.mid.rep.sub, h0.1, h0.2, ej, h3 _ _ _ _ _ (two.mid.val (.int _) (fun z => z) (.inr rfl))⟩
end
end Pz
end
section
set_option Elab.async false
set_option linter.all false
/-! x.pop(k): x a list of one's own. -/
namespace Pz
open PySem PySem.Spec PyProof.Rows L2

section
variable {c : Cf} {W : WX} {Γ : List Nat} {Y : Cx} {x : Str} {i : Nat} {p0 : Pos} {e : Expr} {pe : Bool} {fe : Env → R (D × Env)}
theorem mem_eraseIdx {α : Type} {x : α} : ∀ {l : List α} {n : Nat}, x ∈ l.eraseIdx n → x ∈ l
  | [], _, h => by simp at h
  | y :: l, 0, h => List.mem_cons_of_mem _ h
  | y :: l, n + 1, h => by
    rcases List.mem_cons.mp (show x ∈ y :: l.eraseIdx n from h) with h | h
    · exact h ▸ List.mem_cons_self
    · exact List.mem_cons_of_mem _ (mem_eraseIdx h)
theorem map_eraseIdx {α β : Type} (f : α → β) : ∀ (l : List α) (n : Nat), (l.eraseIdx n).map f = (l.map f).eraseIdx n
  | [], _ => rfl
  | y :: l, 0 => rfl
  | y :: l, n + 1 => congrArg (f y :: ·) (map_eraseIdx f l n)
theorem sx_pop1 {apos cpos : Pos} (cx : Ctx c W Y) (hN : Y.N[i]? = some x) (hv : Vis Y.env.scope x) (hd : (x == ("__debug__" : Str)) = false) (hcd : (x == ("__classdict__" : Str)) = false) (hi : Γ.getD i 0 = 1) (he : SX c W Γ ⟨true, pe, 0⟩ Y e fe)
    (hbase : attributeBase (.Name x p0) "pop" Y.env (eval (.Name x p0) Y.env) = eval (.Name x p0) Y.env)
    (hfew : ((backTo cpos (starEach [e] Y.env)).all (fun x => !x.1) && (backToKw cpos (keywordEach [] Y.env)).all (fun x => x.1.isSome) && decide (([e] : List Expr).length + ([] : List Keyword).length + (if ([] : List Keyword).isEmpty then 0 else 1) < 30)) = true)
    (hline : (apos.endLine == cpos.line) = true) (hs : starEach [e] Y.env = (false, eval e Y.env) :: starEach [] Y.env) (hpl : (backTo cpos (starEach [] Y.env)).any (·.1) = false) :
    SX c W Γ ⟨true, false, 0⟩ Y (.Call (.Attribute (.Name x p0) "pop" apos) [e] [] cpos) (fun ρ => (optR ((gt ρ i).bind lstD)).bind fun _ => (fe ρ).bind fun q => (optR ((gt q.2 i).bind lstD)).bind fun o => (optR (popL o q.1)).bind fun r => .ok (r.1, st q.2 i r.2)) :=
  PE.imp (pe_bm PySem.F.plainAttrs_list PySem.F.slot_list_pop PySem.F.type_list_pop mt_popAt (pe_var (i := i) hN hv hd hcd) (pa_cons he pa_nil hs) hbase hfew hline hs hpl) fun σ H Q ⟨F, A, ρ, r, h⟩ => by
    obtain ⟨d0, e0, h2⟩ := Run.opt h
    obtain ⟨d1, e1, e2⟩ := Option.bind_eq_some_iff.mp e0
    cases d1 <;> first | (cases e2; done) | skip
    obtain ⟨ad, ps0, s0, el0, g0, f0, _⟩ := r.list1 hi (gt_ok e1)
    refine ⟨.ref ad, s0, .inl ⟨rfl, _, .of g0⟩, tX.one (g := fun q ρ1 => (optR ((gt ρ1 i).bind lstD)).bind fun o => (optR (popL o q)).bind fun r => .ok (r.1, st ρ1 i r.2)) r h2 fun y H1 F1 A1 q ρ1 B o h3 => ?_⟩
    obtain ⟨xl, e3, h4⟩ := Run.opt h3
    obtain ⟨rr, e4, h5⟩ := Run.opt h4
    obtain ⟨xl0, e5, e6⟩ := Option.bind_eq_some_iff.mp e3
    cases xl0 <;> first | (cases e6; done) | skip
    rename_i l
    cases e6
    cases q <;> first | (cases e4; done) | skip
    rename_i k
    replace e4 : (if l.length ≤ lim then ((ixI l.length k).bind fun n => l[n]?.map fun x => (x, Pz.D.lst (l.eraseIdx n))) else none) = some rr := e4
    split at e4
    case isFalse => cases e4
    rename_i hlim
    obtain ⟨n, hn, e7⟩ := Option.bind_eq_some_iff.mp e4
    obtain ⟨z, hz, rfl⟩ := Option.map_eq_some_iff.mp e7
    replace h5 : Ends' c Γ ⟨true, false, 0⟩ σ ρ H F A Q (z, st ρ1 i (.lst (l.eraseIdx n))) := h5
    obtain ⟨ad', ps, s1, rfl, s3, s4, s5⟩ := o.rep.list1 hi (gt_ok e5)
    rw [s0] at s1
    cases s1
    rw [List.getElem?_map] at hz
    obtain ⟨⟨v, z'⟩, hv', rfl⟩ := Option.map_eq_some_iff.mp hz
    obtain ⟨r6, n6⟩ := s5 (ps.eraseIdx n) fun z hz => s4 z (mem_eraseIdx hz)
    rw [map_eraseIdx, map_eraseIdx] at r6
    rw [map_eraseIdx] at n6
    rw [List.length_map] at hn
    obtain ⟨q1, q2, q3, q4⟩ := ixN_seq (n := ps.length) (i := k) (j := n) hn
    have hk := o.ot.int_eq
    have len : ps.length ≤ 16777216 := by rw [List.length_map] at hlim; exact hlim
    refine ⟨ad, ps.map (·.1), k, n, v, rfl, by rw [hk], s3, by omega, by omega, by rw [List.length_map]; exact q1, by rw [List.getElem?_map, hv']; rfl, ?_⟩
    refine h5 v _ F1 A1 [] ⟨⟨r6, (o.nx0.trans n6).weak (fun _ z => z) (fun a z => .inl (z.elim id fun w => absurd w.2 (by simp))), fun z => by cases z⟩, ⟨rfl, s4 _ (List.mem_of_getElem? hv')⟩, fun _ => List.nodup_nil, fun _ _ z => absurd z (by simp)⟩
theorem eraseIdx_last {α : Type} : ∀ (l : List α), l.eraseIdx (l.length - 1) = l.dropLast
  | [] => rfl
  | [x] => rfl
  | x :: y :: l => by
    have := eraseIdx_last (y :: l)
    show x :: (y :: l).eraseIdx (l.length) = x :: (y :: l).dropLast
    rw [← this]; rfl
theorem sx_pop0 {apos cpos : Pos} (cx : Ctx c W Y) (hN : Y.N[i]? = some x) (hv : Vis Y.env.scope x) (hd : (x == ("__debug__" : Str)) = false) (hcd : (x == ("__classdict__" : Str)) = false) (hi : Γ.getD i 0 = 1)
    (hbase : attributeBase (.Name x p0) "pop" Y.env (eval (.Name x p0) Y.env) = eval (.Name x p0) Y.env) (hline : (apos.endLine == cpos.line) = true) :
    SX c W Γ ⟨true, false, 0⟩ Y (.Call (.Attribute (.Name x p0) "pop" apos) [] [] cpos) (fun ρ => (optR ((gt ρ i).bind lstD)).bind fun _ => ((.ok (.int (-1), ρ)) : R (D × Env)).bind fun q => (optR ((gt q.2 i).bind lstD)).bind fun o => (optR (popL o q.1)).bind fun r => .ok (r.1, st q.2 i r.2)) :=
  PE.imp (pe_bm0 PySem.F.plainAttrs_list PySem.F.slot_list_pop PySem.F.type_list_pop mt_pop (pe_var (i := i) hN hv hd hcd) hbase hline) fun σ H Q ⟨F, A, ρ, r, h⟩ => by
    obtain ⟨d0, e0, h2⟩ := Run.opt h
    replace h2 : Run c W σ H F (Own A) ((optR ((gt ρ i).bind lstD)).bind fun o => (optR (popL o (.int (-1)))).bind fun r => .ok (r.1, st ρ i r.2)) fun p => ∀ v H' F' A' B, Out c Γ ⟨true, false, 0⟩ σ ρ H F A p.2 H' F' A' v p.1 B → Q v H' := h2
    obtain ⟨xl, e3, h4⟩ := Run.opt h2
    obtain ⟨rr, e4, h5⟩ := Run.opt h4
    obtain ⟨xl0, e5, e6⟩ := Option.bind_eq_some_iff.mp e3
    cases xl0 <;> first | (cases e6; done) | skip
    rename_i l
    cases e6
    replace e4 : (if l.length ≤ lim then ((ixI l.length (-1)).bind fun n => l[n]?.map fun x => (x, Pz.D.lst (l.eraseIdx n))) else none) = some rr := e4
    split at e4
    case isFalse => cases e4
    obtain ⟨n, hn, e7⟩ := Option.bind_eq_some_iff.mp e4
    obtain ⟨z, hz, rfl⟩ := Option.map_eq_some_iff.mp e7
    replace h5 : Ends' c Γ ⟨true, false, 0⟩ σ ρ H F A Q (z, st ρ i (.lst (l.eraseIdx n))) := h5
    obtain ⟨ad, ps, s1, rfl, s3, s4, s5⟩ := r.list1 hi (gt_ok e5)
    have hn2 : n = ps.length - 1 := by
      rw [List.length_map] at hn
      unfold ixI at hn
      rw [if_neg (by omega)] at hn
      split at hn
      · cases hn; omega
      · cases hn
    subst hn2
    rw [List.getElem?_map] at hz
    obtain ⟨⟨v, z'⟩, hv', rfl⟩ := Option.map_eq_some_iff.mp hz
    obtain ⟨r6, n6⟩ := s5 (ps.eraseIdx (ps.length - 1)) fun z hz => s4 z (mem_eraseIdx hz)
    rw [map_eraseIdx, map_eraseIdx] at r6
    rw [map_eraseIdx] at n6
    refine ⟨.ref ad, s1, .inl ⟨rfl, _, .of s3⟩, ad, ps.map (·.1), v, rfl, rfl, s3, by rw [List.length_map, List.getElem?_map, hv']; rfl, ?_⟩
    have ed : (ps.map (·.1)).dropLast = (ps.map (·.1)).eraseIdx (ps.length - 1) := by
      rw [← eraseIdx_last, List.length_map]
    rw [ed]
    refine h5 v _ F A [] ⟨⟨r6, n6.weak (fun _ z => z) (fun a z => .inl (z.elim id fun w => absurd w.2 (by simp))), fun z => by cases z⟩, ⟨rfl, s4 _ (List.mem_of_getElem? hv')⟩, fun _ => List.nodup_nil, fun _ _ z => absurd z (by simp)⟩
end
end Pz
end
section
set_option Elab.async false
set_option linter.all false
/-! a < b < c, as a value. -/
namespace Pz
open PySem PySem.Spec PyProof.Rows L2
section
variable {c : Cf} {W : WX} {Γ : List Nat} {Y : Cx} {a b e : Expr} {pos : Pos} {ka kb kc : Kd} {fa fb fc : Env → R (D × Env)}
theorem sx_chain {op op' : CmpOp} {g g' : D → D → Option Bool} (hr : CmpR c Y op ka.lv kb.lv g) (hr' : CmpR c Y op' kb.lv kc.lv g') (hm : lastMarks [op, op'] [b, e] = false)
    (ha : SX c W Γ ka Y a fa) (hb : SX c W Γ kb Y b fb) (hc : SX c W Γ kc Y e fc) (h1 : ka.own = true ∨ kb.pu = true) (h2 : kb.own = true) :
    SX c W Γ (kA ((ka.pu && kb.pu) && kc.pu)) Y (.Compare a [op, op'] [b, e] pos) (fun ρ => (fa ρ).bind fun p => (fb p.2).bind fun q => (optR (g p.1 q.1)).bind fun d =>
      if d then (fc q.2).bind fun r => (optR (g' q.1 r.1)).bind fun d' => .ok (D.bl d', r.2) else .ok (D.bl false, q.2)) := by
  obtain ⟨r, ho, hr⟩ := hr
  obtain ⟨r', ho', hr'⟩ := hr'
  exact PE.imp (pe_chain ho ho' ha hb hc hm) fun σ H Q ⟨F, A, ρ, rp, h⟩ =>
    tX.one (g := fun d1 ρ1 => (fb ρ1).bind fun q => (optR (g d1 q.1)).bind fun d => if d then (fc q.2).bind fun r => (optR (g' q.1 r.1)).bind fun d' => .ok (D.bl d', r.2) else .ok (D.bl false, q.2)) rp h fun x H1 F1 A1 d1 ρ1 B1 o1 k1 =>
    tX.one (g := fun d2 ρ2 => (optR (g d1 d2)).bind fun d => if d then (fc ρ2).bind fun r => (optR (g' d2 r.1)).bind fun d' => .ok (D.bl d', r.2) else .ok (D.bl false, ρ2)) o1.rep k1 fun y H2 F2 A2 d2 ρ2 B2 o2 k2 => by
      obtain ⟨d, e1, k3⟩ := Run.opt k2
      have t := o1.two o2 h1
      refine hr H2 F2 x y d1 d2 d _ _ t.mid.rep.sub t.o1 t.o2 e1 _ ⟨d, rfl, ?_⟩
      cases d with
      | false =>
        replace k3 : Ends' c Γ (kA ((ka.pu && kb.pu) && kc.pu)) σ ρ H F A Q (.bl false, ρ2) := k3
        exact k3 _ _ _ _ _ (t.mid.val (.bl _) (fun z => (by simpa using z : (ka.pu = true ∧ kb.pu = true) ∧ kc.pu = true).1 |> fun w => by rw [w.1, w.2]; rfl) (.inr rfl))
      | true =>
        replace k3 : Run c W σ H2 F2 (Own A2) ((fc ρ2).bind fun r => (optR (g' d2 r.1)).bind fun d' => .ok (D.bl d', r.2)) (Ends' c Γ (kA ((ka.pu && kb.pu) && kc.pu)) σ ρ H F A Q) := k3
        exact tX.one (g := fun d3 ρ3 => (optR (g' d2 d3)).bind fun d' => .ok (D.bl d', ρ3)) o2.rep k3 fun w H3 F3 A3 d3 ρ3 B3 o3 k4 => by
          obtain ⟨d', e2, k5⟩ := Run.opt k4
          replace k5 : Ends' c Γ (kA ((ka.pu && kb.pu) && kc.pu)) σ ρ H F A Q (.bl d', ρ3) := k5
          exact hr' H3 F3 y w d2 d3 d' _ _ o3.rep.sub (o2.later o3.mid (.inl h2)) o3.ot e2 _ (k5 _ _ _ _ _ ((t.mid.trans o3.mid).val (.bl _) (fun z => z) (.inr rfl)))
theorem sc_chain {op op' : CmpOp} {g g' : D → D → Option Bool} (hr : CmpR c Y op ka.lv kb.lv g) (hr' : CmpR c Y op' kb.lv kc.lv g') (hm : lastMarks [op, op'] [b, e] = false)
    (ha : SX c W Γ ka Y a fa) (hb : SX c W Γ kb Y b fb) (hc : SX c W Γ kc Y e fc) (h1 : ka.own = true ∨ kb.pu = true) (h2 : kb.own = true) :
    SC c W Γ ((ka.pu && kb.pu) && kc.pu) Y (.Compare a [op, op'] [b, e] pos) (truF fun ρ => (fa ρ).bind fun p => (fb p.2).bind fun q => (optR (g p.1 q.1)).bind fun d =>
      if d then (fc q.2).bind fun r => (optR (g' q.1 r.1)).bind fun d' => .ok (D.bl d', r.2) else .ok (D.bl false, q.2)) := by
  obtain ⟨r, ho, hr⟩ := hr
  obtain ⟨r', ho', hr'⟩ := hr'
  refine PT.imp (pt_chain ho ho' ha hb hc hm) fun σ H Q ⟨F, A, ρ, rp, h⟩ => ?_
  replace h : Run c W σ H F (Own A) ((fa ρ).bind fun p => (fb p.2).bind fun q => (optR (g p.1 q.1)).bind fun d => if d then (fc q.2).bind fun r => (optR (g' q.1 r.1)).bind fun d' => .ok (d', r.2) else .ok (false, q.2))
      fun p => ∀ H' F' A', Mid c Γ σ ρ H F A p.2 H' F' A' (fun _ => False) ((ka.pu && kb.pu) && kc.pu) → Q p.1 H' := by
    have e : ∀ ρ, truF (fun ρ => (fa ρ).bind fun p => (fb p.2).bind fun q => (optR (g p.1 q.1)).bind fun d =>
      if d then (fc q.2).bind fun r => (optR (g' q.1 r.1)).bind fun d' => .ok (D.bl d', r.2) else .ok (D.bl false, q.2)) ρ = ((fa ρ).bind fun p => (fb p.2).bind fun q => (optR (g p.1 q.1)).bind fun d => if d then (fc q.2).bind fun r => (optR (g' q.1 r.1)).bind fun d' => .ok (d', r.2) else .ok (false, q.2)) := by
      intro ρ
      show ((fa ρ).bind _).bind _ = (fa ρ).bind _
      cases fa ρ with
      | error e => rfl
      | ok p =>
        show ((fb p.2).bind _).bind _ = (fb p.2).bind _
        cases fb p.2 with
        | error e => rfl
        | ok q =>
          show ((optR (g p.1 q.1)).bind _).bind _ = (optR (g p.1 q.1)).bind _
          cases g p.1 q.1 with
          | none => rfl
          | some d =>
            cases d with
            | false => rfl
            | true =>
              show ((fc q.2).bind _).bind _ = (fc q.2).bind _
              cases fc q.2 with
              | error e => rfl
              | ok w =>
                show ((optR (g' q.1 w.1)).bind _).bind _ = (optR (g' q.1 w.1)).bind _
                cases g' q.1 w.1 <;> rfl
    rw [← e]; exact h
  exact
    tX.one (g := fun d1 ρ1 => (fb ρ1).bind fun q => (optR (g d1 q.1)).bind fun d => if d then (fc q.2).bind fun r => (optR (g' q.1 r.1)).bind fun d' => .ok (d', r.2) else .ok (false, q.2)) rp h fun x H1 F1 A1 d1 ρ1 B1 o1 k1 =>
    tX.one (g := fun d2 ρ2 => (optR (g d1 d2)).bind fun d => if d then (fc ρ2).bind fun r => (optR (g' d2 r.1)).bind fun d' => .ok (d', r.2) else .ok (false, ρ2)) o1.rep k1 fun y H2 F2 A2 d2 ρ2 B2 o2 k2 => by
      obtain ⟨d, e1, k3⟩ := Run.opt k2
      have t := o1.two o2 h1
      refine hr H2 F2 x y d1 d2 d _ _ t.mid.rep.sub t.o1 t.o2 e1 _ ⟨d, rfl, ?_⟩
      cases d with
      | false =>
        replace k3 : ∀ H' F' A', Mid c Γ σ ρ H F A ρ2 H' F' A' (fun _ => False) ((ka.pu && kb.pu) && kc.pu) → Q false H' := k3
        exact ⟨false, rfl, k3 _ _ _ (t.mid.weak (fun _ z => z.elim) fun z => (by simpa using z : (ka.pu = true ∧ kb.pu = true) ∧ kc.pu = true).1 |> fun w => by rw [w.1, w.2]; rfl)⟩
      | true =>
        replace k3 : Run c W σ H2 F2 (Own A2) ((fc ρ2).bind fun r => (optR (g' d2 r.1)).bind fun d' => .ok (d', r.2)) (fun p => ∀ H' F' A', Mid c Γ σ ρ H F A p.2 H' F' A' (fun _ => False) ((ka.pu && kb.pu) && kc.pu) → Q p.1 H') := k3
        exact tX.one (g := fun d3 ρ3 => (optR (g' d2 d3)).bind fun d' => .ok (d', ρ3)) o2.rep k3 fun w H3 F3 A3 d3 ρ3 B3 o3 k4 => by
          obtain ⟨d', e2, k5⟩ := Run.opt k4
          replace k5 : ∀ H' F' A', Mid c Γ σ ρ H F A ρ3 H' F' A' (fun _ => False) ((ka.pu && kb.pu) && kc.pu) → Q d' H' := k5
          exact hr' H3 F3 y w d2 d3 d' _ _ o3.rep.sub (o2.later o3.mid (.inl h2)) o3.ot e2 _ ⟨d', rfl, k5 _ _ _ ((t.mid.trans o3.mid).weak (fun _ z => z.elim) fun z => z)⟩
end
end Pz
end
section
set_option Elab.async false
set_option linter.all false
set_option maxRecDepth 100000
set_option maxHeartbeats 1000000
/-! An own error: made by its base's __init__, that says super().__init__(value); self.value = value. -/
namespace Pz
open PySem PySem.W PySem.Calls PyProof.Rows PySem.HandSPX

/-- the base's __init__ -/
def errBody (l : Nat) (p0 p1 p3 p5 q1 q2 q3 q4 : Pos) : List Stmt :=
  [.Expr (.Call (.Attribute (.Call (.Name "super" p0) [] [] p1) "__init__" ⟨l, 8, l, 24⟩) [.Name "value" p3] [] ⟨l, 8, l, 31⟩) p5,
   .Assign [.Attribute (.Name "self" q1) "value" q2] (.Name "value" q3) q4]
def errScope : Scope := { kind := .function, names := [("self", .local), ("value", .local), ("__class__", .free), ("super", .globalImplicit)], isGenerator := false, isCoroutine := false, more := [] }
def errArgs (a1 a2 : Pos) : Arguments := { posonlyargs := [], args := [{ arg := "self", annotation := none, pos := a1 }, { arg := "value", annotation := none, pos := a2 }], vararg := none, kwonlyargs := [], kw_defaults := [], kwarg := none, defaults := [] }

section
variable {prog : Program} {w : World} {A : Around} {E : Value → Shared → Prop} {h : Heap} {g : Array GenState} {d : Drawn} {t : Nat} {os : OsState}
variable {nm q : Str} {C N : Addr} {bs bm : List Value} {hdct : Bool} {sn : List Str} {sub : List Value} {ab : Bool} {col : Option Bool} {dd : Option Addr} {k0 k1 k2 k3 k5 : Option Value}
theorem call_mw {u e t0 : Addr} {rest : List Value} {Q : Value → Shared → Prop}
    (hC : h.get? C = some (excClassObj nm q C N bs bm hdct sn sub ab col dd k0 k1 k2 k3 k5 "ValueError.__new__")) (he : h.get? e = some (excO C t0)) (hu : h.get? u = some (kxs_mw "ValueError.__init__" e)) (hrest : rest.length ≤ sizeLine)
    (hq : ∀ h' t1, (∀ b o, b ≠ e → h.get? b = some o → h'.get? b = some o) → h'.get? e = some (excO C t1) → Q .none ⟨h', g, d, t, os⟩) :
    wpAny (model prog w) A (call (.ref u) rest) Q E ⟨h, g, d, t, os⟩ := by
  refine wpAny_call (codeAny_of_tree ?_)
  show wpAny _ A.in1 (callAny (.ref u) ⟨rest, []⟩) _ _ _
  simp only [callAny]
  refine wpAny_bind (wpAny_load hu ?_)
  simp only [kxs_mw, show (Value.type "method-wrapper" == Value.type "method" || Value.type "method-wrapper" == Value.type "builtin_function_or_method" || Value.type "method-wrapper" == Value.type "method-wrapper") = true by decide, if_true]
  refine W.KFB.if_so (by decide) ?_
  refine wpAny_bind (check_bound_init F.excBase_ValueError.toExcCallFacts hC he rfl ?_)
  refine wpAny_bind (wpAny_pure (wpAny_pure ?_))
  refine ⟨plainId_quiet F.excBase_ValueError.init.plain _, codeAny_builtin F.excBase_ValueError.initEntry ?_⟩
  rw [Around.under_plainId F.excBase_ValueError.init.plain _]
  wp_walk
  refine hq _ h.objs.size (fun b o hb ho => ?_) ?_
  · rw [Heap.get?_update_other _ _ (Ne.symm hb)]
    exact Heap.get?_push_of_some _ ho
  · rw [Heap.get?_update_self _ (Heap.get?_push_of_some _ he) rfl]
    rfl
end

/-- what the written part holds of the base of own errors: its class D, its __init__ f -/
structure ErrB (K : Frag) (prog : Program) (mg : Str → Option Value) (D f : Addr) : Prop where
  fn : ∃ oc od osl name qual kV doc pm an ct cda cc a1 a2 l p0 p1 p3 p5 q1 q2 q3 q4, (l = 5 ∨ l = 8) ∧ K.lookup f = some ⟨oc, od, .func (ksFn name qual (errArgs a1 a2) (errBody l p0 p1 p3 p5 q1 q2 q3 q4) errScope .none kV doc pm an (.ref cda) ct cc), osl⟩ ∧ codeIn K (.ref cda) qual = true ∧
    (∃ ccl cdd vs ccs file tf, K.lookup cda = some ⟨ccl, cdd, .fields vs, ccs⟩ ∧ vs[2]? = some (.str file tf) ∧ ((prog.main.file : Str) == file) = true) ∧
    ∃ cl cld csl, K.lookup cc = some ⟨cl, cld, .cell (some (.ref D)), csl⟩
  cls : ∃ cdD, clsIn K D = some cdD
  opq : nsIn K cStatics "thirdparty.any" = some none
  top : (prog.main.scope.names.lookup ("super" : Str)).isSome = false
  sup : mg "super" = none
/-- .. of an own error's class C -/
structure ErrC (K : Frag) (D f C : Addr) : Prop where
  oex : L2.OexC K C
  iC : findIn K (.ref C) "__init__" = some (some (.ref f))
  tI : typeIn K (.ref f) = some (.type "function")
  sup : ks_superIn K C D "__init__" = some (some (.builtin "ValueError.__init__"))
  mro : mroIn K C (.ref D) = some true
  ve : subIn K (.ref C) (.type "ValueError") = some true
  nov : findIn K (.ref C) "value" = some none

section
variable {prog : Program} {w : World} {A : Around} {K : Frag} {mg : Str → Option Value} {D f C : Addr} {R : Result → Shared → Prop}
theorem bind_init {name qual : Str} {a1 a2 : Pos} {body : List Stmt} {kV doc pm : Value} {an : Option Addr} {cdv ct : Value} {cc : Addr} (u v : Value) : bindArgs (ksFn name qual (errArgs a1 a2) body errScope .none kV doc pm an cdv ct cc) ⟨[u, v], []⟩ = pure [(("self" : Str), u), (("value" : Str), v)] := by kernel_rfl
theorem ev_init {l : Nat} (hl : l = 5 ∨ l = 8) (env : PySem.Env) (p0 p1 p3 : Pos) : ∃ pl : Sem Bool, eval (.Call (.Attribute (.Call (.Name "super" p0) [] [] p1) "__init__" ⟨l, 8, l, 24⟩) [.Name "value" p3] [] ⟨l, 8, l, 31⟩) env = (do
      let ov ← attributeBase (.Call (.Name "super" p0) [] [] p1) "__init__" env (eval (.Call (.Name "super" p0) [] [] p1) env)
      standAt (⟨l, 8, l, 24⟩ : Pos).atName
      let (f, first) ← holding [ov] (getMethod ov "__init__" pl)
      callWith ⟨l, 8, l, 31⟩ f first (backTo ⟨l, 8, l, 31⟩ (starEach [.Name "value" p3] env)) []) := by
  rcases hl with rfl | rfl <;> exact ⟨_, rfl⟩
/-- C's __init__(e, v) -/
theorem init_low {s : Shared} {e t0 : Addr} {v : Value} (B : ErrB K prog mg D f) (T : ErrC K D f C) (X : K.In s.heap) (hg : s.heap.Ns mainGlobals mg) (hb : ∃ mb, s.heap.Ns builtinsNs mb ∧ ∀ x : Str, x ≠ "__name__" → mb x = bootBuiltins x) (hn : s.heap.NoLimit)
    (he0 : K.lookup e = none) (he : s.heap.get? e = some (excO C t0)) (hroom : A.depth < recursionLimit)
    (hq : ∀ h' tk' t1 dx, (∀ b o, b ≠ e → s.heap.get? b = some o → h'.get? b = some o) → s.heap.objs.size ≤ dx → dx ≠ e → h'.get? e = some { cls := .ref C, dict := some dx, data := .fields #[.ref t1, .none, .none, .none, .bool false, .none] } →
      h'.Ns1 dx (fun y => if y = ("value" : Str) then some v else none) → R (.ok (.ret .none)) { s with heap := h', toks := tk' }) :
    codeAny (model prog w) A (.call (.ref f) ⟨[.ref e, v], []⟩) R s := by
  obtain ⟨oc, od, osl, name, qual, kV, doc, pm, an, ct, cda, cc, a1, a2, l, p0, p1, p3, p5, q1, q2, q3, q4, hl, hf, hcd, ⟨ccl, cdd, vs, ccs, file, tf, hcode, hvs, hfile⟩, cl, cld, csl, hcell⟩ := B.fn
  obtain ⟨cdD, hD⟩ := B.cls
  obtain ⟨nm, q, N, bs, bm, sn, sub, ab, col, dd, k0, k1, k2, k3, k5, hC, hbm⟩ := T.oex.cls
  have hcl : clsIn K C = some { name := nm, bases := bs, mro := .ref C :: bm, ns := N, qualname := q, hasDict := true, slotNames := sn, subclasses := sub, abstract := ab, collection := col, hasDel := false } := by unfold clsIn; rw [hC] <;> rfl
  refine ks_codeAny_call_defAt (fd := ksFn name qual (errArgs a1 a2) (errBody l p0 p1 p3 p5 q1 q2 q3 q4) errScope .none kV doc pm an (.ref cda) ct cc) (body := errBody l p0 p1 p3 p5 q1 q2 q3 q4) (binds := [("self", .ref e), ("value", v)]) hroom (X _ _ hf) rfl hn (codeRec_of X hcd) rfl
    (.of_eq (bind_init _ _)) (show ∀ x ∈ errScope.names, x.2 ≠ .cell by decide) (by intro y hy; rcases List.mem_cons.mp hy with rfl | hy; rfl; rcases List.mem_cons.mp hy with rfl | hy; rfl; cases hy) (fun h₁ hns hk₁ => ?_) rfl rfl rfl
  obtain ⟨oD, hD1, hD2⟩ : ∃ oD, s.heap.get? D = some oD ∧ oD.data = .cls cdD := by
    unfold clsIn at hD
    split at hD
    · rename_i c d cd' sl ho
      cases hD
      exact ⟨_, X _ _ ho, rfl⟩
    · cases hD
  generalize hL : s.heap.objs.size = L at hns
  have hlt : ∀ {b : Addr} {o : Obj}, s.heap.get? b = some o → b ≠ L := fun {b o} q => by rw [← hL]; exact Nat.ne_of_lt (Heap.lt_size q)
  have heL : e ≠ L := hlt he
  obtain ⟨hp, gn, dr, tk, os⟩ := s
  show _root_.PySem.wpAt (model prog w) (A.deeper (ksEnv qual errScope L f (.ref cda) cc)) (.func (errBody l p0 p1 p3 p5 q1 q2 q3 q4) (ksEnv qual errScope L f (.ref cda) cc)) (execs (errBody l p0 p1 p3 p5 q1 q2 q3 q4) (ksEnv qual errScope L f (.ref cda) cc)) _ _ _
  generalize hm0 : (fun x : Str => ([(("self" : Str), Value.ref e), (("value" : Str), v)] : List (Str × Value)).reverse.lookup x) = m0 at hns
  have mself : m0 "self" = some (.ref e) := by rw [← hm0]; rfl
  have mval : m0 "value" = some v := by rw [← hm0]; rfl
  -- super()
  obtain ⟨pl, hev⟩ := ev_init hl (ksEnv qual errScope L f (.ref cda) cc) p0 p1 p3
  refine ks_wpAt_execs_cons (ks_wpAt_Expr_any (ks_wpAt_MethodCall (pl := pl) ?_ hev) rfl rfl)
  refine ks_wpAt_super_base (env := ksEnv qual errScope L f (.ref cda) cc) (ar := { arg := "self", annotation := none, pos := a1 }) rfl rfl rfl rfl (hk₁ _ _ (X _ _ hf)) rfl rfl rfl (hk₁ _ _ (X _ _ hcode)) rfl hvs hfile B.top ?_
  obtain ⟨mb, hb1, hb2⟩ := hb
  refine ks_loadName_global rfl rfl (loadGlobal_builtin (env := ksEnv qual errScope L f (.ref cda) cc) (hg.keeps hk₁) B.sup (hb1.keeps hk₁) ((hb2 _ (by decide +kernel)).trans (by kernel_rfl)) ⟨rfl, ?_⟩)
  refine wpAny_loadName_free rfl rfl rfl ⟨_, hk₁ _ _ (X _ _ hcell), rfl⟩ ?_
  refine wpAny_loadName_local rfl rfl hns mself ?_
  refine ks_wpAny_isType_cls (hk₁ _ _ hD1) hD2 ⟨rfl, ?_⟩
  refine ks_wpAny_call_super (hk₁ _ _ hD1) hD2 (hk₁ _ _ he) rfl (fun c z => by cases z) (looks_mroIn (X.keeps hk₁) T.mro) (fun h2 e2 k2 => ?_)
  have k02 : ∀ b o, hp.get? b = some o → h2.get? b = some o := fun b o z => k2 b o (hk₁ b o z)
  have X2 := X.keeps k02
  -- .__init__
  have hsup := T.sup
  unfold ks_superIn at hsup
  rw [hcl] at hsup
  have I2 : InstAt h2 e (excO C t0) C none := ⟨k02 _ _ he, rfl, rfl, trivial⟩
  refine kxs_getMethod kxs_ValueError e2 (looks_opaque X2 B.opq) (l₀ := .ref C :: bm) ?_ rfl X2 hsup (I2.type.andThen (looks_subIn X2 T.ve)) (ks_ne X2 I2 hcl) rfl ?_
  · exact fun A Q E s k q => wpAny_bind ((looks_clsIn X2 hcl) A _ E s k (wpAny_pure q))
  have hns2 : h2.Ns L m0 := hns.keeps k2
  have kp : ∀ b o, h2.get? b = some o → (h2.push (kxs_mw "ValueError.__init__" e)).get? b = some o := fun b o z => Heap.get?_push_of_some _ z
  show wpAny _ _ (callWith ⟨l, 8, l, 31⟩ (.ref h2.objs.size) [] (backTo ⟨l, 8, l, 31⟩ (starEach [.Name "value" p3] (ksEnv qual errScope L f (.ref cda) cc))) []) _ _ _
  refine kxs_callWith (i := "ValueError.__init__") (x := e) rfl (evalArgs_plain (spliced_cons (wpAny_Name (wpAny_loadName_local rfl rfl (hns2.keeps kp) mval (spliced_nil ⟨?_, ?_⟩)) rfl)))
  · show (h2.push (kxs_mw "ValueError.__init__" e)).get? h2.objs.size = _
    exact Heap.get?_push_at rfl rfl
  refine call_mw (t0 := t0) (kp _ _ (k02 _ _ (X _ _ hC))) (kp _ _ (k02 _ _ he)) (Heap.get?_push_at rfl rfl) (by rw [sizeLine_eq]; simp) fun h3 t1 k3 he3 => ?_
  have k23 : ∀ b o, b ≠ e → h2.get? b = some o → h3.get? b = some o := fun b o n z => k3 b o n (kp b o z)
  have hns3 : h3.Ns L m0 := by
    obtain ⟨oL, es, ep, z, r⟩ := hns2
    exact ⟨oL, es, ep, k23 L oL (Ne.symm heL) z, r⟩
  have X3 : K.In h3 := fun b o z => k23 b o (fun y => by
    subst y
    have z' : K.lookup b = some o := z
    rw [he0] at z'; cases z') (X2 b o z)
  refine ks_wpAt_execs_cons (ks_wpAt_Assign_Attr (wpAt_of_wpAny (wpAny_Name (wpAny_loadName_local rfl rfl hns3 mval (wpAny_Name (wpAny_loadName_local rfl rfl hns3 mself ?_) rfl)) rfl)) rfl)
  refine set_plain X3 (ox := excO C t1) (od := none) ⟨he3, rfl, rfl, trivial⟩ T.oex.sa (exc_osa X3 he3 hcl (show refsVE (.ref C :: bm) = true from hbm) rfl T.nov fun h4 tk4 dx k4 dn dne hx hn4 => ?_)
  show _root_.PySem.wpAt _ _ _ (execs [] _) _ _ _
  refine wpAt_of_wpAny (wpAny_execs_nil ?_)
  exact hq h4 tk4 t1 dx (fun b o n z => k4 b o n (k23 b o n (k02 b o z))) (by
    obtain ⟨oL, es, ep, z, r⟩ := hns3
    have h1 : L < h3.objs.size := Heap.lt_size z
    have h2 : h3.objs.size ≤ dx := dn
    have h3 : hp.objs.size = L := hL
    show hp.objs.size ≤ dx
    omega) dne hx hn4
end
end Pz

namespace Pz
open PySem PySem.Spec PyProof.Rows L2
/-- C(e): an own error of one field -/
def tMkE (C : Addr) (te : TE) : Sl → Hp → XK → Prop := fun σ H Q => te σ H fun x H1 => ∃ v, [x] = [v] ∧ ∀ d, H1 d = none → Q (.ref C) (some d) (upd H1 d (.xd [("value", v)]))
theorem pmk_err {X : Cx} {x : Str} {C D f : Addr} {e : Expr} {te : TE} {p pos : Pos} (B : ErrB X.K X.prog X.mg D f) (T : ErrC X.K D f C) (hg : Gl X x) (hm : X.mg x = some (.ref C)) (hr : X.A.depth + 1 < recursionLimit) (ha : PE X e te)
    (hdb : (x == ("__debug__" : Str)) = false) (he : starEach [e] X.env = (false, eval e X.env) :: starEach [] X.env) (hpl : (backTo pos (starEach [] X.env)).any (·.1) = false) :
    PMk X (.Call (.Name x p) [e] [] pos) (tMkE C te) := by
  intro pins s σ H Q I h
  obtain ⟨nm, q, N, bs, bm, sn, sub, ab, col, dd, k0, k1, k2, k3, k5, hC, hbm⟩ := T.oex.cls
  refine wpAny_Call_Name_kw (ld_glob I hg hm ?_ hdb)
  have pa : PA X [e] (tCons te tNil) := pa_cons ha pa_nil he
  refine PySem.W.callWith_K (h₀ := X.base) I.ok.mod.kin T.oex.kC (thn (pa.run pos pins s σ H _ I (show tCons te tNil σ H (fun vs H1 => ∃ v, vs = [v] ∧ ∀ d, H1 d = none → Q (.ref C) (some d) (upd H1 d (.xd [("value", v)]))) from ?_)) fun us s1 ⟨vs, H1, I1, r1, v, ev, q1⟩ => ⟨I1.kIn, ?_⟩) he hpl
  · exact h
  show wpAny _ _ (call (.ref C) us) _ _ _
  subst ev
  cases r1 with
  | @cons _ u _ ur ru rr =>
  cases rr
  obtain ⟨hp, g, dr, tk, os⟩ := s1
  have hsz : hp.objs.size ≤ hp.objs.size + 1 := Nat.le_succ _
  have hn : H1 (hp.objs.size + 1) = none := I1.hok.fresh hsz
  generalize hh2 : (hp.push (PySem.W.kdv_tup [u])).push (PySem.HandSPX.excO C hp.objs.size) = hp2
  have kk : ∀ b o, hp.get? b = some o → hp2.get? b = some o := fun b o e => by rw [← hh2]; exact Heap.get?_push_of_some _ (Heap.get?_push_of_some _ e)
  have hget : hp2.get? (hp.objs.size + 1) = some (PySem.HandSPX.excO C hp.objs.size) := by rw [← hh2]; heap_get
  have I2 : Inv X pins σ (upd H1 (hp.objs.size + 1) (exo (hp.objs.size + 1) C none)) ⟨hp2, g, dr, tk, os⟩ :=
    I1.laid (t' := tk) (a := hp.objs.size + 1) (o := exo (hp.objs.size + 1) C none) (h' := hp2) kk hsz (exo_ok hget)
  have he0 : X.K.lookup (hp.objs.size + 1) = none := by
    cases z : X.K.lookup (hp.objs.size + 1) with
    | none => rfl
    | some o =>
      have : hp.objs.size + 1 < hp.objs.size := Heap.lt_size (I1.kIn _ _ z)
      exact absurd this (by omega)
  refine wpAny_call (PySem.HandSPX.call_own F.excBase_ValueError (fun Y => PySem.HandSPX.refsVE_contains Y bm hbm) (I1.kIn _ _ hC) (PySem.W.looks_findIn I1.kIn T.iC) (fun self => PySem.W.bind_fn I1.kIn self T.tI) (by rw [sizeLine_eq]; simp) ?_)
  rw [hh2]
  obtain ⟨mb, hb1, hb2⟩ := I2.mod.blt
  refine init_low (s := ⟨hp2, g, dr, tk, os⟩) B T I2.kIn (I2.mod.glob.keeps I2.bk) ⟨mb, hb1.keeps I2.bk, hb2⟩ I2.nolimit he0 hget (by rw [make_depth]; exact hr) fun h' tk' t1 dx k dn dne hx hnd => ?_
  generalize ha0 : hp.objs.size + 1 = a at *
  have e1 : upd H1 a (exo a C none) a = some (exo a C none) := upd_same
  have dn' : hp2.objs.size ≤ dx := dn
  have hnd2 : upd H1 a (exo a C none) dx = none := I2.hok.fresh dn'
  have hnd1 : H1 dx = none := by rw [upd_ne dne] at hnd2; exact hnd2
  have nd : ∀ {b : Addr} {o : Obj}, hp2.get? b = some o → b ≠ dx := fun {b o} q => Nat.ne_of_lt (Nat.lt_of_lt_of_le (Heap.lt_size q) dn')
  have na : ∀ {b : Addr}, upd H1 a (exo a C none) b = none → b ≠ a := fun {b} n z => by
    rw [z, e1] at n
    cases n
  generalize hH : upd H1 a (exo a C none) = Hs at *
  have Un1 : Un (frs X.stack) [] Hs (upd (upd Hs dx (exd dx [("value", v)])) a (exo a C (some dx))) hp2 h' := {
    keep := fun b o q n _ _ => k b o (na n) q
    slot := fun b o q n _ _ => ⟨o.slots, k b o (na n) q⟩
    free := fun b o q n _ => by rw [upd_ne (na n), upd_ne (nd q)]; exact n
    there := fun b o q _ => by
      by_cases hb : b = a
      · exact ⟨_, by rw [hb]; exact hx⟩
      · exact ⟨o, k b o hb q⟩
    tups := fun b xs q => by rw [upd_ne (at_ne e1 q exo_tup), upd_ne (ne_of_none q hnd2)]; exact q
    frzs := fun b o v q => by rw [upd_ne (at_ne e1 q exo_frz), upd_ne (ne_of_none q hnd2)]; exact q
    tbls := fun b ps q => ⟨#[], by rw [upd_ne (at_ne e1 q exo_tbl), upd_ne (ne_of_none q hnd2), q]; simp⟩ }
  have hok : HOk X.prog X.w (upd (upd Hs dx (exd dx [("value", v)])) a (exo a C (some dx))) h' := fun b o q => by
    by_cases hb : b = a
    · subst hb
      rw [upd_same] at q
      cases q
      exact exo_ok hx
    · rw [upd_ne hb] at q
      by_cases hd : b = dx
      · subst hd
        rw [upd_same] at q
        cases q
        exact exd_ok hnd (relO_put (fs := []) ru fun g => True.intro)
      · rw [upd_ne hd] at q
        exact (I2.hok b o q).stay (fun c v hc z => k c v (by
            rcases hc with hc | hc
            · rw [hc]
              exact hb
            · exact at_ne e1 hc exo_own) z)
          (fun c hc => by rw [upd_ne (at_ne e1 hc exo_own), upd_ne (ne_of_none hc hnd2)]; exact hc) (fun c xs hc => by rw [upd_ne (at_ne e1 hc exo_tup), upd_ne (ne_of_none hc hnd2)]; exact hc)
  refine ⟨rfl, ?_⟩
  have q2 := q1 dx hnd1
  refine mk_end (raises_own T.oex.exC T.oex.tyC) I1 hsz kk (by rw [hH]; exact Un1) hok rfl I1.bare upd_same (by rw [upd_ne dne]; exact upd_same) hnd1 ?_
  have eq : upd (del (upd (upd Hs dx (exd dx [("value", v)])) a (exo a C (some dx))) a) dx (.xd [("value", v)]) = upd H1 dx (.xd [("value", v)]) := by
    funext b
    by_cases hd : b = dx
    · rw [hd, upd_same, upd_same]
    · rw [upd_ne hd, upd_ne hd]
      by_cases hb : b = a
      · rw [hb, del_same]; exact hn.symm
      · rw [del_ne hb, upd_ne hb, upd_ne hd, ← hH, upd_ne hb]
  rw [eq]
  exact q2
end Pz
end
section
set_option Elab.async false
set_option linter.all false
set_option maxHeartbeats 1000000
/-! try: .. except X as e: caught = e. The exception outlives the suite: it is tracked from there on. -/
namespace Pz
open PySem PySem.Spec PyProof.Rows L2

theorem cao_ok {P : Program} {w : World} {H : Hp} {h : Heap} {a C dx : Addr} {oe : Obj} {vs : Array Value} (he : h.get? a = some oe) (hz : Zc (.ref C) (some dx) oe) (hd : oe.data = .fields vs) : ObjOk P w H h a (CaO a C dx) :=
  ⟨⟨oe, vs, he, hz, hd⟩, ⟨_, he⟩, fun h1 h2 ⟨o, v, e, z, d⟩ k => ⟨o, v, k _ e, z, d⟩⟩
theorem cao_at {P : Program} {w : World} {H : Hp} {h : Heap} {a C dx : Addr} (hok : HOk P w H h) (e : H a = some (CaO a C dx)) : ∃ oe vs, h.get? a = some oe ∧ Zc (.ref C) (some dx) oe ∧ oe.data = .fields vs := by
  have x : ObjOk P w H h a (.ext fun h => ∃ oe vs, h.get? a = some oe ∧ Zc (.ref C) (some dx) oe ∧ oe.data = .fields vs) := hok a _ e
  exact x.1
section
variable {X : Cx} {pins : List (Addr × Obj)} {σ : Sl} {H : Hp} {s : Shared} {a C dx : Addr} {oe : Obj} {vs : Array Value}
/-- a pinned exception is tracked from now on -/
theorem inv_adopt (I : Inv X ((a, oe) :: pins) σ H s) (hex : X.ex = []) (hn : X.s_0.heap.get? a = none) (hp : ∀ p ∈ X.pn ++ pins, p.1 ≠ a) (hz : Zc (.ref C) (some dx) oe) (hd : oe.data = .fields vs) : Inv X pins σ (upd H a (CaO a C dx)) s := by
  have ha : (a, oe) ∈ X.pn ++ (a, oe) :: pins := List.mem_append_right _ List.mem_cons_self
  obtain ⟨h1, h2, h3, h4, h5⟩ := I.pin _ ha
  have ne : ∀ {b : Addr} {u : HO}, H b = some u → b ≠ a := fun {b u} e z => by rw [z, show H a = none from h2] at e; cases e
  refine ⟨I.ok, I.os, I.bare, ⟨I.base.keep, I.base.slot, fun b o e n hx => ?_, I.base.there, fun b xs e => ?_, fun b o u e => ?_, fun b ps e => ?_⟩, I.loc, I.cell, ?_, fun x c e => ?_, fun p hp' => ?_, fun b u e => ?_, I.len⟩
  · by_cases hb : b = a
    · rw [hb, hn] at e; cases e
    · rw [upd_ne hb]; exact I.base.free b o e n hx
  · have := I.base.tups b xs e
    rw [upd_ne (ne this)]; exact this
  · have := I.base.frzs b o u e
    rw [upd_ne (ne this)]; exact this
  · obtain ⟨more, this⟩ := I.base.tbls b ps e
    exact ⟨more, by rw [upd_ne (ne this)]; exact this⟩
  · rw [upd_ne (Ne.symm h3)]; exact I.free
  · obtain ⟨v, ⟨o, hc, hv⟩⟩ := I.cell x c e
    have : c ≠ a := fun z => by
      subst z
      have e1 : s.heap.get? c = some oe := h1
      rw [e1] at hc; cases hc
      exact h5 _ hv
    rw [upd_ne this]; exact I.freeC x c e
  · have hm : p ∈ X.pn ++ (a, oe) :: pins := by
      rcases List.mem_append.mp hp' with z | z
      · exact List.mem_append_left _ z
      · exact List.mem_append_right _ (List.mem_cons_of_mem _ z)
    obtain ⟨g1, g2, g3⟩ := I.pin p hm
    exact ⟨g1, by rw [upd_ne (hp p hp')]; exact g2, g3⟩
  · by_cases hb : b = a
    · subst hb
      rw [upd_same] at e
      cases e
      exact cao_ok h1 hz hd
    · rw [upd_ne hb] at e
      exact (I.hok b u e).stay (fun c v _ z => z) (fun c z => by rw [upd_ne (ne z)]; exact z) fun c xs z => by rw [upd_ne (ne z)]; exact z
end
/-- what the clause wishes -/
def wKeep (K : PySem.W.Frag) (c : Value) (i j : Nat) (Wout : WX) (D : Ends) : WX := fun cls d σ H =>
  ∃ b, PySem.W.exmOne K cls c = some b ∧ (b = true → ∃ C dx, cls = .ref C ∧ d = some dx ∧ ∀ a, H a = none → D.nx ((σ.set j (some (.ref a))).set i none) (upd H a (CaO a C dx))) ∧ (b = false → Wout cls d σ H)
section
variable {X : Cx} {x n m : Str} {c : Value} {i j : Nat} {body : List Stmt} {np np2 mp ap pos pos' : Pos} {tb : WX → TS} {Wout : WX}
theorem ps_try_keep (hs : X.stack = X.env :: X.outer) (hf : X.env.frame = some X.env.locals) (hex : X.ex = []) (hN : X.N.Nodup) (hi : X.N[i]? = some n) (hln : X.env.kindOf n = some .local) (hj : X.N[j]? = some m) (hlm : X.env.kindOf m = some .local) (hij : i ≠ j)
    (hd : (n == ("__debug__" : Str)) = false) (hcd : (n == ("__classdict__" : Str)) = false) (hil : i < X.N.length) (hc : Names X x c) (tk : Takes X Wout)
    (hb : ∀ (W : WX) (pn : List (Addr × Obj)) (xe : Value → Shared → Prop), Takes (X.tr pn xe) W → PassesOwn (model X.prog X.w) X.A X.env xe → PSs (X.tr pn xe) body (tb W)) :
    PS X (.Try body [.ExceptHandler (some (.Name x np)) (some n) [.Assign [.Name m mp] (.Name n np2) ap] pos'] [] [] pos) (fun D σ H => tb (wKeep X.K c i j Wout D) D σ H) := by
  refine ⟨fun pins s σ H D I h => ?_⟩
  have ok := I.ok
  have hfr : X.A.frames = some (X.env :: X.outer) := by rw [ok.frames, hs]
  have hloc : Loc X.env.scope n := .inl hln
  refine wpAny_Try_except ?_
  refine wpAny_mono ((hb (wKeep X.K c i j Wout D) (X.pn ++ pins) (fun e s₁ => wpAny (model X.prog X.w) X.A (noteFrame e X.env) (fun _ s₂ => wpAny (model X.prog X.w) X.A (setFlight e none) (fun _ s₃ =>
    wpAny (model X.prog X.w) X.A (handleBy e X.env [.ExceptHandler (some (.Name x np)) (some n) [.Assign [.Name m mp] (.Name n np2) ap] pos']) (SP X pins D) X.xe s₃) X.xe s₂) X.xe s₁) (fun u s' xx => ?_) PassesOwn.looking).run [] s σ H D (I.toTry _) h) (fun f s1 hsp => ?_) (fun e s1 he => he)
  · -- the catch
    obtain ⟨a, B, sI, pins', σ', H', cls, d, rfl, J', nb, up, sky, na, os, ag, b, hb1, hyes, hno⟩ := xx
    have J : Inv X pins σ' H' sI := J'.ofTry ok
    have sky' : Sky B (X.env :: X.outer) a (Zc cls d) X.env.locals s'.heap := by rw [← hs]; exact sky
    have Ba : B.get? a = none := by
      rcases sky' with z | z | z
      · exact z.2.1
      · exact z.2.1
      · exact z.2.1
    show wpAny (model X.prog X.w) X.A (noteFrame (.ref a) X.env) _ _ _
    refine Sky.land Zc.steady hfr hf sky' fun h3 fl3 up3 => ?_
    have J3 : Inv X pins σ' H' { s' with heap := h3 } := J.landed nb fl3.1 (up.trans up3) os ag
    obtain ⟨oe3, vs3, he3, hz3, hd3⟩ := fl3.there
    have notFr : ∀ {h : Heap} {o : Obj} {vs : Array Value}, h.FunFrames B (X.env :: X.outer) → h.get? a = some o → o.data = .fields vs → a ∉ frs (X.env :: X.outer) := fun {h o vs} ff e dd hm => by
      obtain ⟨_, o', e', hnf⟩ := ff.mem hm
      rw [e] at e'; cases e'
      exact hnf _ dd
    have nfr := notFr fl3.2.2.1 he3 hd3
    have nL : a ≠ X.env.locals := fun z => nfr (List.mem_filterMap.mpr ⟨X.env, List.mem_cons_self, by rw [hf, z]⟩)
    have nF : a ∉ X.fs := fun hm => by
      obtain ⟨e, he, q⟩ := List.mem_filterMap.mp hm
      exact nfr (List.mem_filterMap.mpr ⟨e, List.mem_cons_of_mem _ he, q⟩)
    have nI : sI.heap.get? a = none := by
      cases z : sI.heap.get? a with
      | none => rfl
      | some o =>
        have := nb a o z (by rw [hs]; exact nfr)
        rw [Ba] at this; cases this
    have n0 : X.s_0.heap.get? a = none := by
      cases z : X.s_0.heap.get? a with
      | none => rfl
      | some o =>
        obtain ⟨o', this⟩ := J.base.there a o z (by rw [hex]; simp)
        rw [nI] at this; cases this
    have npin : ∀ p ∈ X.pn ++ pins, p.1 ≠ a := fun p hp z => by
      have := (J.pin p hp).1
      rw [z, nI] at this; cases this
    have S3 := J3.suite he3 hd3 na nL nF
    refine wpAny_handleBy_cons (codeAny_handlers_test ?_) (by intro q; cases q)
    have LT : PySem.W.Looks (model X.prog X.w) h3 (typeOf (.ref a)) cls := fun A Q E s k q => wpAny_typeOf_ref (k _ _ he3) (by rw [hz3.1]; exact q)
    have LM := PySem.W.exm_one (M := model X.prog X.w) (J3.kIn) LT hb1
    have test : ∀ {Q : Value → Shared → Prop} {E : Value → Shared → Prop}, Q c { s' with heap := h3 } → wpAny (model X.prog X.w) (X.A.mark (some (.ref a))) (eval (.Name x np) X.env) Q E { s' with heap := h3 } := fun {Q E} q => by
      obtain ⟨hg, hdbg, hm | ⟨hm, hv, hnn⟩⟩ := hc
      · exact ld_glob (X := X.suite a ((a, oe3) :: (X.pn ++ pins))) S3 hg hm q hdbg
      · exact ld_blt (X := X.suite a ((a, oe3) :: (X.pn ++ pins))) S3 hg hm hv q hnn hdbg
    refine test (LM.here ?_)
    cases b with
    | true =>
      obtain ⟨C, dx, rfl, rfl, hyes2⟩ := hyes rfl
      refine codeAny_handlers_suite_as ?_
      refine HandSPX.lands_againZ fl3 fun h4 fl4 up4 => ?_
      have J4 : Inv X pins σ' H' { s' with heap := h4 } := J.landed nb fl4.1 ((up.trans up3).trans up4) os ag
      obtain ⟨oe4, vs4, he4, hz4, hd4⟩ := fl4.there
      have S4 := J4.suite he4 hd4 na nL nF
      refine store_ok (X := X.suite a ((a, oe4) :: (X.pn ++ pins))) (v := .ref a) S4 hN hi hloc rfl (fun s5 S5 => ?_) (.inr hln)
      have lil : i < σ'.length := by rw [J.len]; exact hil
      -- caught = error
      refine wpAny_execs_cons (wpAny_mono ((ps_set (X := X.suite a ((a, oe4) :: (X.pn ++ pins))) (te := tVar i) hN hj (.inl hlm) (pe_var hi (.inl hln) hd hcd) rfl (.inr hlm)).run [] s5 _ H' { nx := fun σ6 H6 => σ6 = (σ'.set i (some (.ref a))).set j (some (.ref a)) ∧ H6 = H', rt := fun _ _ => False, bk := fun _ _ => False, ct := fun _ _ => False } S5 ⟨.ref a, List.getElem?_set_self lil, rfl, rfl⟩) (fun f s6 hsp => ?_) (fun _ _ z => False.elim z))
      cases f with
      | next =>
        obtain ⟨σ6, H6, S6, e1, e2⟩ := hsp
        rw [e1, e2] at S6
        have S7 : L2.Inv X ((a, oe4) :: pins) ((σ'.set i (some (.ref a))).set j (some (.ref a))) H' s6 :=
          ⟨ok, S6.os, S6.bare, S6.base, S6.loc, S6.cell, S6.free, S6.freeC, fun p hp => S6.pin p (by
            rw [List.append_nil]
            rcases List.mem_append.mp hp with z | z
            · exact List.mem_cons_of_mem _ (List.mem_append_left _ z)
            · rcases List.mem_cons.mp z with z | z
              · rw [z]; exact List.mem_cons_self
              · exact List.mem_cons_of_mem _ (List.mem_append_right _ z)), S6.hok, S6.len⟩
        show wpAny _ _ (execs [] X.env) _ _ _
        refine wpAny_execs_nil (gone_ok S7 hN hi hln fun s7 J7 => ?_)
        have e : (((σ'.set i (some (V.ref a))).set j (some (.ref a))).set i none) = (σ'.set j (some (.ref a))).set i none := by
          rw [List.set_comm _ _ (Ne.symm hij), List.set_set, List.set_comm _ _ hij]
        rw [e] at J7
        exact ⟨_, _, inv_adopt J7 hex n0 npin hz4 hd4, hyes2 a na⟩
      | brk => obtain ⟨_, _, _, z⟩ := hsp; exact z.elim
      | cont => obtain ⟨_, _, _, z⟩ := hsp; exact z.elim
      | ret u => obtain ⟨_, _, _, _, _, z⟩ := hsp; exact z.elim
    | false =>
      show wpAny _ X.A (handleBy (.ref a) X.env []) _ _ _
      refine wpAny_handleBy_nil ?_
      obtain ⟨k1, k2, k3, oe, vs, T, oT, ts', he, hz, hd, h1, hr⟩ := id fl3
      unfold PySem.passOn
      refine wpAny_bind (wpAny_field he hd h1 ?_)
      rw [if_neg (show ¬ ((Value.ref T == Value.none) = true) from by simp)]
      have fin : wpAny (model X.prog X.w) X.A (setFlight (.ref a) X.env.frame) (fun _ s4 => wpAny (model X.prog X.w) X.A (throw (.ref a) : Sem Flow) (SP X pins D) X.xe s4) X.xe { s' with heap := h3 } := by
        rw [hf]
        refine HandSPX.setFlight_upZ fl3 fun h4 hh4 up4 => wpAny_throw (tk _ _ ?_)
        exact ⟨a, B, sI, pins, σ', H', cls, d, rfl, J, nb, (up.trans up3).trans up4, .inr (.inr (by rw [hs]; exact hh4)), na, os, ag, hno rfl⟩
      first
        | exact wpAny_bind (wpAny_pure (wpAny_bind fin))
        | exact wpAny_bind fin
  · cases f with
    | next =>
      obtain ⟨σ', H', J', q⟩ := hsp
      exact wpAny_execs_nil ⟨σ', H', J'.ofTry ok, q⟩
    | brk =>
      obtain ⟨σ', H', J', q⟩ := hsp
      exact ⟨σ', H', J'.ofTry ok, q⟩
    | cont =>
      obtain ⟨σ', H', J', q⟩ := hsp
      exact ⟨σ', H', J'.ofTry ok, q⟩
    | ret u =>
      obtain ⟨v, σ', H', J', r, q⟩ := hsp
      exact ⟨v, σ', H', J'.ofTry ok, r, q⟩
end
end Pz
end
section
set_option Elab.async false
set_option linter.all false
/-! A caught error: isinstance, its field. -/
namespace Pz
open PySem PySem.Spec PyProof.Rows L2

/-- what K tells of an own error's class, for its instances -/
structure XCl (K : PySem.W.Frag) (C : Addr) : Prop where
  xf : XfC K C
  nov : PySem.W.findIn K (.ref C) "value" = some none
  hcl : (PySem.W.clsIn K C).isSome = true
  ha : PySem.W.findIn K (.ref C) "__class__" = some (some (.builtin "object.__class__"))
  hn : PySem.W.specialIn K (.builtin "object.__class__") "__get__" = some (some (.builtin "getset_descriptor.__get__"))
  ht : PySem.W.takesIn K (.builtin "object.__class__") = some true
  hm : PySem.W.mroIn K C (.type "object") = some true
theorem RD.exc_eq {X : Tx} {F : Hp} {v : V} {k : Nat} {fs : List D} (h : RD X F v (.exc k fs)) : ∃ (a C dx : Addr) (w : V) (d : D), v = .ref a ∧ fs = [d] ∧ X.ca k = some C ∧ F a = some (CaO a C dx) ∧ F dx = some (.xd [("value", w)]) ∧ RD X F w d := by
  cases h with | exc e1 e2 e3 r => exact ⟨_, _, _, _, _, rfl, rfl, e1, e2, e3, r⟩
section
variable {X : Cx} {pins : List (Addr × Obj)} {σ : Sl} {H : Hp} {s : Shared} {a C dx : Addr} {fs : List (Str × V)}
theorem exc_inst (I : L2.Inv X pins σ H s) (h : H a = some (CaO a C dx)) (hd : H dx = some (.xd fs)) : ∃ oe od, PySem.W.InstAt s.heap a oe C (some od) ∧ s.heap.get? dx = some od := by
  obtain ⟨oe, vs, e1, e2, e3⟩ := cao_at I.hok h
  have hx : ObjOk X.prog X.w H s.heap dx (.xd fs) := I.hok dx _ hd
  obtain ⟨mA, ⟨od, es, ep, ho, _⟩, _⟩ := hx
  exact ⟨oe, od, ⟨e1, e2.1, by unfold PySem.W.notCls; rw [e3] <;> rfl, by rw [e2.2]; exact ho⟩, ho⟩
/-- isinstance(e, c) -/
def rIsC (K : PySem.W.Frag) : List V → Hp → VK → Prop := fun xs H Q => ∃ (a C dx : Addr) (fs : List (Str × V)) (c : V) (u : Value) (b : Bool), xs = [.ref a, c] ∧ H a = some (CaO a C dx) ∧ H dx = some (.xd fs) ∧ ClsV c u ∧ XCl K C ∧ PySem.W.kitOne K (.ref C) u = some b ∧ Q (.bl b) H
theorem call_isC : CallR X (.builtin "isinstance") (rIsC X.K) := by
  intro pins s σ H xs us Q I r h
  obtain ⟨a, C, dx, fs, c, u, b, rfl, h1, h2, k, T, e, q⟩ := h
  obtain ⟨u1, u2, rfl, r1, r2⟩ := vals2 r
  have e2 := k.eq r2
  subst e2
  obtain rfl : u1 = Value.ref a := r1
  obtain ⟨oe, od, J, _⟩ := exc_inst I h1 h2
  exact PySem.W.kia_one (PySem.W.kitx_exc (ox := oe) (od := some od) T.hcl T.xf.ga T.xf.gg T.xf.exC T.ha T.hn T.ht T.hm) I.kIn J e (fun z => nomatch z) fun tk => ⟨.bl b, H, I.tok tk, rfl, q⟩
/-- e.value -/
def tXv (K : PySem.W.Frag) (te : TE) : TE := fun σ H Q => te σ H fun x H1 => ∃ (a C dx : Addr) (v : V), x = .ref a ∧ H1 a = some (CaO a C dx) ∧ H1 dx = some (.xd [("value", v)]) ∧ XCl K C ∧ Q v H1
theorem pe_xv {e : Expr} {te : TE} {pos : Pos} (he : PE X e te) (hb : attributeBase e "value" X.env (eval e X.env) = eval e X.env) : PE X (.Attribute e "value" pos) (tXv X.K te) := by
  refine ⟨fun pins s σ H Q I h => ?_⟩
  refine attr_of hb (thn (he.run pins s σ H _ I h) fun u s1 hh => ?_)
  obtain ⟨x, H1, I1, rx, a, C, dx, v, ex, h1, h2, T, q⟩ := hh
  subst ex
  obtain rfl : u = Value.ref a := rx
  obtain ⟨oe, od, J, hod⟩ := exc_inst I1 h1 h2
  have hx : ObjOk X.prog X.w H1 s1.heap dx (.xd [("value", v)]) := I1.hok dx _ h2
  obtain ⟨mA, hns, hr⟩ := hx
  obtain ⟨od2, ho, hl⟩ := lookIn_ns hns
  rw [hod] at ho
  cases ho
  obtain ⟨u, hu, ru⟩ := RelO.some_of (v := v) (o := mA "value") (hr "value")
  exact HandSPX.exc_get I1.kIn J T.xf.ga T.xf.gg T.xf.exC (PySem.W.findObj_own T.xf.hdC T.nov rfl (by rw [hl, hu])) (handed_of ru) ⟨v, H1, I1.tok _, ru, q⟩
end
section
variable {c : Cf} {W : WX} {Γ : List Nat} {Y : Cx} {e a b : Expr} {es : List Expr} {pos p0 p1 p2 : Pos} {k ka kb kc : Kd} {fa fb fc : Env → R (D × Env)} {x : Str}
/-- isinstance(a, C), C an own class: k -/
theorem sx_isiC {j : Nat} {C2 : Addr} (cx : Ctx c W Y) (hg : Gl Y "isinstance") (hm : Y.mg "isinstance" = none) (hg2 : Gl Y x) (hm2 : Y.mg x = some (.ref C2)) (hd : (x == ("__debug__" : Str)) = false)
    (hX : ∀ k C, c.X.ca k = some C → XCl Y.K C ∧ PySem.W.kitOne Y.K (.ref C) (.ref C2) = some (j == 0 || j == k)) (hP : ∀ d, tyOk d = true → PySem.W.kitOne Y.K (.type (tnD d)) (.ref C2) = some false)
    (ha : SX c W Γ ka Y a fa) (hs : noStar a = true) :
    SX c W Γ (kA ka.pu) Y (.Call (.Name "isinstance" p0) [a, .Name x p1] [] pos) (fun ρ => (fa ρ).bind fun p => (optR (isTs p.1 [.cls j])).bind fun b => .ok (.bl b, p.2)) :=
  PE.imp (pe_callB (call_isi.or call_isC) hg hm PyProof.Rows.boot_isinstance (pa_cons ha (pa_cons (pe_glob (v := .ref C2) hg2 hm2 rfl hd) pa_nil (star_cons rfl)) (star_cons hs)) (by decide) (by decide) (star_cons hs) (star_any rfl)) fun σ H Q ⟨F, A, ρ, rp, h⟩ =>
    tX.one (g := fun d ρ1 => (optR (isTs d [.cls j])).bind fun b => .ok (D.bl b, ρ1)) rp h fun v H1 F1 A1 d ρ1 B o h1 => by
      obtain ⟨b, e', h2⟩ := Run.opt h1
      replace h2 : Ends' c Γ (kA ka.pu) σ ρ H F A Q (.bl b, ρ1) := h2
      have hq := h2 _ _ _ _ _ (o.mid.val (.bl b) (fun z => z) (.inr rfl))
      have rd := o.ot.read o.rep.sub
      have plain : tyOk d = true → b = false → rIsi Y.K [v, .ref C2] H1 Q := fun h0 hb => by
        subst hb
        refine ⟨v, .ref C2, .type (tnD d), .ref C2, false, rfl, .own _, ?_, hP d h0, hq⟩
        rw [cx.K]; exact rd.ty h0
      cases d with
      | exc k fs =>
        obtain ⟨a', C, dx, w, dd, rfl, rfl, k1, k2, k3, _⟩ := rd.exc_eq
        have e2 : (j == 0 || j == k) = b := Option.some.inj e'
        obtain ⟨x1, x2⟩ := hX k C k1
        exact .inr ⟨a', C, dx, _, .ref C2, .ref C2, b, rfl, k2, k3, .own _, x1, by rw [← e2]; exact x2, hq⟩
      | non => exact .inl (plain rfl (Option.some.inj e').symm)
      | bl _ => exact .inl (plain rfl (Option.some.inj e').symm)
      | int _ => exact .inl (plain rfl (Option.some.inj e').symm)
      | str _ => exact .inl (plain rfl (Option.some.inj e').symm)
      | lst _ => exact .inl (plain rfl (Option.some.inj e').symm)
      | tup _ => exact .inl (plain rfl (Option.some.inj e').symm)
      | dic _ _ => exact .inl (plain rfl (Option.some.inj e').symm)
      | set _ => cases e'
      | fn _ => cases e'
/-- e.value -/
theorem sx_attr (cx : Ctx c W Y) (hX : ∀ k C, c.X.ca k = some C → XCl Y.K C) (ha : SX c W Γ ka Y a fa) (hb : attributeBase a "value" Y.env (eval a Y.env) = eval a Y.env) (hl : ka.own = true) :
    SX c W Γ ⟨true, ka.pu, 0⟩ Y (.Attribute a "value" pos) (fun ρ => (fa ρ).bind fun p => (optR (attrD 0 p.1)).bind fun d => .ok (d, p.2)) :=
  PE.imp (pe_xv (sx_low ha hl (Nat.zero_le _)) hb) fun σ H Q ⟨F, A, ρ, rp, h⟩ =>
    tX.one (g := fun d ρ1 => (optR (attrD 0 d)).bind fun d => .ok (d, ρ1)) rp h fun v H1 F1 A1 d ρ1 B o h1 => by
      obtain ⟨d', e', h2⟩ := Run.opt h1
      replace h2 : Ends' c Γ ⟨true, ka.pu, 0⟩ σ ρ H F A Q (d', ρ1) := h2
      cases d <;> first | (cases e'; done) | skip
      obtain ⟨a', C, dx, w, dd, rfl, rfl, k1, k2, k3, rw'⟩ := o.ot.2.exc_eq
      cases e'
      exact ⟨a', C, dx, w, rfl, o.rep.sub _ _ k2, o.rep.sub _ _ k3, hX _ C k1, h2 w _ _ _ _ (o.mid.val rw' (fun z => z) (.inl rfl))⟩
end
/-- the own errors' classes: their names and numbers -/
structure ErrT (c : Cf) (P : Program) (mg : Str → Option Value) (ex : List (Str × Nat)) : Prop where
  nm : ∀ x k, (x, k) ∈ ex → ∃ C, c.X.ca k = some C ∧ mg x = some (.ref C)
  base : ∀ k C, c.X.ca k = some C → ∃ D f, ErrB c.X.K P mg D f ∧ ErrC c.X.K D f C
  xc : ∀ k C, c.X.ca k = some C → XCl c.X.K C
  rel : ∀ k C j C2, c.X.ca k = some C → c.X.ca j = some C2 → PySem.W.kitOne c.X.K (.ref C) (.ref C2) = some (j == 0 || j == k) ∧ PySem.W.exmOne c.X.K (.ref C) (.ref C2) = some (j == 0 || j == k)
  pl : ∀ j C2 d, c.X.ca j = some C2 → tyOk d = true → PySem.W.kitOne c.X.K (.type (tnD d)) (.ref C2) = some false
end Pz
end
section
set_option Elab.async false
set_option linter.all false
/-! Defs as values, and their calls. -/
namespace Pz
open PySem PySem.Spec PyProof.Rows L2

/-- f(e, ..), f a local name -/
theorem pe_callLG {Y : Cx} {cx : CXT} {E : Sl → XK} {x : Str} {i : Nat} {p pos : Pos} {e : Expr} {es : List Expr} {t : TA} (hN : Y.N[i]? = some x) (hv : Vis Y.env.scope x) (hx : ∀ σ, PassesAt cx Y σ (E σ)) (ha : PA Y (e :: es) t) (hd : (x == ("__debug__" : Str)) = false) (hcd : (x == ("__classdict__" : Str)) = false)
    (he : starEach (e :: es) Y.env = (false, eval e Y.env) :: starEach es Y.env) (hp : (backTo pos (starEach es Y.env)).any (·.1) = false) :
    PE Y (.Call (.Name x p) (e :: es) [] pos) (fun σ H Q => ∃ ad k fd ps sp, σ[i]? = some (some (.ref ad)) ∧ FnG Y.prog Y.w Y.K Y.mg Y.base cx k ad fd ps sp ∧ RoomG k Y.A ∧ PySem.W.keepIn Y.K (.ref ad) = true ∧ Binds Y.K fd ps [] ∧ t σ H fun vs H1 => sp vs H1 Q (E σ)) := by
  constructor
  intro pins s σ H Q I ⟨ad, k, fd, ps, sp, hs, F, rm, hk, hb, h⟩
  refine wpAny_Call_Name_kw (thn ((pe_var (pos := p) hN hv hd hcd).run pins s σ H (fun v H1 => v = .ref ad ∧ H1 = H) I ⟨.ref ad, hs, rfl, rfl⟩) fun u s1 ⟨v, H1, I1, r1, q1⟩ => ?_)
  obtain ⟨rfl, rfl⟩ := q1
  cases r1
  apply PySem.W.callWith_K (h₀ := Y.base) I.ok.mod.kin hk _ he hp
  refine thn (ha.run pos pins s1 σ _ _ I1 h) fun us s1 ⟨vs, H1, I1, rl, z⟩ => ⟨I1.kIn, wpAny_call (codeAny_mono (run_g F rm (us := us) (vs := vs) ?_ (hx σ) I1 rl z) fun r s2 q => ?_)⟩
  · have := hb s1 us I1.kIn (by rw [List.append_nil, ← rl.length]; exact F.len _ _ _ _ z)
    rw [List.append_nil] at this
    exact this
  · match r, q with
    | .error e, q => exact q
    | .ok (.ret u), q => exact q
    | .ok .next, q => exact q.elim
    | .ok .brk, q => exact q.elim
    | .ok .cont, q => exact q.elim
/-- the defs that are values -/
structure FvAt (c : Cf) (Y : Cx) (call : Nat → List D → R (D × List D)) : Prop where
  ex : ∀ f ad, c.X.fa f = some ad → ∃ k fd ps np sg, FnG Y.prog Y.w Y.K Y.mg Y.base (L2.CX Y.prog Y.w) k ad fd ps (spF c np [] sg (call f)) ∧ RoomG k Y.A ∧ PySem.W.keepIn Y.K (.ref ad) = true ∧ Binds Y.K fd ps [] ∧ (∀ i, sg.pl.getD i 0 = 0) ∧ ∀ ds, ds.length ≠ np → call f ds = bad
theorem RD.fn_eq {X : Tx} {F : Hp} {v : V} {f : Nat} (h : RD X F v (.fn f)) : ∃ a, v = .ref a ∧ X.fa f = some a := by
  cases h with | fn e => exact ⟨_, rfl, e⟩
section
variable {c : Cf} {W : WX} {Γ : List Nat} {Y : Cx} {e : Expr} {es : List Expr} {pos p0 : Pos} {fs : Env → R (List D × Env)} {ls : List (Option Nat)} {pu : Bool} {x : Str} {i : Nat} {call : Nat → List D → R (D × List D)}
theorem sx_fnv {f : Nat} {a : Addr} (hg : Gl Y x) (hm : Y.mg x = some (.ref a)) (hf : c.X.fa f = some a) (hd : (x == ("__debug__" : Str)) = false) : SX c W Γ (kA true) Y (.Name x pos) (fun ρ => .ok (.fn f, ρ)) :=
  sx_const (pe_glob (v := .ref a) hg hm rfl hd) (fun _ => .fn hf) rfl
theorem sx_callv (cx : Ctx c W Y) (fv : FvAt c Y call) (hN : Y.N[i]? = some x) (hv : Vis Y.env.scope x) (hd : (x == ("__debug__" : Str)) = false) (hcd : (x == ("__classdict__" : Str)) = false) (ha : SA c W Γ ls pu Y (e :: es) fs) (hn : allN ls = true)
    (hs : starEach (e :: es) Y.env = (false, eval e Y.env) :: starEach es Y.env) (hs2 : (backTo pos (starEach es Y.env)).any (·.1) = false) :
    SX c W Γ ⟨true, pu, 0⟩ Y (.Call (.Name x p0) (e :: es) [] pos) (fun ρ => (optR ((gt ρ i).bind fnO)).bind fun f => (fs ρ).bind fun p => (call f p.1).bind fun r => .ok (r.1, p.2)) := by
  refine PE.imp (pe_callLG (E := WE W) hN hv (fun σ => passAt cx.tk σ) ha hd hcd hs hs2) fun σ H Q ⟨F, A, ρ, r, h⟩ => ?_
  obtain ⟨f, ef, h⟩ := Run.opt h
  obtain ⟨g, eg, ef⟩ := Option.bind_eq_some_iff.mp ef
  obtain ⟨vg, evg, og⟩ := r.val i g (gt_ok eg)
  have eg' : g = .fn f := by cases g <;> first | (cases ef; done) | (cases ef; rfl)
  subst eg'
  obtain ⟨ad, rfl, hfa⟩ := (og.rd_of_atom rfl).fn_eq
  obtain ⟨k, fd, ps, np, sg, F0, hr, hk, hb, hp, hlen⟩ := fv.ex f ad hfa
  refine ⟨ad, k, fd, ps, _, evg, F0, hr, hk, hb, tF.one (g := fun ds ρ1 => (call f ds).bind fun r => .ok (r.1, ρ1)) r h fun vs H1 F1 A1 ds ρ1 m ap h1 => ?_⟩
  obtain ⟨qs, e1, e2, e3⟩ := ap.ps hn
  have ld : ds.length = np := by
    by_cases hl : ds.length = np
    · exact hl
    · rw [hlen ds hl] at h1; exact False.elim h1
  have lv : vs.length = np := ap.len.1.trans (ap.len.2.symm.trans ld)
  refine ⟨F1, fun _ => [], ds, lv, ld, ⟨m.rep.sub, by rw [List.length_map, List.length_map, lv, ld], fun i d hi => ?_, fun _ _ => rfl, fun _ => List.nodup_nil, fun _ _ _ _ z => absurd z (by simp)⟩, ?_⟩
  · have hi := map_some_get hi
    have hln : ls[i]? = some none := by
      have hlt : i < ls.length := by rw [← ap.len.2]; exact (List.getElem?_eq_some_iff.mp hi).1
      rw [List.getElem?_eq_getElem hlt]
      have := (List.all_eq_true.mp hn) ls[i] (List.getElem_mem hlt)
      cases e : ls[i] with
      | none => rfl
      | some z => rw [e] at this; cases this
    obtain ⟨v, ev, rv⟩ := ap.get0 hln hi
    exact ⟨v, map_some_of ev, by rw [hp]; exact ⟨rfl, rv⟩⟩
  · refine Run.imp (Run.shift h1.bind (Q := Own fun _ => []) fun a ⟨_, z⟩ => absurd z (by simp)) fun q _ hq v H' F' A' B hlen r' n' o nd dj => ?_
    replace hq : Ends' c Γ ⟨true, pu, 0⟩ σ ρ H F A Q (q.1, ρ1) := hq
    have nf : Nxt H1 F1 (fun _ => False) H' F' (fun a => a ∈ B) := n'.weak (fun a ⟨_, z⟩ => absurd z (by simp)) fun a z => .inl (.inr z)
    have n1 : Nxt H1 F1 (Own A1) H' F' (fun a => Own A1 a ∨ a ∈ B) := (nf.beside (B := Own A1)).weak (fun a z => z.elim False.elim fun z => z) fun a z => .inl (z.elim .inr .inl)
    have hB : ∀ a ∈ B, H1 a = none := fun a ha => (nf.own a ha).elim False.elim fun z => z
    have oo : Out c Γ ⟨true, pu, sg.rl⟩ σ ρ H F A ρ1 H' F' A1 v q.1 B := ⟨⟨m.rep.step nf r'.sub fun _ _ z => z, (m.nx0.trans n1).weak (fun _ z => z) fun a z => .inl (z.imp (fun z => z) fun z => z.2), fun z => by
      obtain ⟨z1, z2, z3⟩ := m.pu z
      exact ⟨z1, z2, (z3.trans (nf.weak (fun _ z => z) fun a z => z.elim))⟩⟩, o, fun _ => nd, fun _ a ha z => (m.rep.dom z).1 (hB a ha)⟩
    obtain ⟨F2, B2, o2⟩ := oo.low (k' := ⟨true, pu, 0⟩) rfl (Nat.zero_le _) fun z => z
    exact hq v H' F2 A1 B2 o2
end
end Pz
end
section
set_option Elab.async false
set_option linter.all false
/-! Comprehensions of two walks. -/
namespace Pz
open PySem PySem.Spec PyProof.Rows L2
section
variable {K : PySem.W.Frag}
/-- a walk's turns, whatever a turn does -/
theorem walk_turns {J : It} {n : Nat} {G : Hp → Prop} {Yl : Nat → Hp → V → Hp → Prop} (w : Walk J n G Yl) {H0 : Hp} {Qd : Hp → Prop} {R : V → Hp → (Hp → Prop) → Prop} (Pv : Nat → Hp → Prop) (h0 : Pv 0 H0) (hG : ∀ i H, i ≤ n → Pv i H → G H)
    (hs : ∀ i x H H', i < n → Pv i H → Yl i H x H' → R x H' (Pv (i + 1))) (hd : ∀ H, Pv n H → Qd H) :
    ∃ W : Nat → Nat → Hp → Prop, (∃ m, W 0 m H0) ∧ ∀ i m H, W i m H →
      (J.stop i H ∧ Qd H) ∨ (J.go i H ∧ ∃ Nx : Hp → Prop, (∀ H', Nx H' → ∃ m', m' < m ∧ W (i + 1) m' H') ∧ ∀ x H', J.yld i H x H' → R x H' Nx) := by
  refine ⟨fun i m H => m = n - i ∧ i ≤ n ∧ Pv i H, ⟨n, by simp, Nat.zero_le _, h0⟩, ?_⟩
  rintro i m H ⟨rfl, hi, p⟩
  have q := hG i H hi p
  by_cases hlt : i < n
  · exact .inr ⟨w.goes i H hlt q, Pv (i + 1), fun H' p' => ⟨n - (i + 1), by omega, rfl, hlt, p'⟩, fun x H' y => hs i x H H' hlt p (w.yields i H x H' hlt q y)⟩
  · have e : i = n := by omega
    subst e
    exact .inl ⟨w.stops H q, hd H p⟩
end
section
variable {c : Cf} {W : WX} {Z : Zd} {Γ Γ1 Γ' : List Nat} {Y : Cx} {e a b : Expr} {es : List Expr} {pos p0 : Pos} {fa fb fe : Env → R (D × Env)} {fi fi2 : Env → R (List D × Env)} {fc fc2 : Env → R (Bool × Env)} {g g2 : D → Env → R Env} {ls : List (Option Nat)} {pa pb pu pi pi2 pc pc2 pe : Bool} {k ka kb : Kd}
  {σ σ1 σ2 : Sl} {ρ ρ' ρ0 ρ1 ρ2 : Env} {H F H' F' H1 F1 H2 F2 : Hp} {A A' A1 A2 : Nat → List Addr} {v : V} {d : D} {B : List Addr} {n i : Nat} {x : Str}
theorem unset_in : ∀ {l : List Nat} {ρ : Env} {i : Nat}, i ∈ l → i < ρ.length → (unset ρ l)[i]? = some none
  | [], _, _, h, _ => absurd h (by simp)
  | j :: l, ρ, i, h, hl => by
    show (unset (ρ.set j none) l)[i]? = _
    by_cases m : i ∈ l
    · exact unset_in m (by simpa using hl)
    · have e : i = j := (List.mem_cons.mp h).resolve_right m
      subst e
      rw [unset_out m, List.getElem?_set_self hl]
theorem unset_unset {own own2 : List Nat} (h : ∀ i ∈ own2, i ∈ own) (ρ : Env) : unset (unset ρ own2) own = unset ρ own := by
  apply List.ext_getElem?
  intro i
  by_cases m : i ∈ own
  · by_cases hi : i < ρ.length
    · rw [unset_in m (by rw [unset_length]; exact hi), unset_in m hi]
    · rw [List.getElem?_eq_none (by rw [unset_length, unset_length]; omega), List.getElem?_eq_none (by rw [unset_length]; omega)]
  · rw [unset_out m, unset_out fun z => m (h i z), unset_out m]
def lc2F (g : D → Env → R Env) (fc : Env → R (Bool × Env)) (fi2 : Env → R (List D × Env)) (g2 : D → Env → R Env) (fc2 : Env → R (Bool × Env)) (fe : Env → R (D × Env)) (own own2 : List Nat) : D → Env → List D → R (List D × Env) := fun x ρ acc => (g x (unset ρ own)).bind fun ρ1 => (fc ρ1).bind fun t => if t.1 then (fi2 t.2).bind fun p2 => compR (lcF g2 fc2 fe own2) p2.1 p2.2 acc else .ok (acc, t.2)
theorem lc2_go {own own2 : List Nat} {Q : VK} (h0 : ∀ i ∈ own, Γ.getD i 0 = 0) (hsub : ∀ i ∈ own2, i ∈ own)
    (h : tX c W Γ ⟨true, false, 1⟩ (fun ρ => (fi ρ).bind fun p => (nox (compR (lc2F g fc fi2 g2 fc2 fe own own2) p.1 p.2 [])).bind fun r => .ok (.lst r.1, back p.2 r.2 own)) σ H Q) :
    tLc2 (tI c W Γ pi fi) (tG c never (Zb own) Γ Γ g) (tX2 c never Γ pc fc) (tI c never Γ pi2 fi2) (tG c never (Zb own2) Γ Γ g2) (tX2 c never Γ pc2 fc2) (tX c never Γ ⟨true, pe, 0⟩ fe) own own2 σ H Q := by
  obtain ⟨F, A, ρ, r, h⟩ := h
  refine ⟨F, A, ρ, r, h.bind.imp fun p _ hq J H1 F1 A1 md ⟨G, gG, w⟩ Dp hD => ?_⟩
  cases er : compR (lc2F g fc fi2 g2 fc2 fe own own2) p.1 p.2 [] with
  | error z => rw [er] at hq; exact hq.elim
  | ok rr =>
  rw [er] at hq
  replace hq : Ends' c Γ ⟨true, false, 1⟩ σ ρ H F A Q (.lst rr.1, back p.2 rr.2 own) := hq
  have own0 : ∀ i ∈ own, A1 i = [] := fun i hi => by
    by_cases e : ∃ d, p.2[i]? = some (some d)
    · obtain ⟨d, e⟩ := e
      obtain ⟨v, _, o⟩ := md.rep.val i d e
      rw [h0 i hi] at o
      exact o.1
    · exact md.rep.non i fun d z => e ⟨d, z⟩
  have hD1 : ¬ Own A1 Dp := fun z => (md.rep.dom z).1 hD
  let Pv : Nat → Hp → Prop := fun i H' => ∃ F' A' ρ' acc, ∃ ps : List (V × D), Sub F1 F' ∧ Rep c.X Γ (unset ρ' own) (wipe σ own) H' F' A' ∧ ρ'.length = p.2.length ∧ Kept Dp (ps.map (·.1)) H' F' A' ∧ acc = ps.map (·.2) ∧ (∀ q ∈ ps, RD c.X F' q.1 q.2) ∧
    Nxt H1 F1 (Own A1) H' F' (Own A') ∧ compR (lc2F g fc fi2 g2 fc2 fe own own2) (p.1.drop i) ρ' acc = .ok rr
  have sb := upd_sub (o := .lst []) hD
  refine walk_turns w (R := fun x H' Nx => tG c never (Zb own) Γ Γ g x (wipe σ own) H' fun σ2 H2 => wipe σ2 own = wipe σ own ∧ tX2 c never Γ pc fc σ2 H2 fun b H3 => if b = true then _ else Nx H3) Pv ?_ (fun i H' _ ⟨F', A', ρ', acc, ps, s, r', _⟩ => gG H' (s.trans r'.sub)) ?_ ?_
  · have n0 : Nxt H1 F1 (Own A1) (upd H1 Dp (.lst [])) F1 (Own A1) := Nxt.grow sb
    have r1 : Rep c.X Γ p.2 σ (upd H1 Dp (.lst [])) F1 A1 := md.rep.step (Nxt.grow (P := fun _ => False) sb) (md.rep.sub.trans sb) fun _ _ z => z
    obtain ⟨A2, r2, o2⟩ := r1.unset own
    refine ⟨F1, A2, p.2, [], [], Sub.refl _, r2.swap (wipe_length _ _) fun i d e => wipe_out (unset_get e).1, rfl, ⟨upd_same, md.fresh hD, fun z => hD1 (o2 _ z)⟩, rfl, fun _ z => absurd z (by simp), n0.weak (fun _ z => z) fun a z => .inl (o2 a z), er⟩
  · intro i x Hc H2 hlt ⟨F', A', ρ', acc, ps, s, r', hlen, kp, eacc, hps, n', ecomp⟩ hy
    obtain ⟨d, hd⟩ : ∃ d, p.1[i]? = some d := ⟨p.1[i], List.getElem?_eq_getElem hlt⟩
    obtain ⟨F2, k1, k2, k3, k4, rx⟩ := hy F' s r'.sub d hd
    have nn : Nxt Hc F' (fun _ => False) H2 F2 (fun _ => False) := ⟨fun a o e _ => k1 a o e, k2, fun a e => (k4 a e).elim .inl fun z => .inr (.inr z), fun _ z => z.elim⟩
    have nn' : Nxt Hc F' (Own A') H2 F2 (Own A') := nn.weak (fun _ z => z.elim) fun a z => .inr z
    have r2 := r'.step nn k3 fun _ _ z => z
    have ed : p.1.drop i = d :: p.1.drop (i + 1) := by
      rw [List.drop_eq_getElem_cons hlt]
      congr 1
      have := List.getElem?_eq_getElem hlt
      rw [hd] at this
      exact (Option.some.inj this).symm
    rw [ed] at ecomp
    obtain ⟨p1, e1, e2⟩ := bind_ok_inv (show ((lc2F g fc fi2 g2 fc2 fe own own2) d ρ' acc).bind (fun q => compR (lc2F g fc fi2 g2 fc2 fe own own2) (p.1.drop (i + 1)) q.2 q.1) = .ok rr from ecomp)
    obtain ⟨ρ1, e3, e4⟩ := bind_ok_inv e1
    obtain ⟨t, e5, e6⟩ := bind_ok_inv e4
    refine ⟨F2, A', _, d, r2, rx, Run.of_eq e3 fun σ2 H3 F3 A3 ag r3 n3 => ⟨wipe_agree ag, F3, A3, ρ1, r3, Run.of_eq e5 fun H4 F4 A4 m4 => ?_⟩⟩
    have nA : Nxt H1 F1 (Own A1) H4 F4 (Own A4) := ((n'.trans nn').trans n3).trans m4.nx0
    have kp4 : Kept Dp (ps.map (·.1)) H4 F4 A4 := ((kp.step nn').step n3).step m4.nx0
    have s4 : Sub F' F4 := k2.trans (n3.fro.trans m4.nx0.fro)
    obtain ⟨tb, ρt⟩ := t
    have l2 : σ2.length = p.2.length := by rw [ag.len, wipe_length, ← md.rep.len]
    have lt : ρt.length = p.2.length := by rw [m4.rep.len, l2]
    cases tb with
    | false =>
      show Pv (i + 1) H4
      replace e6 : (Except.ok (acc, ρt) : R (List D × Env)) = .ok p1 := e6
      cases e6
      obtain ⟨A5, r5, o5⟩ := m4.rep.again ag
      exact ⟨F4, A5, ρt, acc, ps, s.trans s4, r5, lt, ⟨kp4.at_, kp4.fr, fun z => kp4.nown (o5 _ z)⟩, eacc, fun q hq => (hps q hq).mono s4, nA.weak (fun _ z => z) fun a z => .inl (o5 a z), e2⟩
    | true =>
      replace e6 : (fi2 ρt).bind (fun p2 => compR (lcF g2 fc2 fe own2) p2.1 p2.2 acc) = .ok p1 := e6
      obtain ⟨p2, e7, e8⟩ := bind_ok_inv e6
      obtain ⟨acc1, ρr⟩ := p1
      refine ⟨F4, A4, ρt, m4.rep, Run.of_eq e7 fun J1 H5 F5 A5 md1 ⟨G1, gG1, w1⟩ => ?_⟩
      have n5 := nA.trans md1.nx0
      have kp5 := kp4.step md1.nx0
      have s5 : Sub F' F5 := s4.trans md1.nx0.fro
      have lp2 : p2.2.length = p.2.length := by rw [md1.rep.len, l2]
      let Pu : Nat → Hp → Prop := fun j H' => ∃ F' A' ρ' acc, ∃ ps : List (V × D), Sub F5 F' ∧ Rep c.X Γ (unset ρ' own2) (wipe σ2 own2) H' F' A' ∧ ρ'.length = p.2.length ∧ Kept Dp (ps.map (·.1)) H' F' A' ∧ acc = ps.map (·.2) ∧ (∀ q ∈ ps, RD c.X F' q.1 q.2) ∧
        Nxt H1 F1 (Own A1) H' F' (Own A') ∧ compR (lcF g2 fc2 fe own2) (p2.1.drop j) ρ' acc = .ok (acc1, ρr)
      refine walk_turns w1 (R := fun x H' Nx => tG c never (Zb own2) Γ Γ g2 x (wipe σ2 own2) H' fun σ3 H5 => wipe σ3 own2 = wipe σ2 own2 ∧ tX2 c never Γ pc2 fc2 σ3 H5 fun b H6 =>
        if b = true then tX c never Γ ⟨true, pe, 0⟩ fe σ3 H6 fun y H7 => ∃ acc, H7 Dp = some (HO.lst acc) ∧ acc.length < sizeLine ∧ Nx (upd H7 Dp (HO.lst (acc ++ [y]))) else Nx H6) Pu ?_ (fun i H' _ ⟨F', A', ρ', acc, ps, s, r', _⟩ => gG1 H' (s.trans r'.sub)) ?_ ?_
      · obtain ⟨A6, r6, o6⟩ := md1.rep.unset own2
        refine ⟨F5, A6, p2.2, acc, ps, Sub.refl _, r6.swap (wipe_length _ _) fun i d e => wipe_out (unset_get e).1, lp2, ⟨kp5.at_, kp5.fr, fun z => kp5.nown (o6 _ z)⟩, eacc, fun q hq => (hps q hq).mono s5, n5.weak (fun _ z => z) fun a z => .inl (o6 a z), e8⟩
      · intro j x Hc H2 hlt ⟨F', A', ρ', acc, ps, s, r', hlen, kp, eacc, hps, n', ecomp⟩ hy
        obtain ⟨d, hd⟩ : ∃ d, p2.1[j]? = some d := ⟨p2.1[j], List.getElem?_eq_getElem hlt⟩
        obtain ⟨F2, k1, k2, k3, k4, rx⟩ := hy F' s r'.sub d hd
        have nn : Nxt Hc F' (fun _ => False) H2 F2 (fun _ => False) := ⟨fun a o e _ => k1 a o e, k2, fun a e => (k4 a e).elim .inl fun z => .inr (.inr z), fun _ z => z.elim⟩
        have nn' : Nxt Hc F' (Own A') H2 F2 (Own A') := nn.weak (fun _ z => z.elim) fun a z => .inr z
        have r2 := r'.step nn k3 fun _ _ z => z
        have ed : p2.1.drop j = d :: p2.1.drop (j + 1) := by
          rw [List.drop_eq_getElem_cons hlt]
          congr 1
          have := List.getElem?_eq_getElem hlt
          rw [hd] at this
          exact (Option.some.inj this).symm
        rw [ed] at ecomp
        obtain ⟨p1, e1, e2⟩ := bind_ok_inv (show ((lcF g2 fc2 fe own2) d ρ' acc).bind (fun q => compR (lcF g2 fc2 fe own2) (p2.1.drop (j + 1)) q.2 q.1) = .ok (acc1, ρr) from ecomp)
        obtain ⟨ρ1, e3, e4⟩ := bind_ok_inv e1
        obtain ⟨t, e5, e6⟩ := bind_ok_inv e4
        refine ⟨F2, A', _, d, r2, rx, Run.of_eq e3 fun σ3 H3 F3 A3 ag2 r3 n3 => ⟨wipe_agree ag2, F3, A3, ρ1, r3, Run.of_eq e5 fun H4 F4 A4 m4 => ?_⟩⟩
        have nA : Nxt H1 F1 (Own A1) H4 F4 (Own A4) := ((n'.trans nn').trans n3).trans m4.nx0
        have kp4 : Kept Dp (ps.map (·.1)) H4 F4 A4 := ((kp.step nn').step n3).step m4.nx0
        have s4 : Sub F' F4 := k2.trans (n3.fro.trans m4.nx0.fro)
        obtain ⟨tb, ρt⟩ := t
        have l3 : σ3.length = p.2.length := by rw [ag2.len, wipe_length, l2]
        have lt : ρt.length = p.2.length := by rw [m4.rep.len, l3]
        cases tb with
        | false =>
          show Pu (j + 1) H4
          replace e6 : (Except.ok (acc, ρt) : R (List D × Env)) = .ok p1 := e6
          cases e6
          obtain ⟨A5, r5, o5⟩ := m4.rep.again ag2
          exact ⟨F4, A5, ρt, acc, ps, s.trans s4, r5, lt, ⟨kp4.at_, kp4.fr, fun z => kp4.nown (o5 _ z)⟩, eacc, fun q hq => (hps q hq).mono s4, nA.weak (fun _ z => z) fun a z => .inl (o5 a z), e2⟩
        | true =>
          show tX c never Γ { own := true, pu := pe, lv := 0 } fe σ3 H4 fun y H4 => ∃ acc, H4 Dp = some (HO.lst acc) ∧ acc.length < sizeLine ∧ Pu (j + 1) (upd H4 Dp (HO.lst (acc ++ [y])))
          replace e6 : (fe ρt).bind (push acc) = .ok p1 := e6
          obtain ⟨q, e7, e8⟩ := bind_ok_inv e6
          unfold push at e8
          split at e8 <;> cases e8
          rename_i hacc
          refine ⟨F4, A4, ρt, m4.rep, Run.of_eq e7 fun y H5 F5 A5 B o5 => ⟨ps.map (·.1), (kp4.step o5.nx0).at_, by rw [← line_lim]; rw [eacc] at hacc; simpa using hacc, ?_⟩⟩
          have kp5 := kp4.step o5.nx0
          have n6 : Nxt H5 F5 (fun a => a = Dp) (upd H5 Dp (.lst (ps.map (·.1) ++ [y]))) F5 (fun a => a = Dp) := ⟨fun a u hu hn => by rw [upd_ne hn]; exact hu, Sub.refl _, fun a z => .inl z, fun a z => .inl z⟩
          have sub6 : Sub F5 (upd H5 Dp (.lst (ps.map (·.1) ++ [y]))) := fun a u hu => by
            have : a ≠ Dp := fun e => by rw [e, kp5.fr] at hu; cases hu
            rw [upd_ne this]; exact o5.rep.sub a u hu
          have r6 : Rep c.X Γ q.2 σ3 (upd H5 Dp (.lst (ps.map (·.1) ++ [y]))) F5 A5 := o5.rep.step n6 sub6 fun a z e => kp5.nown (e ▸ z)
          obtain ⟨A7, r7, o7⟩ := r6.again ag2
          refine ⟨F5, A7, q.2, acc ++ [q.1], ps ++ [(y, q.1)], s.trans (s4.trans o5.nx0.fro), r7, by rw [o5.rep.len, l3], ⟨by rw [List.map_append]; exact upd_same, kp5.fr, fun z => kp5.nown (o7 _ z)⟩, by rw [eacc, List.map_append]; rfl, fun z hz => ?_, ?_, e2⟩
          · rcases List.mem_append.mp hz with hz | hz
            · exact (hps z hz).mono (s4.trans o5.nx0.fro)
            · rw [List.mem_singleton.mp hz]; exact o5.ot.2
          · have nB := nA.trans o5.nx0
            refine ⟨fun a u hu hn => ?_, nB.fro, nB.new, fun a z => nB.own a (o7 a z)⟩
            have : a ≠ Dp := fun e => by rw [e, hD] at hu; cases hu
            rw [upd_ne this]; exact nB.keep a u hu hn
      · intro He ⟨F', A', ρ', acc, ps, s', r', hlen, kp, eacc, hps, n', ecomp⟩
        rw [List.drop_length] at ecomp
        replace ecomp : (Except.ok (acc, ρ') : R (List D × Env)) = .ok (acc1, ρr) := ecomp
        cases ecomp
        obtain ⟨A6, r6, o6⟩ := r'.unset own
        rw [unset_unset hsub] at r6
        have ag' := wipe_agree ag
        refine ⟨F', A6, ρr, acc1, ps, (s.trans s5).trans s', r6.swap (by rw [wipe_length, wipe_length, l2]; exact md.rep.len.symm) fun i d e => ?_, hlen, ⟨kp.at_, kp.fr, fun z => kp.nown (o6 _ z)⟩, eacc, hps, n'.weak (fun _ z => z) fun a z => .inl (o6 a z), e2⟩
        have m : i ∉ own := (unset_get e).1
        rw [← ag', wipe_out m, wipe_out fun z => m (hsub i z)]
  · intro He ⟨F', A', ρ', acc, ps, s, r', hlen, kp, eacc, hps, n', ecomp⟩
    rw [List.drop_length] at ecomp
    replace ecomp : (Except.ok (acc, ρ') : R (List D × Env)) = .ok rr := ecomp
    cases ecomp
    have hall := md.nx0.trans n'
    have dis : ∀ i, i ∈ own → A' i = [] := fun i hi => r'.non i fun d z => (unset_get z).1 hi
    refine hq (.ref Dp) He F' A' [Dp] ⟨⟨⟨r'.sub, ?_, fun i d hi => ?_, fun i hi => ?_, r'.nd, r'.dis⟩, ?_, fun z => absurd z (by simp)⟩, ?_, fun _ => by simp, fun _ a ha z => kp.nown (List.mem_singleton.mp ha ▸ z)⟩
    · rw [back_length, hlen]; exact md.rep.len
    · by_cases m : i ∈ own
      · have hil : i < p.2.length := by
          have := (List.getElem?_eq_some_iff.mp hi).1
          rw [back_length, hlen] at this; exact this
        rw [back_in m (by rw [hlen]; exact hil) hil] at hi
        obtain ⟨v, ev, o⟩ := md.rep.val i d hi
        refine ⟨v, ev, ?_⟩
        rw [h0 i m] at o ⊢
        exact ⟨dis i m, o.2.mono s⟩
      · rw [back_out m] at hi
        obtain ⟨v, ev, o⟩ := r'.val i d (by rw [unset_out m]; exact hi)
        rw [wipe_out m] at ev
        exact ⟨v, ev, o⟩
    · by_cases m : i ∈ own
      · exact dis i m
      · exact r'.non i fun d z => hi d (by rw [back_out m]; rw [unset_out m] at z; exact z)
    · exact ⟨hall.keep, hall.fro, hall.new, fun a z => z.elim (hall.own a) fun z => by rw [List.mem_singleton.mp z.2]; exact md.nx0.free hD⟩
    · refine ⟨Dp, ps.map fun q => (q.1, q.2, []), rfl, by rw [eacc, List.map_map]; rfl, by rw [kp.at_, List.map_map]; rfl, kp.fr, ?_, fun q hq' => ?_⟩
      · rw [List.map_map]
        have : (List.map ((fun x : V × D × List Addr => x.2.2) ∘ fun x : V × D => (x.1, x.2, [])) ps).flatten = [] := by
          simp [List.flatten_eq_nil_iff]
        rw [this]
      · obtain ⟨z, hz, rfl⟩ := List.mem_map.mp hq'
        exact ⟨rfl, hps z hz⟩
/-- name = [..] of two walks, whose value is stored ahead of its end -/
theorem ss_setLc2 {own own2 : List Nat} {sm : Stmt} (nm : NmAt Y Γ Z i x) (h0 : ∀ i ∈ own, Γ.getD i 0 = 0) (hsub : ∀ i ∈ own2, i ∈ own)
    (h : PS Y sm (tAsg (tLc2 (tI c W Γ pi fi) (tG c never (Zb own) Γ Γ g) (tX2 c never Γ pc fc) (tI c never Γ pi2 fi2) (tG c never (Zb own2) Γ Γ g2) (tX2 c never Γ pc2 fc2) (tX c never Γ ⟨true, pe, 0⟩ fe) own own2) (gName i))) {m : Nat} (hm : m ≤ 1) :
    SS c W Z Γ (Γ.set i m) Y sm (fun ρ => ((fi ρ).bind fun p => (nox (compR (lc2F g fc fi2 g2 fc2 fe own own2) p.1 p.2 [])).bind fun r => .ok (.lst r.1, back p.2 r.2 own)).bind fun p => .ok (.nx (st p.2 i p.1))) :=
  PS.imp h fun N σ H ⟨F, A, ρ, r, h⟩ => lc2_go h0 hsub (tX.inS (ka := ⟨true, false, 1⟩) (g := fun d ρ1 => (.ok (.nx (st ρ1 i d)) : R Fl)) r h fun x H1 F1 A1 d ρ1 B o h1 => by
    replace h1 : EndS c Z (Γ.set i m) N σ H F A (.nx (st ρ1 i d)) := h1
    obtain ⟨F2, B2, o2⟩ := o.low (k' := ⟨true, false, m⟩) rfl hm fun z => z
    obtain ⟨A', r', o'⟩ := o2.rep.store nm.lv o2.ot (o2.nd rfl) (o2.dj rfl)
    exact h1 _ H1 F2 A' (.set nm.mm) r' (o2.mid.nx.weak (fun _ h => h) fun a z => .inl ((o' a z).imp (fun z => z) fun z => ⟨rfl, z⟩)))
end
end Pz
end
section
set_option Elab.async false
set_option linter.all false
/-! The checker: does the IR tell the text? -/
namespace Pz
open PySem PySem.Spec PyProof.Rows L2

structure Fi where
  id : Nat
  np : Nat
  io : List Nat
  sg : Sg
/-- the text's defs, the built-in names that the text doesn't bind, how calls with keywords bind, the constants -/
structure Tb where
  fns : List (Str × Fi)
  bl : List Str
  kwl : KwL
  gl : List (Str × Nat × D)
  ex : List (Str × Nat)
/-- what the checker knows: the names of the slots, the scope's names, the text's defs, the built-in names that the text doesn't bind, the slots that own what they hold -/
structure Ck where
  N : List Str
  sc : List (Str × NameKind)
  t : Tb
  mv : List Nat
abbrev Ck.fns (K : Ck) : List (Str × Fi) := K.t.fns
abbrev Ck.bl (K : Ck) : List Str := K.t.bl
def Ck.sg (K : Ck) (f : Nat) : Sg := match K.fns.find? fun p => p.2.id == f with
  | some p => p.2.sg
  | none => ⟨[], 0⟩
def nm (K : Ck) (i : Nat) (x : Str) : Bool := decide (K.N[i]? = some x) && visB K.sc x && !(x == ("__debug__" : Str)) && !(x == ("__classdict__" : Str))
def nmL (K : Ck) (M : Nat → Bool) (Γ : List Nat) (i : Nat) (x : Str) : Bool := decide (K.N[i]? = some x) && locB K.sc x && decide (i < Γ.length) && M i
def opB : Bop → Operator → Bool
  | .add, .Add | .cat, .Add | .sub, .Sub | .mul, .Mult | .rep, .Mult | .fdiv, .FloorDiv | .mod, .Mod | .pow, .Pow => true
  | _, _ => false
def copB : Cop → CmpOp → Bool
  | .eq, .Eq | .ne, .NotEq | .lt, .Lt | .le, .LtE | .gt, .Gt | .ge, .GtE | .isin, .In | .notin, .NotIn | .is, .Is | .isnot, .IsNot => true
  | _, _ => false
mutual
/-- an expression's kind -/
def kd (K : Ck) (Γ : List Nat) : T → Kd
  | .v i => ⟨Γ.getD i 0 == 0, true, Γ.getD i 0⟩
  | .non | .tt | .ff | .int _ | .str _ => kA true
  | .bin op a b => match op with
    | .add => ⟨true, (kd K Γ a).pu && (kd K Γ b).pu, 0⟩
    | .cat | .rep => ⟨true, (kd K Γ a).pu && (kd K Γ b).pu, 1⟩
    | _ => kA ((kd K Γ a).pu && (kd K Γ b).pu)
  | .neg a | .not a => kA (kd K Γ a).pu
  | .and a b | .or a b => ⟨true, (kd K Γ a).pu && (kd K Γ b).pu, 0⟩
  | .cmp _ a b => kA ((kd K Γ a).pu && (kd K Γ b).pu)
  | .ite c a b => ⟨true, (kd K Γ c).pu && ((kd K Γ a).pu && (kd K Γ b).pu), 0⟩
  | .call f as io => ⟨true, io.isEmpty && puA K Γ as, (K.sg f).rl⟩
  | .idx a b => ⟨true, (kd K Γ a).pu && (kd K Γ b).pu, 0⟩
  | .tup as => ⟨true, puA K Γ as, 0⟩
  | .lst _ as => ⟨true, puA K Γ as, 1⟩
  | .lc .. => ⟨true, false, 1⟩
  | .lc2 .. => ⟨true, false, 1⟩
  | .isi a _ => kA (kd K Γ a).pu
  | .chain _ _ a b c => kA (((kd K Γ a).pu && (kd K Γ b).pu) && (kd K Γ c).pu)
  | .bi b as => (match b with
    | .tuple | .min => ⟨true, puA K Γ as, 0⟩
    | .list | .sorted => ⟨true, puA K Γ as, 1⟩
    | _ => kA (puA K Γ as))
  | .me m o as => (match m with
    | .join => kA (puA K Γ as)
    | _ => kA (kd K Γ o).pu)
  | .glob _ => kA true
  | .pop _ _ => ⟨true, false, 0⟩
  | .callk f as _ _ => ⟨true, puA K Γ as, (K.sg f).rl⟩
  | .rev a => ⟨true, (kd K Γ a).pu, 1⟩
  | .dct _ vs => ⟨true, puA K Γ vs, 1⟩
  | .slc a lo hi => ⟨true, (kd K Γ a).pu && (kd K Γ lo).pu && (kd K Γ hi).pu, 0⟩
  | .attr a _ => ⟨true, (kd K Γ a).pu, 0⟩
  | .fnv _ => kA true
  | .callv _ as => ⟨true, puA K Γ as, 0⟩
  | _ => ⟨false, false, 0⟩
/-- an argument list changes nothing -/
def puA (K : Ck) (Γ : List Nat) : T → Bool
  | .nil => true
  | .cons a b => (kd K Γ a).pu && puA K Γ b
  | _ => false
end
/-- what is lent at an argument's place -/
def lsOf (io : List (Nat × Nat)) : Nat → Nat → List (Option Nat)
  | _, 0 => []
  | k, n + 1 => io.lookup k :: lsOf io (k + 1) n
mutual
/-- the levels behind a target -/
def gG : T → List Nat → List Nat
  | .v i, Γ => Γ.set i 0
  | .tup as, Γ => gGs as Γ
  | _, Γ => Γ
def gGs : T → List Nat → List Nat
  | .cons a b, Γ => gGs b (gG a Γ)
  | _, Γ => Γ
end
/-- an own slot's names: the scope of a comprehension -/
def ownL (K : Ck) (own : List Nat) : List (Str × Nat) := own.filterMap fun i => (K.N[i]?).map fun x => (x, i)
def blkB (K : Ck) (scope : Scope) (own : List Nat) : Bool :=
  decide (scope.kind = .function) && (scope.names.all fun y => decide (scope.names.lookup y.1 = some y.2)) && (scope.names.all fun y => match y.2 with
    | .free => (match K.sc.lookup y.1 with | some .cell | some .free => true | _ => false)
    | .local | .cell => decide (y.1 ∈ (ownL K own).map (·.1)) || decide (y.1 ∉ K.N)
    | _ => true) && decide ((ownL K own).map (·.2) = own)
abbrev noM : Nat → Bool := fun _ => true
def noSlc : Expr → Bool
  | .Slice .. => false
  | _ => true
instance : DecidableEq Sg := fun a b => if h : a.pl = b.pl ∧ a.rl = b.rl then .isTrue (by cases a; cases b; obtain ⟨rfl, rfl⟩ := h; rfl) else .isFalse fun e => h ⟨by rw [e], by rw [e]⟩
def ioB (Γ : List Nat) (io : List (Nat × Nat)) (fi : Fi) : Bool := match io, fi.io with
  | [], [] => (List.range fi.sg.pl.length).all fun i => fi.sg.pl.getD i 0 == 0
  | [(j, i)], [j'] => decide (j = j') && decide (j < fi.np) && decide (fi.sg.pl.getD j 0 = Γ.getD i 0) && ((List.range fi.sg.pl.length).all fun k => k == j || fi.sg.pl.getD k 0 == 0)
  | _, _ => false
def callB (K : Ck) (Γ : List Nat) (f : Nat) (io : List (Nat × Nat)) (x : Str) (n : Nat) (fi : Fi) : Bool :=
  decide (fi.id = f) && glB K.sc x && !(x == ("__debug__" : Str)) && decide (fi.np = n + 1) && decide (K.sg f = fi.sg) && ioB Γ io fi
def callZ (K : Ck) (f : Nat) (io : List (Nat × Nat)) (x : Str) (as : T) : Bool := match as, K.fns.lookup x with
  | .nil, some fi => decide (fi.id = f) && glB K.sc x && !(x == ("__debug__" : Str)) && decide (fi.np = 0) && decide (K.sg f = fi.sg) && (io.isEmpty && fi.io.isEmpty && (List.range fi.sg.pl.length).all fun i => fi.sg.pl.getD i 0 == 0)
  | _, _ => false
/-- a built-in name that is told -/
def bn (K : Ck) (x y : Str) : Bool := decide (x = y) && glB K.sc x && decide (x ∈ K.bl)
def tyB (K : Ck) (t : Ty) (x : Str) : Bool := (match t with
  | .int => decide (x = "int") | .bool => decide (x = "bool") | .str => decide (x = "str") | .list => decide (x = "list") | .tuple => decide (x = "tuple") | .dict => decide (x = "dict") | .cls _ => false) && glB K.sc x && decide (x ∈ K.bl)
/-- an own error's class -/
def exB (K : Ck) (t : Ty) (x : Str) : Bool := match t with
  | .cls j => glB K.sc x && !(x == ("__debug__" : Str)) && K.t.ex.any fun p => decide (p.1 = x) && decide (p.2 = j)
  | _ => false
def pl0 (fi : Fi) : Bool := fi.io.isEmpty && (List.range fi.sg.pl.length).all fun i => fi.sg.pl.getD i 0 == 0
def bi1 : Bi → Option Str
  | .len => some "len" | .int => some "int" | .abs => some "abs" | .sum => some "sum" | .repr => some "repr" | .str => some "str" | .all => some "all" | .any => some "any" | _ => none
/-- .. whose argument is frozen -/
def bi1f : Bi → Option Str
  | .tuple => some "tuple" | .min => some "min" | .list => some "list" | .sorted => some "sorted" | _ => none
def isTup : Expr → Bool
  | .Tuple .. => true
  | _ => false
/-- walks of pairs want a tuple as target -/
def tgB : T → Expr → Bool
  | .enum _, e => isTup e
  | .zip _ _, e => isTup e
  | _, _ => true
def keyL : T → List Key
  | .cons a r => (match a with | .str s => Sum.inr ⟨s.toArray⟩ | .int i => Sum.inl i | _ => Sum.inl 0) :: keyL r
  | _ => []
/-- a display's key -/
def keyB : T → Expr → Bool
  | .str s, .Constant (.str x) _ _ => decide (x = ⟨s.toArray⟩)
  | .int i, .Constant (.int j) _ _ => decide (i = j)
  | _, _ => false
def bi2 : Bi → Option Str
  | .max2 => some "max" | .min2 => some "min" | _ => none
def noCall : Expr → Bool
  | .Call .. => false
  | _ => true
def len12 : List Expr → Bool
  | [_] => true
  | [_, _] => true
  | _ => false
def lentB (K : Ck) (i : Nat) (a : T) (e : Expr) : Bool := match a, e with
  | .v i', .Name x _ => decide (i' = i) && nm K i x
  | _, _ => false
mutual
/-- m: as a test -/
def okX (m : Bool) (K : Ck) (Γ : List Nat) : T → Expr → Bool
  | .v i, e => (match e with
    | .Name x _ => nm K i x | _ => false)
  | .non, e => (match e with
    | .Constant c _ _ => (match c with | .none => true | _ => false) | _ => false)
  | .tt, e => (match e with
    | .Constant c _ _ => (match c with | .bool b => b | _ => false) | _ => false)
  | .ff, e => (match e with
    | .Constant c _ _ => (match c with | .bool b => !b | _ => false) | _ => false)
  | .int i, e => (match e with
    | .Constant c _ _ => (match c with | .int j => decide (j = i) | _ => false) | _ => false)
  | .str s, e => (match e with
    | .Constant c _ _ => (match c with | .str x => decide (x = ⟨s.toArray⟩) | _ => false) | _ => false)
  | .bin op a b, e => (match e with
    | .BinOp l o r _ => opB op o && okX false K Γ a l && okX false K Γ b r && ((kd K Γ a).own || (kd K Γ b).pu) &&
      (match op with
      | .add => (kd K Γ a).own && (kd K Γ b).own
      | .cat => decide ((kd K Γ a).lv ≤ 1) && decide ((kd K Γ b).lv ≤ 1)
      | .rep => (kd K Γ a).lv == 1
      | _ => true) | _ => false)
  | .neg a, e => (match e with
    | .UnaryOp o x _ => (match o with | .USub => !m && okX false K Γ a x | _ => false) | _ => false)
  | .not a, e => (match e with
    | .UnaryOp o x _ => (match o with | .Not => okX m K Γ a x | _ => false) | _ => false)
  | .and a b, e => (match e with
    | .BoolOp o vs p => (match o, vs with
      | .And, [x, y] => okX m K Γ a x && okX m K Γ b y && (m || ((kd K Γ a).own && (kd K Γ b).own))
      | .And, x :: y :: z :: r => okX m K Γ a x && okX m K Γ b (.BoolOp .And (y :: z :: r) p) && (m || ((kd K Γ a).own && (kd K Γ b).own))
      | _, _ => false) | _ => false)
  | .or a b, e => (match e with
    | .BoolOp o vs p => (match o, vs with
      | .Or, [x, y] => okX m K Γ a x && okX m K Γ b y && (m || ((kd K Γ a).own && (kd K Γ b).own))
      | .Or, x :: y :: z :: r => okX m K Γ a x && okX m K Γ b (.BoolOp .Or (y :: z :: r) p) && (m || ((kd K Γ a).own && (kd K Γ b).own))
      | _, _ => false) | _ => false)
  | .cmp op a b, e => (match e with
    | .Compare l os rs _ => (match os, rs with
      | [o], [r] => copB op o && okX false K Γ a l && okX false K Γ b r && noSet r && ((kd K Γ a).own || (kd K Γ b).pu)
      | _, _ => false) | _ => false)
  | .ite c a b, e => (match e with
    | .IfExp t x y _ => !m && okX true K Γ c t && okX false K Γ a x && okX false K Γ b y && (kd K Γ a).own && (kd K Γ b).own | _ => false)
  | .call f as io, e => (match e with
    | .Call fn es kw _ => (match fn, es, kw with
      | .Name x _, e₁ :: es, [] => (match K.fns.lookup x with
        | some fi => callB K Γ f io x es.length fi && okA K Γ io 0 as (e₁ :: es) && (noStar e₁ && es.all noStar)
        | none => false)
      | .Name x _, [], [] => callZ K f io x as
      | _, _, _ => false) | _ => false)
  | .idx a b, e => (match e with
    | .Subscript o s _ => okX false K Γ a o && okX false K Γ b s && ((kd K Γ a).own || ((kd K Γ b).pu && decide ((kd K Γ a).lv ≤ 1))) && plainI s | _ => false)
  | .tup as, e => (match e with
    | .Tuple es _ _ => okA K Γ [] 0 as es && decide (es.length ≤ 1000) | _ => false)
  | .lst n as, e => (match e with
    | .List es _ => okA K Γ [] 0 as es && decide (es.length ≤ 1000) | _ => false)
  | .lc el tg it c own, e => (match e with
    | .ListComp x gens scope _ => (match gens with
      | [g] => decide (g.is_async = 0) && okI K Γ it g.iter && tgB it g.target && noSet g.iter && blkB K scope own && (own.all fun i => Γ.getD i 0 == 0) &&
          okG (inOwn own) { K with sc := scope.names } Γ tg g.target && decide (gG tg Γ = Γ) && okC { K with sc := scope.names } Γ c g.ifs && okX false { K with sc := scope.names } Γ el x && (kd { K with sc := scope.names } Γ el).own
      | _ => false) | _ => false)
  | .lc2 el tg it c tg2 it2 c2 own own2, e => (match e with
    | .ListComp x gens scope _ => (match gens with
      | [g, g2] => decide (g.is_async = 0) && okI K Γ it g.iter && tgB it g.target && noSet g.iter && blkB K scope own && (own.all fun i => Γ.getD i 0 == 0) &&
          okG (inOwn own) { K with sc := scope.names } Γ tg g.target && decide (gG tg Γ = Γ) && okC { K with sc := scope.names } Γ c g.ifs && okX false { K with sc := scope.names } Γ el x && (kd { K with sc := scope.names } Γ el).own &&
          (decide (g2.is_async = 0) && okI { K with sc := scope.names } Γ it2 g2.iter && tgB it2 g2.target && noSet g2.iter && (own2.all fun i => decide (i ∈ own)) && okG (inOwn own2) { K with sc := scope.names } Γ tg2 g2.target && decide (gG tg2 Γ = Γ) && okC { K with sc := scope.names } Γ c2 g2.ifs)
      | _ => false) | _ => false)
  | .chain o1 o2 a b c, e => (match e with
    | .Compare l os rs _ => (match os, rs with
      | [p, q], [r, t] => copB o1 p && copB o2 q && okX false K Γ a l && okX false K Γ b r && okX false K Γ c t && decide (lastMarks [p, q] [r, t] = false) && ((kd K Γ a).own || (kd K Γ b).pu) && (kd K Γ b).own
      | _, _ => false) | _ => false)
  | .isi a ts, e => (match e with
    | .Call fn es kw _ => (match fn, es, kw, ts with
      | .Name f _, [x, .Name y _], [], [t] => bn K f "isinstance" && (tyB K t y || exB K t y) && noStar x && okX false K Γ a x
      | .Name f _, [x, .Tuple [.Name y _, .Name z _] _ _], [], [t, u] => bn K f "isinstance" && tyB K t y && tyB K u z && noStar x && okX false K Γ a x
      | _, _, _, _ => false) | _ => false)
  | .bi b as, e => (match e with
    | .Call fn es kw _ => (match fn, es, kw with
      | .Name f _, [x], [] => (match bi1 b with
        | some y => bn K f y && noStar x && (match as with
          | .cons a r => (match r with | .nil => okX false K Γ a x | _ => false)
          | _ => false)
        | none => (match bi1f b with
          | some y => bn K f y && noStar x && (match as with
            | .cons a r => (match r with | .nil => okX false K Γ a x && (kd K Γ a).own | _ => false)
            | _ => false)
          | none => false))
      | .Name f _, [x, y], [] => (match bi2 b with
        | some z => bn K f z && noStar x && noStar y && okA K Γ [] 0 as [x, y]
        | none => false)
      | _, _, _ => false) | _ => false)
  | .me m o as, e => (match e with
    | .Call fn es kw p => (match fn, es, kw, m, as with
      | .Attribute x at_ p1, [], [], .bitlen, .nil => decide (at_ = "bit_length") && noCall x && (p1.endLine == p.line) && okX false K Γ o x
      | .Attribute (.Constant (.str z) _ _) at_ p1, [x], [], .join, .cons b .nil => (match o with
        | .str s => decide (at_ = "join") && decide (z = ⟨s.toArray⟩) && noStar x && (p1.endLine == p.line) && okX false K Γ b x && (kd K Γ b).own
        | _ => false)
      | .Attribute x at_ p1, [.Name y _], [], .index, .cons (.v i) .nil => decide (at_ = "index") && noCall x && (p1.endLine == p.line) && okX false K Γ o x && nm K i y
      | _, _, _, _, _ => false) | _ => false)
  | .pop i a, e => (match e with
    | .Call fn es kw p => (match fn, es, kw with
      | .Attribute (.Name x _) at_ p1, [b], [] => decide (at_ = "pop") && nm K i x && decide (Γ.getD i 0 = 1) && noStar b && (p1.endLine == p.line) && okX false K Γ a b && (kd K Γ a).own
      | .Attribute (.Name x _) at_ p1, [], [] => (match a with
        | .int j => decide (at_ = "pop") && nm K i x && decide (Γ.getD i 0 = 1) && (p1.endLine == p.line) && decide (j = -1)
        | _ => false)
      | _, _, _ => false) | _ => false)
  | .attr a n, e => (match e with
    | .Attribute o at_ _ => decide (n = 0) && decide (at_ = "value") && noCall o && okX false K Γ a o && (kd K Γ a).own
    | _ => false)
  | .fnv f, e => (match e with
    | .Name x _ => glB K.sc x && !(x == ("__debug__" : Str)) && (match K.fns.lookup x with | some fi => decide (fi.id = f) && pl0 fi | none => false)
    | _ => false)
  | .callv i as, e => (match e with
    | .Call fn es kw _ => (match fn, es, kw with
      | .Name x _, e₁ :: es, [] => nm K i x && okA K Γ [] 0 as (e₁ :: es) && (noStar e₁ && es.all noStar)
      | _, _, _ => false) | _ => false)
  | .glob g, e => (match e with
    | .Name x _ => glB K.sc x && !(x == ("__debug__" : Str)) && (K.t.gl.any fun p => decide (p.1 = x) && p.2.1 == g) | _ => false)
  | .callk f as pm io, e => (match e with
    | .Call fn es kws _ => (match fn with
      | .Name x _ => (match K.fns.lookup x with
        | some fi => io.isEmpty && fi.io.isEmpty && decide (fi.id = f) && glB K.sc x && !(x == ("__debug__" : Str)) && decide (K.sg f = fi.sg) && decide (pm.length = fi.np) && ((List.range fi.sg.pl.length).all fun i => fi.sg.pl.getD i 0 == 0) &&
            (K.t.kwl.any fun q => decide (q.1 = x) && decide (q.2.1 = es.length) && decide (q.2.2.2 = pm) && kwNames kws q.2.2.1 && decide (kws.length = q.2.2.1.length)) && okAK K Γ as es kws
        | none => false)
      | _ => false) | _ => false)
  | .rev a, e => (match e with
    | .Subscript o sl _ => (match sl with
      | .Slice none none (some (.UnaryOp .USub (.Constant (.int 1) _ _) _)) _ => okX false K Γ a o && (kd K Γ a).own
      | _ => false) | _ => false)
  | .dct ks vs, e => (match e with
    | .Dict keys values _ => okP K Γ ks vs keys values && decide (keys.length ≤ 15) && decide ((keyL ks).Nodup)
    | _ => false)
  | .slc a lo hi, e => (match e with
    | .Subscript o sl _ => (match sl with
      | .Slice l u none _ => okX false K Γ a o && (kd K Γ a).own &&
          (match l with | none => isNonT lo | some x => !isNonT lo && okX false K Γ lo x) &&
          (match u with | none => isNonT hi | some x => !isNonT hi && okX false K Γ hi x)
      | _ => false) | _ => false)
  | _, _ => false
/-- a display's pairs -/
def okP (K : Ck) (Γ : List Nat) : T → T → List (Option Expr) → List Expr → Bool
  | ks, .nil, keys, values => (match ks, keys, values with | .nil, [], [] => true | _, _, _ => false)
  | ks, .cons v vs, keys, values => (match ks, keys, values with
    | .cons k ks, some ke :: keys, ve :: values => keyB k ke && okX false K Γ v ve && (kd K Γ v).own && okP K Γ ks vs keys values
    | _, _, _ => false)
  | _, _, _, _ => false
/-- positional arguments, then keywords -/
def okAK (K : Ck) (Γ : List Nat) : T → List Expr → List Keyword → Bool
  | .nil, es, kws => (match es, kws with | [], [] => true | _, _ => false)
  | .cons a b, es, kws => (match es with
    | e :: es => noStar e && okX false K Γ a e && (kd K Γ a).own && okAK K Γ b es kws
    | [] => (match kws with
      | k :: kws => okX false K Γ a k.value && (kd K Γ a).own && okAK K Γ b [] kws
      | [] => false))
  | _, _, _ => false
/-- a comprehension's tests -/
def okC (K : Ck) (Γ : List Nat) : T → List Expr → Bool
  | .nil, es => (match es with | [] => true | _ => false)
  | .cons a _, es => (match es with | [e] => okX true K Γ a e | _ => false)
  | _, _ => false
def okA (K : Ck) (Γ : List Nat) (io : List (Nat × Nat)) (k : Nat) : T → List Expr → Bool
  | .nil, es => (match es with | [] => true | _ => false)
  | .cons a b, es => (match es with
    | e :: es => noStar e && (match io.lookup k with
      | some i => lentB K i a e
      | none => okX false K Γ a e && (kd K Γ a).own) && okA K Γ io (k + 1) b es
    | [] => false)
  | _, _ => false
def okI (K : Ck) (Γ : List Nat) : T → Expr → Bool
  | .rng as, e => (match e with
    | .Call fn es kw _ => (match fn, kw with
      | .Name x _, [] => decide (x = "range") && glB K.sc x && decide (x ∈ K.bl) && okA K Γ [] 0 as es && len12 es && es.all noStar
      | _, _ => false) | _ => false)
  | .wlk a, e => okX false K Γ a e && (kd K Γ a).own
  | .enum a, e => (match e with
    | .Call fn es kw _ => (match fn, es, kw with
      | .Name x _, [y], [] => bn K x "enumerate" && noStar y && okX false K Γ a y && (kd K Γ a).own
      | _, _, _ => false) | _ => false)
  | .zip a b, e => (match e with
    | .Call fn es kw _ => (match fn, es, kw with
      | .Name x _, [y, z], [] => bn K x "zip" && noStar y && noStar z && okX false K Γ a y && (kd K Γ a).own && okX false K Γ b z && (kd K Γ b).own
      | _, _, _ => false) | _ => false)
  | _, _ => false
/-- a target -/
def okG (M : Nat → Bool) (K : Ck) (Γ : List Nat) : T → Expr → Bool
  | .v i, e => (match e with
    | .Name x _ => nmL K M Γ i x | _ => false)
  | .tup as, e => (match e with
    | .Tuple es _ _ => okGs M K Γ as es && es.all noStar && decide (lenT as = es.length) | _ => false)
  | .idx a b, e => (match a, e with
      | .v i, .Subscript o s _ => (match o with | .Name x _ => nm K i x && decide (Γ.getD i 0 = 1) && okX false K Γ b s && noSlc s | _ => false)
      | _, _ => false)
  | _, _ => false
def okGs (M : Nat → Bool) (K : Ck) (Γ : List Nat) : T → List Expr → Bool
  | .nil, es => (match es with | [] => true | _ => false)
  | .cons a b, es => (match es with | e :: es => noStar e && okG M K Γ a e && okGs M K (gG a Γ) b es | [] => false)
  | _, _ => false
end
end Pz
end
section
set_option Elab.async false
set_option linter.all false
/-! The checker is right: expressions. -/
namespace Pz
open PySem PySem.Spec PyProof.Rows L2

/-- what the text's names stand for -/
structure Bd (c : Cf) (P : Program) (w : World) (mg : Str → Option Value) (base : Heap) (k : Nat) (N : List Str) (t : Tb) (C : Cfg) : Prop where
  fn : ∀ x fi, t.fns.lookup x = some fi → ∀ W Y sc, Scp c P w mg base k N sc W Y → FnAt c Y t.kwl x fi.np fi.io fi.sg (C.call fi.id)
  bl : ∀ x, x ∈ t.bl → mg x = none
  ex : ErrT c P mg t.ex
  fv : ∀ W Y sc, Scp c P w mg base k N sc W Y → FvAt c Y C.call
  fnv : ∀ x fi, t.fns.lookup x = some fi → pl0 fi = true → ∃ a, c.X.fa fi.id = some a ∧ mg x = some (.ref a)
  gl : ∀ x g d, (x, g, d) ∈ t.gl → C.glob g = d ∧ ((∃ i tk, d = .int i ∧ mg x = some (.int i tk)) ∨ ∃ z tk, d = .str z ∧ mg x = some (.str ⟨z.toArray⟩ tk))

section
variable {c : Cf} {P : Program} {w : World} {mg : Str → Option Value} {base : Heap} {k : Nat} {N : List Str} {sc : List (Str × NameKind)} {W : WX} {Y : Cx} {C : Cfg} {K : Ck} {Γ : List Nat} {i : Nat} {x : Str}
theorem nm_at (s : Scp c P w mg base k K.N K.sc W Y) (h : nm K i x = true) : Y.N[i]? = some x ∧ Vis Y.env.scope x ∧ (x == ("__debug__" : Str)) = false ∧ (x == ("__classdict__" : Str)) = false := by
  unfold nm at h
  simp only [Bool.and_eq_true, decide_eq_true_eq, Bool.not_eq_true'] at h
  exact ⟨by rw [s.eN]; exact h.1.1.1, s.vis h.1.1.2, h.1.2, h.2⟩
/-- a plain expression, as a value or as a test -/
def isBoolE : Expr → Bool
  | .BoolOp .. => true
  | _ => false
def Both (c : Cf) (W : WX) (Γ : List Nat) (kk : Kd) (Y : Cx) (e : Expr) (m : Bool) (f : Env → R (D × Env)) : Prop :=
  (m = false → SX c W Γ kk Y e f) ∧ (m = true → SC c W Γ kk.pu Y e (truF f) ∧ (isBoolE e = true → PW Y e (tX2 c W Γ kk.pu (truF f))))
theorem Both.plain {kk : Kd} {e : Expr} {m : Bool} {f : Env → R (D × Env)} (cx : Ctx c W Y) (h : SX c W Γ kk Y e f) (hp : plainT e = true) : Both c W Γ kk Y e m f :=
  ⟨fun _ => h, fun _ => ⟨sc_val cx h (plain_true hp), fun z => by cases e <;> first | (cases z; done) | (cases hp; done)⟩⟩
theorem Both.val {kk : Kd} {e : Expr} {f : Env → R (D × Env)} (h : SX c W Γ kk Y e f) : Both c W Γ kk Y e false f := ⟨fun _ => h, fun z => by cases z⟩
/-- own values go down to frozen ones -/
theorem SX.fz {kk : Kd} {e : Expr} {f : Env → R (D × Env)} (h : SX c W Γ kk Y e f) (ho : kk.own = true) : SX c W Γ ⟨true, kk.pu, 0⟩ Y e f := sx_low h ho (Nat.zero_le _)
theorem opB_cases {op : Bop} {o : Operator} (h : opB op o = true) : (op = .add ∧ o = .Add) ∨ (op = .cat ∧ o = .Add) ∨ (op = .sub ∧ o = .Sub) ∨ (op = .mul ∧ o = .Mult) ∨ (op = .rep ∧ o = .Mult) ∨ (op = .fdiv ∧ o = .FloorDiv) ∨ (op = .mod ∧ o = .Mod) ∨ (op = .pow ∧ o = .Pow) := by
  cases op <;> cases o <;> first | (cases h; done) | simp
theorem own_or {a b : Kd} (h : (a.own || b.pu) = true) : a.own = true ∨ b.pu = true := by simpa using h
theorem cmp_all {op : Cop} {o : CmpOp} (h : copB op o = true) (cx : Ctx c W Y) (n m : Nat) : CmpR c Y o n m (cmpB op) := by
  cases op <;> cases o <;> first | (cases h; done) | skip
  · exact cmp_eq cx
  · exact cmp_ne cx
  · exact cmp_lt cx
  · exact cmp_le cx
  · exact cmp_gt cx
  · exact cmp_ge cx
  · exact cmp_in cx
  · exact cmp_notin cx
  · exact cmp_is
  · exact cmp_isnot
/-- a block's scope -/
theorem Scp.blk (s : Scp c P w mg base k K.N K.sc W Y) (s0 : Shared) (H0 : Hp) (scope : Scope) (Ca : Addr) (cl : List (Str × Addr)) (fp : List Addr) : Scp c P w mg base k K.N scope.names never (Y.blk s0 H0 scope (compEnvC scope cl Ca Y.env) fp) where
  K := s.K
  tk := fun u s' ⟨a, B, sI, pins, σ, H, cls, d, e, I, nb, up, sky, na, os, ag, w⟩ => w.elim
  hu := s.hu
  calm := s.calm
  gd := s.gd
  dg := s.dg
  sm := s.sm
  eP := s.eP
  ew := s.ew
  emg := s.emg
  ebase := s.ebase
  room := s.room
  eN := s.eN
  nd := s.nd
  look := fun x kd h => by
    show (relabel scope Y.env).names.lookup x = _ ∨ _ ∧ (relabel scope Y.env).names.lookup x = _
    unfold relabel
    simp only
    generalize scope.names = l at h ⊢
    induction l with
    | nil => cases h
    | cons p l ih =>
      obtain ⟨n, q⟩ := p
      rw [List.map_cons]
      by_cases hx : (x == n) = true
      · simp only [List.lookup_cons, hx] at h
        cases h
        split
        · rename_i hc
          simp only [Bool.and_eq_true, beq_iff_eq] at hc
          right
          refine ⟨hc.1.1, ?_⟩
          simp only [List.lookup_cons, hx]
        · left
          simp only [List.lookup_cons, hx]
      · have hx : (x == n) = false := by simpa using hx
        simp only [List.lookup_cons, hx] at h
        have := ih h
        split <;> simp only [List.lookup_cons, hx] <;> exact this
  fn := fun x h => by show (scope.names.lookup x == some NameKind.cell) = true; rw [h]; rfl
  pass := PassesOwn.never
end
end Pz
end
section
set_option Elab.async false
set_option linter.all false
set_option maxRecDepth 4000
set_option maxHeartbeats 0
/-! The checker is right: expressions, the induction. -/
namespace Pz
open PySem PySem.Spec PyProof.Rows L2

section
variable {c : Cf} {P : Program} {w : World} {mg : Str → Option Value} {base : Heap} {k : Nat} {N : List Str} {C : Cfg}

theorem lsOf_len (io : List (Nat × Nat)) : ∀ n k, (lsOf io k n).length = n
  | 0, _ => rfl
  | n + 1, k => congrArg (· + 1) (lsOf_len io n (k + 1))
theorem lsOf_nil : ∀ n k, allN (lsOf [] k n) = true
  | 0, _ => rfl
  | n + 1, k => by
    show (([] : List (Nat × Nat)).lookup k :: lsOf [] (k + 1) n).all (·.isNone) = true
    rw [List.all_cons]
    exact lsOf_nil n (k + 1)
theorem lsOf_get (io : List (Nat × Nat)) : ∀ n k j, j < n → (lsOf io k n)[j]? = some (io.lookup (k + j))
  | 0, _, _, h => absurd h (by omega)
  | n + 1, k, 0, _ => rfl
  | n + 1, k, j + 1, h => by
    show (lsOf io (k + 1) n)[j]? = _
    rw [lsOf_get io n (k + 1) j (by omega), show k + 1 + j = k + (j + 1) by omega]
theorem range_all {n : Nat} {f : Nat → Bool} (h : (List.range n).all f = true) {i : Nat} (hi : i < n) : f i = true := List.all_eq_true.mp h i (List.mem_range.mpr hi)
theorem getD_out {l : List Nat} {i : Nat} (h : ¬ i < l.length) : l.getD i 0 = 0 := by
  rw [List.getD_eq_getElem?_getD, List.getElem?_eq_none (by omega)]; rfl

theorem ownL_ix {K : Ck} {own : List Nat} : ∀ p ∈ ownL K own, K.N[p.2]? = some p.1 := by
  intro p hp
  unfold ownL at hp
  obtain ⟨i, _, h⟩ := List.mem_filterMap.mp hp
  obtain ⟨x, e, rfl⟩ := Option.map_eq_some_iff.mp h
  exact e
theorem blk_ok {K : Ck} {W : WX} {Y : Cx} {scope : Scope} {own : List Nat} (s : Scp c P w mg base k K.N K.sc W Y) (h : blkB K scope own = true) : BlkOk Y.N Y.env.scope scope (ownL K own) := by
  unfold blkB at h
  simp only [Bool.and_eq_true, decide_eq_true_eq] at h
  obtain ⟨⟨⟨h1, h2⟩, h3⟩, h4⟩ := h
  refine ⟨h1, fun y hy => by simpa using List.all_eq_true.mp h2 y hy, fun p hp => by rw [s.eN]; exact ownL_ix p hp, fun y hy e => ?_, fun y hy e => ?_⟩
  · obtain ⟨n, q⟩ := y
    replace e : q = .free := e
    subst e
    have := List.all_eq_true.mp h3 _ hy
    replace this : (match K.sc.lookup n with | some .cell | some .free => true | _ => false) = true := this
    show Y.env.scope.names.lookup n = _ ∨ Y.env.scope.names.lookup n = _
    split at this
    · rename_i z
      rcases s.look _ _ z with w | w
      · exact .inl w
      · exact .inl w.2
    · rename_i z
      rcases s.look _ _ z with w | w
      · exact .inr w
      · exact .inl w.2
    · cases this
  · obtain ⟨n, q⟩ := y
    have := List.all_eq_true.mp h3 _ hy
    have this : (decide (n ∈ (ownL K own).map (·.1)) || decide (n ∉ K.N)) = true := by
      rcases e with e | e <;> (replace e : q = _ := e) <;> subst e <;> exact this
    rw [s.eN]
    simpa using this
theorem bn_at {K : Ck} {W : WX} {Y : Cx} {x y : Str} (s : Scp c P w mg base k K.N K.sc W Y) (bd : Bd c P w mg base k K.N K.t C) (h : bn K x y = true) : x = y ∧ Gl Y y ∧ Y.mg y = none := by
  unfold bn at h
  simp only [Bool.and_eq_true, decide_eq_true_eq] at h
  obtain ⟨⟨rfl, h2⟩, h3⟩ := h
  exact ⟨rfl, s.gl h2, by rw [s.emg]; exact bd.bl _ h3⟩
theorem ty_at {K : Ck} {W : WX} {Y : Cx} {t : Ty} {x : Str} (s : Scp c P w mg base k K.N K.sc W Y) (bd : Bd c P w mg base k K.N K.t C) (h : tyB K t x = true) :
    Gl Y x ∧ Y.mg x = none ∧ bootBuiltins x = some (.type (tyN t)) ∧ x ≠ "__name__" ∧ (x == ("__debug__" : Str)) = false ∧ ∀ c, t ≠ .cls c := by
  unfold tyB at h
  simp only [Bool.and_eq_true, decide_eq_true_eq] at h
  obtain ⟨⟨h1, h2⟩, h3⟩ := h
  have : bootBuiltins x = some (.type (tyN t)) ∧ x ≠ "__name__" ∧ (x == ("__debug__" : Str)) = false ∧ ∀ c, t ≠ .cls c := by
    cases t <;> first | (cases h1; done) | skip
    all_goals
      rw [decide_eq_true_eq] at h1
      subst h1
      exact ⟨by decide +kernel, by decide, by decide, fun c z => by cases z⟩
  exact ⟨s.gl h2, by rw [s.emg]; exact bd.bl _ h3, this.1, this.2.1, this.2.2.1, this.2.2.2⟩
theorem attr_plain {e : Expr} {a : Str} {env : PySem.Env} {wh : Sem Value} (h : noCall e = true) : attributeBase e a env wh = wh := by
  cases e <;> first | rfl | (cases h; done)
mutual
theorem snd_X : ∀ (t : T) (e : Expr) (m : Bool) (K : Ck) (Γ : List Nat), okX m K Γ t e = true → Bd c P w mg base k K.N K.t C → ∀ W Y, Scp c P w mg base k K.N K.sc W Y → Both c W Γ (kd K Γ t) Y e m (evE C t)
  | .v i, e, m, K, Γ, h, bd, W, Y, s => by
    cases e <;> first | (cases h; done) | skip
    obtain ⟨h1, h2, h3, h4⟩ := nm_at s h
    exact .plain s.toCtx (sx_var h1 h2 h3 h4) rfl
  | .non, e, m, K, Γ, h, bd, W, Y, s => by
    cases e <;> first | (cases h; done) | skip
    rename_i v _ _
    cases v <;> first | (cases h; done) | skip
    exact .plain s.toCtx sx_non rfl
  | .tt, e, m, K, Γ, h, bd, W, Y, s => by
    cases e <;> first | (cases h; done) | skip
    rename_i v _ _
    cases v <;> first | (cases h; done) | skip
    replace h : _ = true := h
    subst h
    exact .plain s.toCtx sx_bl rfl
  | .ff, e, m, K, Γ, h, bd, W, Y, s => by
    cases e <;> first | (cases h; done) | skip
    rename_i v _ _
    cases v <;> first | (cases h; done) | skip
    rename_i b
    cases b <;> first | (cases h; done) | skip
    exact .plain s.toCtx sx_bl rfl
  | .int i, e, m, K, Γ, h, bd, W, Y, s => by
    cases e <;> first | (cases h; done) | skip
    rename_i v _ _
    cases v <;> first | (cases h; done) | skip
    rename_i j
    replace h : decide (j = i) = true := h
    rw [decide_eq_true_eq] at h
    subst h
    exact .plain s.toCtx sx_int rfl
  | .str z, e, m, K, Γ, h, bd, W, Y, s => by
    cases e <;> first | (cases h; done) | skip
    rename_i v _ _
    cases v <;> first | (cases h; done) | skip
    rename_i j
    replace h : decide (j = ⟨z.toArray⟩) = true := h
    rw [decide_eq_true_eq] at h
    exact .plain s.toCtx (sx_str h) rfl
  | .bin op a b, e, m, K, Γ, h, bd, W, Y, s => by
    cases e <;> first | (cases h; done) | skip
    rename_i l o r p
    unfold okX at h
    simp only [Bool.and_eq_true] at h
    obtain ⟨⟨⟨⟨h1, h2⟩, h3⟩, h4⟩, h5⟩ := h
    have ia := (snd_X a l false K Γ h2 bd W Y s).1 rfl
    have ib := (snd_X b r false K Γ h3 bd W Y s).1 rfl
    refine .plain s.toCtx ?_ rfl
    rcases opB_cases h1 with ⟨rfl, rfl⟩ | ⟨rfl, rfl⟩ | ⟨rfl, rfl⟩ | ⟨rfl, rfl⟩ | ⟨rfl, rfl⟩ | ⟨rfl, rfl⟩ | ⟨rfl, rfl⟩ | ⟨rfl, rfl⟩
    · simp only [Bool.and_eq_true] at h5
      exact sx_add (ka := ⟨true, (kd K Γ a).pu, 0⟩) (kb := ⟨true, (kd K Γ b).pu, 0⟩) s.K (ia.fz h5.1) (ib.fz h5.2) (.inl rfl) rfl rfl
    · simp only [Bool.and_eq_true, decide_eq_true_eq] at h5
      exact sx_cat s.K ia ib (own_or h4) h5.1 h5.2
    · exact sx_sub ia ib (own_or h4)
    · exact sx_mul ia ib (own_or h4)
    · simp only [beq_iff_eq] at h5
      exact sx_rep ia ib (own_or h4) h5
    · exact sx_fdiv ia ib (own_or h4)
    · exact sx_mod ia ib (own_or h4)
    · exact sx_pow ia ib (own_or h4)
  | .neg a, e, m, K, Γ, h, bd, W, Y, s => by
    cases e <;> first | (cases h; done) | skip
    rename_i o x p
    cases o <;> first | (cases h; done) | skip
    replace h : (!m && okX false K Γ a x) = true := h
    simp only [Bool.and_eq_true, Bool.not_eq_true'] at h
    have ia := (snd_X a x false K Γ h.2 bd W Y s).1 rfl
    exact ⟨fun _ => sx_neg ia, fun hm => by rw [h.1] at hm; cases hm⟩
  | .not a, e, m, K, Γ, h, bd, W, Y, s => by
    cases e <;> first | (cases h; done) | skip
    rename_i o x p
    cases o <;> first | (cases h; done) | skip
    unfold okX at h
    have ia := snd_X a x m K Γ h bd W Y s
    exact ⟨fun hm => sx_not s.toCtx (ia.1 hm), fun hm => ⟨sc_not (ia.2 hm).1, fun z => by cases z⟩⟩
  | .and a b, e, m, K, Γ, h, bd, W, Y, s => by
    cases e <;> first | (cases h; done) | skip
    rename_i o vs p
    cases o <;> first | (cases h; done) | skip
    match vs, h with
    | [], h => cases h
    | [_], h => cases h
    | [x, y], h =>
      replace h : (okX m K Γ a x && okX m K Γ b y && (m || ((kd K Γ a).own && (kd K Γ b).own))) = true := h
      simp only [Bool.and_eq_true] at h
      have ia := snd_X a x m K Γ h.1.1 bd W Y s
      have ib := snd_X b y m K Γ h.1.2 bd W Y s
      refine ⟨fun hm => ?_, fun hm => ?_⟩
      · have h3 := h.2
        rw [hm] at h3
        simp only [Bool.false_or, Bool.and_eq_true] at h3
        exact sx_and s.toCtx ((ia.1 hm).fz h3.1) (sx_boolone ((ib.1 hm).fz h3.2))
      · have pw := sc_and (pos := p) (pa := (kd K Γ a).pu) (pb := (kd K Γ b).pu) s.toCtx (ia.2 hm).1 (pw_and1 (pos := p) (ib.2 hm).1)
        exact ⟨pw.pt, fun _ => pw⟩
    | x :: y :: z :: r, h =>
      replace h : (okX m K Γ a x && okX m K Γ b (.BoolOp .And (y :: z :: r) p) && (m || ((kd K Γ a).own && (kd K Γ b).own))) = true := h
      simp only [Bool.and_eq_true] at h
      have ia := snd_X a x m K Γ h.1.1 bd W Y s
      have ib := snd_X b _ m K Γ h.1.2 bd W Y s
      refine ⟨fun hm => ?_, fun hm => ?_⟩
      · have h3 := h.2
        rw [hm] at h3
        simp only [Bool.false_or, Bool.and_eq_true] at h3
        exact sx_and s.toCtx ((ia.1 hm).fz h3.1) ((ib.1 hm).fz h3.2)
      · have pw := sc_and (pos := p) (pa := (kd K Γ a).pu) (pb := (kd K Γ b).pu) s.toCtx (ia.2 hm).1 ((ib.2 hm).2 rfl)
        exact ⟨pw.pt, fun _ => pw⟩
  | .or a b, e, m, K, Γ, h, bd, W, Y, s => by
    cases e <;> first | (cases h; done) | skip
    rename_i o vs p
    cases o <;> first | (cases h; done) | skip
    match vs, h with
    | [], h => cases h
    | [_], h => cases h
    | [x, y], h =>
      replace h : (okX m K Γ a x && okX m K Γ b y && (m || ((kd K Γ a).own && (kd K Γ b).own))) = true := h
      simp only [Bool.and_eq_true] at h
      have ia := snd_X a x m K Γ h.1.1 bd W Y s
      have ib := snd_X b y m K Γ h.1.2 bd W Y s
      refine ⟨fun hm => ?_, fun hm => ?_⟩
      · have h3 := h.2
        rw [hm] at h3
        simp only [Bool.false_or, Bool.and_eq_true] at h3
        exact sx_or s.toCtx ((ia.1 hm).fz h3.1) (sx_boolone ((ib.1 hm).fz h3.2))
      · have pw := sc_or (pos := p) (pa := (kd K Γ a).pu) (pb := (kd K Γ b).pu) s.toCtx (ia.2 hm).1 (pw_or1 (pos := p) (ib.2 hm).1)
        exact ⟨pw.pt, fun _ => pw⟩
    | x :: y :: z :: r, h =>
      replace h : (okX m K Γ a x && okX m K Γ b (.BoolOp .Or (y :: z :: r) p) && (m || ((kd K Γ a).own && (kd K Γ b).own))) = true := h
      simp only [Bool.and_eq_true] at h
      have ia := snd_X a x m K Γ h.1.1 bd W Y s
      have ib := snd_X b _ m K Γ h.1.2 bd W Y s
      refine ⟨fun hm => ?_, fun hm => ?_⟩
      · have h3 := h.2
        rw [hm] at h3
        simp only [Bool.false_or, Bool.and_eq_true] at h3
        exact sx_or s.toCtx ((ia.1 hm).fz h3.1) ((ib.1 hm).fz h3.2)
      · have pw := sc_or (pos := p) (pa := (kd K Γ a).pu) (pb := (kd K Γ b).pu) s.toCtx (ia.2 hm).1 ((ib.2 hm).2 rfl)
        exact ⟨pw.pt, fun _ => pw⟩
  | .cmp op a b, e, m, K, Γ, h, bd, W, Y, s => by
    cases e <;> first | (cases h; done) | skip
    rename_i l os rs p
    match os, rs, h with
    | [], _, h => cases h
    | _ :: _ :: _, _, h => cases h
    | [_], [], h => cases h
    | [_], _ :: _ :: _, h => cases h
    | [o], [r], h =>
      replace h : (copB op o && okX false K Γ a l && okX false K Γ b r && noSet r && ((kd K Γ a).own || (kd K Γ b).pu)) = true := h
      simp only [Bool.and_eq_true] at h
      obtain ⟨⟨⟨⟨h1, h2⟩, h3⟩, h4⟩, h5⟩ := h
      have ia := (snd_X a l false K Γ h2 bd W Y s).1 rfl
      have ib := (snd_X b r false K Γ h3 bd W Y s).1 rfl
      have cr := cmp_all (W := W) (Y := Y) (c := c) h1 s.toCtx (kd K Γ a).lv (kd K Γ b).lv
      exact ⟨fun _ => sx_cmp cr (mark h4) ia ib (own_or h5), fun _ => ⟨sc_cmp cr (mark h4) ia ib (own_or h5), fun z => by cases z⟩⟩
  | .ite t a b, e, m, K, Γ, h, bd, W, Y, s => by
    cases e <;> first | (cases h; done) | skip
    rename_i x y z p
    unfold okX at h
    simp only [Bool.and_eq_true, Bool.not_eq_true'] at h
    obtain ⟨⟨⟨⟨⟨h0, h1⟩, h2⟩, h3⟩, h4⟩, h5⟩ := h
    have it := (snd_X t x true K Γ h1 bd W Y s).2 rfl
    have ia := (snd_X a y false K Γ h2 bd W Y s).1 rfl
    have ib := (snd_X b z false K Γ h3 bd W Y s).1 rfl
    exact ⟨fun _ => sx_ite it.1 (ia.fz h4) (ib.fz h5), fun hm => by rw [h0] at hm; cases hm⟩
  | .call f as io, e, m, K, Γ, h, bd, W, Y, s => by
    cases e <;> first | (cases h; done) | skip
    rename_i fn es kw p
    cases fn <;> first | (cases h; done) | skip
    rename_i x p0
    match es, kw, h with
    | [], _ :: _, h => cases h
    | [], [], h =>
      refine .plain s.toCtx ?_ rfl
      replace h : callZ K f io x as = true := h
      unfold callZ at h
      cases as <;> first | (cases h; done) | skip
      cases hx : K.fns.lookup x with
      | none => rw [hx] at h; cases h
      | some fi =>
        rw [hx] at h
        simp only [Bool.and_eq_true, decide_eq_true_eq, Bool.not_eq_true', List.isEmpty_iff] at h
        obtain ⟨⟨⟨⟨⟨h1, h2⟩, h3⟩, h5⟩, h8⟩, ⟨h9, h10⟩, h11⟩ := h
        subst h9
        have fa := bd.fn x fi hx W Y K.sc s
        rw [h1] at fa
        show SX c W Γ ⟨true, true, (K.sg f).rl⟩ Y _ _
        rw [h8]
        obtain ⟨fid, fnp, fio, fsg⟩ := fi
        dsimp only at h5 h10
        subst h5 h10
        refine sx_callZ s.toCtx fa (s.gl h2) h3 fun i => ?_
        by_cases hi : i < fsg.pl.length
        · simpa using range_all h11 hi
        · exact getD_out hi
    | _ :: _, _ :: _, h => cases h
    | e₁ :: es, [], h =>
      refine .plain s.toCtx ?_ rfl
      cases hx : K.fns.lookup x with
      | none =>
        replace h : (match K.fns.lookup x with
          | some fi => callB K Γ f io x es.length fi && okA K Γ io 0 as (e₁ :: es) && (noStar e₁ && es.all noStar)
          | none => false) = true := h
        rw [hx] at h; cases h
      | some fi =>
        replace h : (match K.fns.lookup x with
          | some fi => callB K Γ f io x es.length fi && okA K Γ io 0 as (e₁ :: es) && (noStar e₁ && es.all noStar)
          | none => false) = true := h
        rw [hx] at h
        simp only [Bool.and_eq_true] at h
        obtain ⟨⟨hcb, h4⟩, h6, h7⟩ := h
        unfold callB at hcb
        simp only [Bool.and_eq_true, decide_eq_true_eq, Bool.not_eq_true'] at hcb
        obtain ⟨⟨⟨⟨⟨h1, h2⟩, h3⟩, h5⟩, h8⟩, h9⟩ := hcb
        have fa := bd.fn x fi hx W Y K.sc s
        rw [h1] at fa
        show SX c W Γ ⟨true, io.isEmpty && puA K Γ as, (K.sg f).rl⟩ Y _ _
        rw [h8]
        obtain ⟨fid, fnp, fio, fsg⟩ := fi
        unfold ioB at h9
        match io, fio, h9, h4, fa with
        | [], [], h9, h4, fa =>
          have ha := snd_A as (e₁ :: es) K Γ [] 0 h4 bd W Y s
          refine sx_call0 s.toCtx fa (s.gl h2) h3 ha (lsOf_nil _ _) (by rw [lsOf_len]; exact h5.symm) (fun i => ?_) (star_cons h6) (star_any h7)
          by_cases hi : i < fsg.pl.length
          · simpa using range_all h9 hi
          · exact getD_out hi
        | [(j, i)], [j'], h9, h4, fa =>
          have ha := snd_A as (e₁ :: es) K Γ [(j, i)] 0 h4 bd W Y s
          simp only [Bool.and_eq_true, decide_eq_true_eq] at h9
          obtain ⟨⟨⟨rfl, g2⟩, g3⟩, g4⟩ := h9
          replace h5 : fnp = es.length + 1 := h5
          have hl : (lsOf [(j, i)] 0 (e₁ :: es).length).length = fnp := by rw [lsOf_len]; exact h5.symm
          refine sx_call1 (pu := puA K Γ as) s.toCtx fa (s.gl h2) h3 ha hl ?_ (fun k hk hk2 => ?_) (fun k hk => ?_) g3 (star_cons h6) (star_any h7)
          · rw [lsOf_get _ _ _ _ (by show j < es.length + 1; rw [← h5]; exact g2)]
            simp [List.lookup]
          · rw [lsOf_get _ _ _ _ (by show k < es.length + 1; rw [← h5]; exact hk2)]
            have : (k == j) = false := by simpa using hk
            simp [List.lookup, this]
          · by_cases hi : k < fsg.pl.length
            · have := range_all g4 hi
              simpa [hk] using this
            · exact getD_out hi
  | .idx a b, e, m, K, Γ, h, bd, W, Y, s => by
    cases e <;> first | (cases h; done) | skip
    rename_i o x p
    replace h : (okX false K Γ a o && okX false K Γ b x && ((kd K Γ a).own || ((kd K Γ b).pu && decide ((kd K Γ a).lv ≤ 1))) && plainI x) = true := h
    simp only [Bool.and_eq_true] at h
    obtain ⟨⟨⟨h1, h2⟩, h3⟩, h4⟩ := h
    have ia := (snd_X a o false K Γ h1 bd W Y s).1 rfl
    have ib := (snd_X b x false K Γ h2 bd W Y s).1 rfl
    refine .plain s.toCtx ?_ rfl
    by_cases ho : (kd K Γ a).own = true
    · exact sx_idx (ka := ⟨true, (kd K Γ a).pu, 0⟩) s.toCtx (ia.fz ho) ib (.inl rfl) (Nat.zero_le _) (plain_ix h4)
    · have h3' : (kd K Γ b).pu = true ∧ (kd K Γ a).lv ≤ 1 := by
        have : (kd K Γ a).own = false := by simpa using ho
        rw [this] at h3
        simpa using h3
      exact sx_idx s.toCtx ia ib (.inr h3'.1) h3'.2 (plain_ix h4)
  | .tup as, e, m, K, Γ, h, bd, W, Y, s => by
    cases e <;> first | (cases h; done) | skip
    rename_i es k2 p
    replace h : (okA K Γ [] 0 as es && decide (es.length ≤ 1000)) = true := h
    simp only [Bool.and_eq_true, decide_eq_true_eq] at h
    exact .plain s.toCtx (sx_tup (snd_A as es K Γ [] 0 h.1 bd W Y s) (lsOf_nil _ _) (by rw [lsOf_len]; exact h.2)) rfl
  | .lst n as, e, m, K, Γ, h, bd, W, Y, s => by
    cases e <;> first | (cases h; done) | skip
    rename_i es p
    replace h : (okA K Γ [] 0 as es && decide (es.length ≤ 1000)) = true := h
    simp only [Bool.and_eq_true, decide_eq_true_eq] at h
    exact .plain s.toCtx (sx_lst (snd_A as es K Γ [] 0 h.1 bd W Y s) (lsOf_nil _ _) (by rw [lsOf_len]; exact h.2)) rfl
  | .lc el tg it cc own, e, m, K, Γ, h, bd, W, Y, s => by
    cases e <;> first | (cases h; done) | skip
    rename_i x gens scope p
    match gens, h with
    | [], h => cases h
    | _ :: _ :: _, h => cases h
    | [⟨gt, gi, gifs, ga⟩], h =>
      replace h : (decide (ga = 0) && okI K Γ it gi && tgB it gt && noSet gi && blkB K scope own && (own.all fun i => Γ.getD i 0 == 0) &&
          okG (inOwn own) { K with sc := scope.names } Γ tg gt && decide (gG tg Γ = Γ) && okC { K with sc := scope.names } Γ cc gifs && okX false { K with sc := scope.names } Γ el x && (kd { K with sc := scope.names } Γ el).own) = true := h
      simp only [Bool.and_eq_true, decide_eq_true_eq] at h
      obtain ⟨⟨⟨⟨⟨⟨⟨⟨⟨⟨rfl, h2⟩, h2'⟩, h3⟩, h4⟩, h5⟩, h6⟩, h7⟩, h8⟩, h9⟩, h10⟩ := h
      have bd' : Bd c P w mg base k { K with sc := scope.names }.N { K with sc := scope.names }.t C := ⟨bd.fn, bd.bl, bd.ex, bd.fv, bd.fnv, bd.gl⟩
      obtain ⟨pi, hi⟩ := snd_I it gi K Γ h2 bd
      obtain ⟨pc, hc⟩ := snd_C cc gifs { K with sc := scope.names } Γ h8 bd'
      refine .plain s.toCtx ?_ rfl
      have blk := blk_ok s h4
      have e0 : (ownL K own).map (·.2) = own := by
        unfold blkB at h4
        simp only [Bool.and_eq_true, decide_eq_true_eq] at h4
        exact h4.2
      have lc := pe_lc (pos := p) s.calm (by rw [s.eN]; exact s.nd) (hi W Y s gt h2') blk
        (fun s0 H0 Ca cl fp => by have := snd_G tg gt (inOwn own) { K with sc := scope.names } Γ h6 bd' never _ (Zb own) rfl (s.blk s0 H0 scope Ca cl fp); rw [h7] at this; exact this)
        (fun s0 H0 Ca cl fp => hc never _ (s.blk s0 H0 scope Ca cl fp))
        (fun s0 H0 Ca cl fp => ((snd_X el x false { K with sc := scope.names } Γ h9 bd' never _ (s.blk s0 H0 scope Ca cl fp)).1 rfl).fz h10) (folded h3)
      rw [e0] at lc
      exact PE.imp lc fun σ H Q z => lc_go (fun i hi => by simpa using List.all_eq_true.mp h5 i hi) z
  | .lc2 el tg it cc tg2 it2 cc2 own own2, e, m, K, Γ, h, bd, W, Y, s => by
    cases e <;> first | (cases h; done) | skip
    rename_i x gens scope p
    match gens, h with
    | [], h => cases h
    | [_], h => cases h
    | _ :: _ :: _ :: _, h => cases h
    | [⟨gt, gi, gifs, ga⟩, ⟨ht, hi2, hifs, ha⟩], h =>
      replace h : (decide (ga = 0) && okI K Γ it gi && tgB it gt && noSet gi && blkB K scope own && (own.all fun i => Γ.getD i 0 == 0) &&
          okG (inOwn own) { K with sc := scope.names } Γ tg gt && decide (gG tg Γ = Γ) && okC { K with sc := scope.names } Γ cc gifs && okX false { K with sc := scope.names } Γ el x && (kd { K with sc := scope.names } Γ el).own &&
          (decide (ha = 0) && okI { K with sc := scope.names } Γ it2 hi2 && tgB it2 ht && noSet hi2 && (own2.all fun i => decide (i ∈ own)) && okG (inOwn own2) { K with sc := scope.names } Γ tg2 ht && decide (gG tg2 Γ = Γ) && okC { K with sc := scope.names } Γ cc2 hifs)) = true := h
      simp only [Bool.and_eq_true, decide_eq_true_eq] at h
      obtain ⟨⟨⟨⟨⟨⟨⟨⟨⟨⟨⟨rfl, h2⟩, h2'⟩, h3⟩, h4⟩, h5⟩, h6⟩, h7⟩, h8⟩, h9⟩, h10⟩, ⟨⟨⟨⟨⟨⟨⟨rfl, k2⟩, k2'⟩, k3⟩, k5⟩, k6⟩, k7⟩, k8⟩⟩ := h
      have bd' : Bd c P w mg base k { K with sc := scope.names }.N { K with sc := scope.names }.t C := ⟨bd.fn, bd.bl, bd.ex, bd.fv, bd.fnv, bd.gl⟩
      obtain ⟨pi, hi⟩ := snd_I it gi K Γ h2 bd
      obtain ⟨pc, hc⟩ := snd_C cc gifs { K with sc := scope.names } Γ h8 bd'
      obtain ⟨pj, hj⟩ := snd_I it2 hi2 { K with sc := scope.names } Γ k2 bd'
      obtain ⟨pd, hd⟩ := snd_C cc2 hifs { K with sc := scope.names } Γ k8 bd'
      refine .plain s.toCtx ?_ rfl
      have blk := blk_ok s h4
      have e0 : (ownL K own).map (·.2) = own := by
        unfold blkB at h4
        simp only [Bool.and_eq_true, decide_eq_true_eq] at h4
        exact h4.2
      have hs2 : ∀ i ∈ own2, i ∈ own := fun i hi => by simpa using List.all_eq_true.mp k5 i hi
      have lc := pe_lc2 (pos := p) (vs1 := own2) s.calm (by rw [s.eN]; exact s.nd) (hi W Y s gt h2') blk (by rw [e0]; exact hs2)
        (fun s0 H0 Ca cl fp => by have := snd_G tg gt (inOwn own) { K with sc := scope.names } Γ h6 bd' never _ (Zb own) rfl (s.blk s0 H0 scope Ca cl fp); rw [h7] at this; exact this)
        (fun s0 H0 Ca cl fp => hc never _ (s.blk s0 H0 scope Ca cl fp))
        (fun s0 H0 Ca cl fp => hj never _ (s.blk s0 H0 scope Ca cl fp) ht k2')
        (fun s0 H0 Ca cl fp => by have := snd_G tg2 ht (inOwn own2) { K with sc := scope.names } Γ k6 bd' never _ (Zb own2) rfl (s.blk s0 H0 scope Ca cl fp); rw [k7] at this; exact this)
        (fun s0 H0 Ca cl fp => hd never _ (s.blk s0 H0 scope Ca cl fp))
        (fun s0 H0 Ca cl fp => ((snd_X el x false { K with sc := scope.names } Γ h9 bd' never _ (s.blk s0 H0 scope Ca cl fp)).1 rfl).fz h10) (folded h3) (fun _ => folded k3)
      rw [e0] at lc
      exact PE.imp lc fun σ H Q z => lc2_go (fun i hi => by simpa using List.all_eq_true.mp h5 i hi) hs2 z
  | .glob g, e, m, K, Γ, h, bd, W, Y, s => by
    cases e <;> first | (cases h; done) | skip
    rename_i x p
    replace h : (glB K.sc x && !(x == ("__debug__" : Str)) && (K.t.gl.any fun p => decide (p.1 = x) && p.2.1 == g)) = true := h
    simp only [Bool.and_eq_true, Bool.not_eq_true'] at h
    obtain ⟨⟨h1, h2⟩, h3⟩ := h
    obtain ⟨⟨x', g', d⟩, hm, h4⟩ := List.any_eq_true.mp h3
    simp only [Bool.and_eq_true, decide_eq_true_eq, beq_iff_eq] at h4
    obtain ⟨rfl, rfl⟩ := h4
    obtain ⟨e1, e2⟩ := bd.gl _ _ _ hm
    refine .plain s.toCtx ?_ rfl
    show SX c W Γ (kA true) Y _ (fun ρ => .ok (C.glob g', ρ))
    rw [e1]
    exact sx_glob (s.gl h1) h2 (by rw [s.emg]; exact e2)
  | .atm _, _, _, _, _, h, _, _, _, _ => by cases h
  | .chain o1 o2 a b cc, e, m, K, Γ, h, bd, W, Y, s => by
    cases e <;> first | (cases h; done) | skip
    rename_i l os rs p
    unfold okX at h
    dsimp only at h
    split at h
    · rename_i o o' r t
      simp only [Bool.and_eq_true, Bool.not_eq_true', decide_eq_true_eq] at h
      obtain ⟨⟨⟨⟨⟨⟨⟨h1, h2⟩, h3⟩, h4⟩, h5⟩, h6⟩, h7⟩, h8⟩ := h
      have ia := (snd_X a l false K Γ h3 bd W Y s).1 rfl
      have ib := (snd_X b r false K Γ h4 bd W Y s).1 rfl
      have ic := (snd_X cc t false K Γ h5 bd W Y s).1 rfl
      exact ⟨fun _ => sx_chain (cmp_all h1 s.toCtx _ _) (cmp_all h2 s.toCtx _ _) h6 ia ib ic (own_or h7) h8, fun _ => ⟨sc_chain (cmp_all h1 s.toCtx _ _) (cmp_all h2 s.toCtx _ _) h6 ia ib ic (own_or h7) h8, fun z => by cases z⟩⟩
    · cases h
  | .isi a ts, e, m, K, Γ, h, bd, W, Y, s => by
    cases e <;> first | (cases h; done) | skip
    rename_i fn es kw p
    unfold okX at h
    dsimp only at h
    split at h
    · rename_i f p0 x y p1 t
      simp only [Bool.and_eq_true] at h
      obtain ⟨⟨⟨h1, h2'⟩, h3⟩, h4⟩ := h
      obtain ⟨rfl, g1, g2⟩ := bn_at s bd h1
      by_cases h2 : tyB K t y = true
      · obtain ⟨g3, g4, g5, g6, g7, g8⟩ := ty_at s bd h2
        exact .plain s.toCtx (sx_isi s.toCtx g1 g2 g3 g4 g5 g6 g7 g8 ((snd_X a x false K Γ h4 bd W Y s).1 rfl) h3) rfl
      · have h5 : exB K t y = true := by
          rw [Bool.or_eq_true] at h2'
          exact h2'.resolve_left h2
        unfold exB at h5
        split at h5
        · rename_i j
          simp only [Bool.and_eq_true, Bool.not_eq_true'] at h5
          obtain ⟨⟨q1, q2⟩, q3⟩ := h5
          obtain ⟨⟨z1, z2⟩, qm, qe⟩ := List.any_eq_true.mp q3
          simp only [Bool.and_eq_true, decide_eq_true_eq] at qe
          obtain ⟨rfl, rfl⟩ := qe
          obtain ⟨C2, c1, c2⟩ := bd.ex.nm _ _ qm
          refine .plain s.toCtx (sx_isiC s.toCtx g1 g2 (s.gl q1) (by rw [s.emg]; exact c2) q2 (fun k C hk => ?_) (fun d hd => ?_) ((snd_X a x false K Γ h4 bd W Y s).1 rfl) h3) rfl
          · rw [s.K]; exact ⟨bd.ex.xc k C hk, (bd.ex.rel k C _ C2 hk c1).1⟩
          · rw [s.K]; exact bd.ex.pl _ C2 d c1 hd
        · cases h5
    · rename_i f p0 x y p1 z p2 tk p3 t u
      simp only [Bool.and_eq_true] at h
      obtain ⟨⟨⟨⟨h1, h2⟩, h2'⟩, h3⟩, h4⟩ := h
      obtain ⟨rfl, g1, g2⟩ := bn_at s bd h1
      obtain ⟨g3, g4, g5, g6, g7, g8⟩ := ty_at s bd h2
      obtain ⟨k3, k4, k5, k6, k7, k8⟩ := ty_at s bd h2'
      exact .plain s.toCtx (sx_isi2 s.toCtx g1 g2 g3 g4 g5 g6 g7 g8 k3 k4 k5 k6 k7 k8 ((snd_X a x false K Γ h4 bd W Y s).1 rfl) h3) rfl
    · cases h
  | .attr a n, e, m, K, Γ, h, bd, W, Y, s => by
    cases e <;> first | (cases h; done) | skip
    rename_i o at_ p
    replace h : (decide (n = 0) && decide (at_ = "value") && noCall o && okX false K Γ a o && (kd K Γ a).own) = true := h
    simp only [Bool.and_eq_true, decide_eq_true_eq] at h
    obtain ⟨⟨⟨⟨rfl, rfl⟩, h3⟩, h4⟩, h5⟩ := h
    exact .plain s.toCtx (sx_attr s.toCtx (fun k C hk => by rw [s.K]; exact bd.ex.xc k C hk) ((snd_X a o false K Γ h4 bd W Y s).1 rfl) (attr_plain h3) h5) rfl
  | .fnv f, e, m, K, Γ, h, bd, W, Y, s => by
    cases e <;> first | (cases h; done) | skip
    rename_i x p
    replace h : (glB K.sc x && !(x == ("__debug__" : Str)) && (match K.fns.lookup x with | some fi => decide (fi.id = f) && pl0 fi | none => false)) = true := h
    simp only [Bool.and_eq_true, Bool.not_eq_true'] at h
    obtain ⟨⟨h1, h2⟩, h3⟩ := h
    cases hx : K.fns.lookup x with
    | none => rw [hx] at h3; cases h3
    | some fi =>
      rw [hx] at h3
      simp only [Bool.and_eq_true, decide_eq_true_eq] at h3
      obtain ⟨rfl, h4⟩ := h3
      obtain ⟨a, g1, g2⟩ := bd.fnv x fi hx h4
      exact .plain s.toCtx (sx_fnv (s.gl h1) (by rw [s.emg]; exact g2) g1 h2) rfl
  | .callv i as, e, m, K, Γ, h, bd, W, Y, s => by
    cases e <;> first | (cases h; done) | skip
    rename_i fn es kw p
    unfold okX at h
    dsimp only at h
    split at h
    · rename_i x p0 e₁ es
      simp only [Bool.and_eq_true] at h
      obtain ⟨⟨h1, h2⟩, h3, h4⟩ := h
      obtain ⟨g1, g2, g3, g4⟩ := nm_at s h1
      exact .plain s.toCtx (sx_callv s.toCtx (bd.fv W Y _ s) g1 g2 g3 g4 (snd_A as (e₁ :: es) K Γ [] 0 h2 bd W Y s) (lsOf_nil _ _) (star_cons h3) (star_any h4)) rfl
    · cases h
  | .callk f as pm io, e, m, K, Γ, h, bd, W, Y, s => by
    cases e <;> first | (cases h; done) | skip
    rename_i fn es kws p
    cases fn <;> first | (cases h; done) | skip
    rename_i x p0
    replace h : (match K.fns.lookup x with
        | some fi => io.isEmpty && fi.io.isEmpty && decide (fi.id = f) && glB K.sc x && !(x == ("__debug__" : Str)) && decide (K.sg f = fi.sg) && decide (pm.length = fi.np) && ((List.range fi.sg.pl.length).all fun i => fi.sg.pl.getD i 0 == 0) &&
            (K.t.kwl.any fun q => decide (q.1 = x) && decide (q.2.1 = es.length) && decide (q.2.2.2 = pm) && kwNames kws q.2.2.1 && decide (kws.length = q.2.2.1.length)) && okAK K Γ as es kws
        | none => false) = true := h
    cases hx : K.fns.lookup x with
    | none => rw [hx] at h; cases h
    | some fi =>
      rw [hx] at h
      simp only [Bool.and_eq_true, decide_eq_true_eq, Bool.not_eq_true', List.isEmpty_iff] at h
      obtain ⟨⟨⟨⟨⟨⟨⟨⟨⟨rfl, h1⟩, h2⟩, h3⟩, h4⟩, h5⟩, h6⟩, h7⟩, h8⟩, h9⟩ := h
      obtain ⟨⟨x', n, ks, pm'⟩, hm, h10⟩ := List.any_eq_true.mp h8
      simp only [Bool.and_eq_true, decide_eq_true_eq] at h10
      obtain ⟨⟨⟨⟨rfl, rfl⟩, rfl⟩, h11⟩, h12⟩ := h10
      have fa := bd.fn _ fi hx W Y K.sc s
      rw [h2] at fa
      obtain ⟨fid, fnp, fio, fsg⟩ := fi
      replace h1 : fio = [] := h1
      subst h1
      obtain ⟨ns, pa, pb, fs, gs, sa, sk, ep, ef, e0⟩ := snd_AK as es kws K Γ h9 bd W Y s
      refine .plain s.toCtx ?_ rfl
      show SX c W Γ ⟨true, puA K Γ as, (K.sg f).rl⟩ Y _ _
      rw [h5, ep]
      have hp : ∀ i, fsg.pl.getD i 0 = 0 := fun i => by
        by_cases hi : i < fsg.pl.length
        · simpa using range_all h7 hi
        · exact getD_out hi
      have nn : ∀ n, allN (List.replicate n (none : Option Nat)) = true := fun n => by
        unfold allN; rw [List.all_eq_true]; intro x hx; rw [(List.mem_replicate.mp hx).2]; rfl
      cases es with
      | nil =>
        obtain ⟨rfl, e1⟩ := e0 rfl
        exact (sx_callk0 s.toCtx fa hm (s.gl h3) h4 sk (nn _) (by rw [List.length_replicate]; exact h12) h6 h11 hp).cong fun ρ => by
          show _ = (evA C as ρ).bind _
          rw [e1]
      | cons e es =>
        rw [List.all_cons, Bool.and_eq_true] at ns
        exact (sx_callk s.toCtx fa hm (s.gl h3) h4 sa sk (nn _) (nn _) (by rw [List.length_replicate]) (by rw [List.length_replicate]; exact h12) h6 h11 hp (star_cons ns.1) (star_any ns.2)).cong fun ρ => by
          show _ = (evA C as ρ).bind _
          rw [ef]
  | .bi b as, e, m, K, Γ, h, bd, W, Y, s => by
    cases e <;> first | (cases h; done) | skip
    rename_i fn es kw p
    unfold okX at h
    dsimp only at h
    split at h
    · rename_i f p0 x
      split at h
      · rename_i y hb
        simp only [Bool.and_eq_true] at h
        obtain ⟨⟨h1, h3⟩, h4⟩ := h
        split at h4
        · rename_i a r
          split at h4
          · have ia := (snd_X a x false K Γ h4 bd W Y s).1 rfl
            obtain ⟨rfl, g1, g2⟩ := bn_at s bd h1
            have fin : ∀ {g : List D → Option D}, SX c W Γ (kA (kd K Γ a).pu) Y (.Call (.Name f p0) [x] [] p) (fun ρ => (evE C a ρ).bind fun p => (optR (g [p.1])).bind fun d => .ok (d, p.2)) →
                SX c W Γ (kA ((kd K Γ a).pu && true)) Y (.Call (.Name f p0) [x] [] p) (fun ρ => ((evE C a ρ).bind fun p => ((.ok ([], p.2)) : R (List D × Env)).bind fun q => .ok (p.1 :: q.1, q.2)).bind fun p => (optR (g p.1)).bind fun d => .ok (d, p.2)) := fun {g} z => by
              rw [Bool.and_true]
              exact z.cong fun ρ => by rw [bind_assoc]; rfl
            refine .plain s.toCtx ?_ rfl
            cases b <;> first | (cases hb; done) | skip
            all_goals
              cases hb
              refine fin (g := biD _) ?_
            · exact sx_at1 (fun t ht => pe_callB call_len g1 g2 (by decide +kernel) ht (by decide) (by decide) (star_cons h3) (star_any rfl)) (by rw [s.K]; exact at_len) ia h3
            · exact sx_at1 (fun t ht => pe_callTy call_int1 g1 g2 (by decide +kernel) ht (by decide) (by decide) (star_cons h3) (star_any rfl)) at_int ia h3
            · exact sx_at1 (fun t ht => pe_callB call_abs g1 g2 (by decide +kernel) ht (by decide) (by decide) (star_cons h3) (star_any rfl)) at_abs ia h3
            · exact sx_at1 (fun t ht => pe_callB (cr_repr (X := c.X) s.K s.sm s.hu s.gd) g1 g2 (by decide +kernel) ht (by decide) (by decide) (star_cons h3) (star_any rfl)) at_repr ia h3
            · exact sx_at1 (fun t ht => pe_callTy ((call_str_any s.calm s.dg).or SkE.call_str_str) g1 g2 (by decide +kernel) ht (by decide) (by decide) (star_cons h3) (star_any rfl)) at_str ia h3
            · exact sx_at1 (fun t ht => pe_callB (cr_sum s.calm) g1 g2 (by decide +kernel) ht (by decide) (by decide) (star_cons h3) (star_any rfl)) (by rw [s.K]; exact at_sum) ia h3
            · exact sx_at1 (fun t ht => pe_callB (cr_all s.calm) g1 g2 (by decide +kernel) ht (by decide) (by decide) (star_cons h3) (star_any rfl)) (by rw [s.K]; exact at_all) ia h3
            · exact sx_at1 (fun t ht => pe_callB (cr_any s.calm) g1 g2 (by decide +kernel) ht (by decide) (by decide) (star_cons h3) (star_any rfl)) (by rw [s.K]; exact at_any) ia h3
          · cases h4
        · cases h4
      · rename_i hb1
        split at h
        · rename_i y hb
          simp only [Bool.and_eq_true] at h
          obtain ⟨⟨h1, h3⟩, h4⟩ := h
          split at h4
          · rename_i a r
            split at h4
            · rw [Bool.and_eq_true] at h4
              have ia := ((snd_X a x false K Γ h4.1 bd W Y s).1 rfl).fz h4.2
              obtain ⟨rfl, g1, g2⟩ := bn_at s bd h1
              have fin : ∀ {g : List D → Option D} {n : Nat}, SX c W Γ ⟨true, (kd K Γ a).pu, n⟩ Y (.Call (.Name f p0) [x] [] p) (fun ρ => (evE C a ρ).bind fun p => (optR (g [p.1])).bind fun d => .ok (d, p.2)) →
                  SX c W Γ ⟨true, (kd K Γ a).pu && true, n⟩ Y (.Call (.Name f p0) [x] [] p) (fun ρ => ((evE C a ρ).bind fun p => ((.ok ([], p.2)) : R (List D × Env)).bind fun q => .ok (p.1 :: q.1, q.2)).bind fun p => (optR (g p.1)).bind fun d => .ok (d, p.2)) := fun z => by
                rw [Bool.and_true]
                exact z.cong fun ρ => by rw [bind_assoc]; rfl
              refine .plain s.toCtx ?_ rfl
              cases b <;> first | (cases hb; done) | skip
              all_goals
                cases hb
                refine fin (g := biD _) ?_
              · exact sx_fz (fun t ht => pe_callB (cr_min (X := c.X) s.K s.hu s.calm) g1 g2 (by decide +kernel) ht (by decide) (by decide) (star_cons h3) (star_any rfl)) fz_min ia h3
              · exact sx_nl (fun t ht => pe_callTy (call_list_of.or (call_list_sign s.calm)) g1 g2 (by decide +kernel) ht (by decide) (by decide) (star_cons h3) (star_any rfl)) (by rw [s.K]; exact nl_list) ia h3
              · exact sx_fz (fun t ht => pe_callTy call_tuple_of g1 g2 (by decide +kernel) ht (by decide) (by decide) (star_cons h3) (star_any rfl)) (by rw [s.K]; exact fz_tuple) ia h3
              · exact sx_nl (fun t ht => pe_callB (cr_sort (X := c.X) s.K s.hu) g1 g2 (by decide +kernel) ht (by decide) (by decide) (star_cons h3) (star_any rfl)) nl_sort ia h3
            · cases h4
          · cases h4
        · cases h
    · rename_i f p0 x y
      split at h
      · rename_i z hb
        simp only [Bool.and_eq_true] at h
        obtain ⟨⟨⟨h1, h3⟩, h3'⟩, h4⟩ := h
        have ia := snd_A as [x, y] K Γ [] 0 h4 bd W Y s
        obtain ⟨rfl, g1, g2⟩ := bn_at s bd h1
        refine .plain s.toCtx ?_ rfl
        cases b <;> first | (cases hb; done) | skip
        · cases hb
          exact sx_at2 (fun t ht => pe_callB (call_min2 s.calm) g1 g2 (by decide +kernel) ht (by decide) (by decide) (star_cons h3) (star_any (by rw [List.all_cons, h3']; rfl))) at_min2 ia
        · cases hb
          exact sx_at2 (fun t ht => pe_callB (call_max2 s.calm) g1 g2 (by decide +kernel) ht (by decide) (by decide) (star_cons h3) (star_any (by rw [List.all_cons, h3']; rfl))) at_max2 ia
      · cases h
    · cases h
  | .biw .., _, _, _, _, h, _, _, _, _ => by cases h
  | .me mm o as, e, m, K, Γ, h, bd, W, Y, s => by
    cases e <;> first | (cases h; done) | skip
    rename_i fn es kw p
    unfold okX at h
    dsimp only at h
    split at h
    · rename_i x at_ p1
      simp only [Bool.and_eq_true, decide_eq_true_eq] at h
      obtain ⟨⟨⟨rfl, h2⟩, h3⟩, h4⟩ := h
      have ia := (snd_X o x false K Γ h4 bd W Y s).1 rfl
      refine .plain s.toCtx ((sx_bits ia (attr_plain h2) h3).cong fun ρ => rfl) rfl
    · rename_i z n p2 at_ p1 x b
      split at h
      · rename_i s1
        simp only [Bool.and_eq_true, decide_eq_true_eq] at h
        obtain ⟨⟨⟨⟨⟨rfl, h2⟩, h3⟩, h4⟩, h5⟩, h6⟩ := h
        have ib := ((snd_X b x false K Γ h5 bd W Y s).1 rfl).fz h6
        refine .plain s.toCtx ?_ rfl
        show SX c W Γ (kA ((kd K Γ b).pu && true)) Y _ _
        rw [Bool.and_true]
        refine (sx_join s.toCtx h2 ib h3 h4).cong fun ρ => ?_
        show _ = ((evE C b ρ).bind fun p => ((.ok ([], p.2)) : R (List D × Env)).bind fun q => .ok (p.1 :: q.1, q.2)).bind fun q => (optR (meD .join (.str s1) q.1)).bind fun d => .ok (d, q.2)
        rw [bind_assoc]; rfl
      · cases h
    · rename_i x at_ p1 y p2 i
      simp only [Bool.and_eq_true, decide_eq_true_eq] at h
      obtain ⟨⟨⟨⟨rfl, h2⟩, h3⟩, h4⟩, h5⟩ := h
      have ia := (snd_X o x false K Γ h4 bd W Y s).1 rfl
      obtain ⟨n1, n2, n3, n4⟩ := nm_at s h5
      have ib := sx_var (c := c) (W := W) (Γ := Γ) n1 n2 n3 n4 (pos := p2)
      refine .plain s.toCtx ?_ rfl
      have r := sx_index s.toCtx ia ib (fun ρ => ⟨(gt ρ i).map fun d => (d, ρ), by cases gt ρ i <;> rfl⟩) (.inr rfl) (attr_plain h2) h3
      rw [show (kA ((kd K Γ o).pu && true)) = kA (kd K Γ o).pu by rw [Bool.and_true]] at r
      refine r.cong fun ρ => ?_
      show _ = (evE C o ρ).bind fun p => ((evE C (.v i) p.2).bind fun p => ((.ok ([], p.2)) : R (List D × Env)).bind fun q => .ok (p.1 :: q.1, q.2)).bind fun q => (optR (meD .index p.1 q.1)).bind fun d => .ok (d, q.2)
      congr 1
      funext p
      have e : evE C (T.v i) p.2 = (optR (gt p.2 i)).bind fun d => .ok (d, p.2) := rfl
      rw [e]
      cases gt p.2 i <;> rfl
    · cases h
  | .pop i a, e, m, K, Γ, h, bd, W, Y, s => by
    cases e <;> first | (cases h; done) | skip
    rename_i fn es kw p
    unfold okX at h
    dsimp only at h
    split at h
    · rename_i x p0 at_ p1 b
      simp only [Bool.and_eq_true, decide_eq_true_eq] at h
      obtain ⟨⟨⟨⟨⟨⟨rfl, h2⟩, h3⟩, h4⟩, h5⟩, h6⟩, h7⟩ := h
      obtain ⟨g1, g2, g3, g4⟩ := nm_at s h2
      have ie := ((snd_X a b false K Γ h6 bd W Y s).1 rfl).fz h7
      exact .plain s.toCtx (sx_pop1 s.toCtx g1 g2 g3 g4 h3 ie rfl (by rw [star_cons h4]; rfl) h5 (star_cons h4) rfl) rfl
    · rename_i x p0 at_ p1
      split at h
      · rename_i j
        simp only [Bool.and_eq_true, decide_eq_true_eq] at h
        obtain ⟨⟨⟨⟨rfl, h2⟩, h3⟩, h5⟩, rfl⟩ := h
        obtain ⟨g1, g2, g3, g4⟩ := nm_at s h2
        exact .plain s.toCtx (sx_pop0 s.toCtx g1 g2 g3 g4 h3 rfl h5) rfl
      · cases h
    · cases h
  | .slc a lo hi, e, m, K, Γ, h, bd, W, Y, s => by
    cases e <;> first | (cases h; done) | skip
    rename_i o sl p
    unfold okX at h
    dsimp only at h
    split at h
    · rename_i l u p2
      simp only [Bool.and_eq_true] at h
      obtain ⟨⟨⟨h1, h2⟩, h3⟩, h4⟩ := h
      have ia := ((snd_X a o false K Γ h1 bd W Y s).1 rfl).fz h2
      have il : SO c W Γ (kd K Γ lo).pu Y l (partR (isNonT lo) (evE C lo)) := by
        cases l with
        | none =>
          replace h3 : isNonT lo = true := h3
          rw [h3]
          cases lo <;> first | (cases h3; done) | skip
          exact so_none
        | some x =>
          replace h3 : (!isNonT lo && okX false K Γ lo x) = true := h3
          simp only [Bool.and_eq_true, Bool.not_eq_true'] at h3
          rw [h3.1]
          exact so_some ((snd_X lo x false K Γ h3.2 bd W Y s).1 rfl)
      have iu : SO c W Γ (kd K Γ hi).pu Y u (partR (isNonT hi) (evE C hi)) := by
        cases u with
        | none =>
          replace h4 : isNonT hi = true := h4
          rw [h4]
          cases hi <;> first | (cases h4; done) | skip
          exact so_none
        | some x =>
          replace h4 : (!isNonT hi && okX false K Γ hi x) = true := h4
          simp only [Bool.and_eq_true, Bool.not_eq_true'] at h4
          rw [h4.1]
          exact so_some ((snd_X hi x false K Γ h4.2 bd W Y s).1 rfl)
      exact .plain s.toCtx (sx_slc s.toCtx ia il iu) rfl
    · cases h
  | .rev a, e, m, K, Γ, h, bd, W, Y, s => by
    cases e <;> first | (cases h; done) | skip
    rename_i o sl p
    unfold okX at h
    dsimp only at h
    split at h
    · simp only [Bool.and_eq_true] at h
      exact .plain s.toCtx (sx_rev s.toCtx (((snd_X a o false K Γ h.1 bd W Y s).1 rfl).fz h.2)) rfl
    · cases h
  | .dct ks vs, e, m, K, Γ, h, bd, W, Y, s => by
    cases e <;> first | (cases h; done) | skip
    rename_i keys values p
    replace h : (okP K Γ ks vs keys values && decide (keys.length ≤ 15) && decide ((keyL ks).Nodup)) = true := h
    simp only [Bool.and_eq_true, decide_eq_true_eq] at h
    obtain ⟨⟨h1, h2⟩, h3⟩ := h
    obtain ⟨sp, ek⟩ := snd_P vs ks keys values K Γ h1 bd W Y s p
    refine .plain s.toCtx ?_ rfl
    show SX c W Γ ⟨true, puA K Γ vs, 1⟩ Y _ (fun ρ => (evA C vs ρ).bind fun p => .ok (.dic (keysT ks) p.1, p.2))
    cases keys with
    | nil =>
      cases vs <;> first | (cases h1; done) | skip
      · cases ks <;> first | (cases h1; done) | skip
        cases values <;> first | (cases h1; done) | skip
        exact sx_dct0
      · cases ks <;> cases h1
    | cons ke keys =>
      rw [ek]
      exact sx_dct sp (by simp) h2 h3
  | .dc .., _, _, _, _, h, _, _, _, _ => by cases h
  | .dc2 .., _, _, _, _, h, _, _, _, _ => by cases h
  | .rng .., _, _, _, _, h, _, _, _, _ => by cases h
  | .enum .., _, _, _, _, h, _, _, _, _ => by cases h
  | .zip .., _, _, _, _, h, _, _, _, _ => by cases h
  | .items .., _, _, _, _, h, _, _, _, _ => by cases h
  | .vals .., _, _, _, _, h, _, _, _, _ => by cases h
  | .rvd .., _, _, _, _, h, _, _, _, _ => by cases h
  | .wlk .., _, _, _, _, h, _, _, _, _ => by cases h
  | .nil, _, _, _, _, h, _, _, _, _ => by cases h
  | .cons .., _, _, _, _, h, _, _, _, _ => by cases h
  | .asg .., _, _, _, _, h, _, _, _, _ => by cases h
  | .mov .., _, _, _, _, h, _, _, _, _ => by cases h
  | .par .., _, _, _, _, h, _, _, _, _ => by cases h
  | .aug .., _, _, _, _, h, _, _, _, _ => by cases h
  | .app .., _, _, _, _, h, _, _, _, _ => by cases h
  | .ins .., _, _, _, _, h, _, _, _, _ => by cases h
  | .upd .., _, _, _, _, h, _, _, _, _ => by cases h
  | .exp .., _, _, _, _, h, _, _, _, _ => by cases h
  | .sif .., _, _, _, _, h, _, _, _, _ => by cases h
  | .whl .., _, _, _, _, h, _, _, _, _ => by cases h
  | .for .., _, _, _, _, h, _, _, _, _ => by cases h
  | .ret .., _, _, _, _, h, _, _, _, _ => by cases h
  | .retv .., _, _, _, _, h, _, _, _, _ => by cases h
  | .retn, _, _, _, _, h, _, _, _, _ => by cases h
  | .rai .., _, _, _, _, h, _, _, _, _ => by cases h
  | .try .., _, _, _, _, h, _, _, _, _ => by cases h
  | .pas, _, _, _, _, h, _, _, _, _ => by cases h
  | .brk, _, _, _, _, h, _, _, _, _ => by cases h
  | .cnt, _, _, _, _, h, _, _, _, _ => by cases h
  | .frz .., _, _, _, _, h, _, _, _, _ => by cases h
  | .mask .., _, _, _, _, h, _, _, _, _ => by cases h
theorem snd_P : ∀ (t ks : T) (keys : List (Option Expr)) (values : List Expr) (K : Ck) (Γ : List Nat), okP K Γ ks t keys values = true → Bd c P w mg base k K.N K.t C → ∀ W Y, Scp c P w mg base k K.N K.sc W Y → ∀ pos, SPs c W Γ (puA K Γ t) Y pos keys values (keyL ks) (evA C t) ∧ keysT ks = (keyL ks).map kD
  | .nil, ks, keys, values, K, Γ, h, bd, W, Y, s, pos => by
    unfold okP at h
    split at h
    · exact ⟨sps_nil, rfl⟩
    · cases h
  | .cons v vs, ks, keys, values, K, Γ, h, bd, W, Y, s, pos => by
    unfold okP at h
    split at h
    · rename_i a b ke keys ve values
      simp only [Bool.and_eq_true] at h
      obtain ⟨⟨⟨h1, h2⟩, h3⟩, h4⟩ := h
      obtain ⟨sp, ek⟩ := snd_P vs b keys values K Γ h4 bd W Y s pos
      have iv := ((snd_X v ve false K Γ h2 bd W Y s).1 rfl).fz h3
      unfold keyB at h1
      split at h1
      · rename_i s1 x _ _
        rw [decide_eq_true_eq] at h1
        subst h1
        exact ⟨sps_cons (k := Sum.inr ⟨s1.toArray⟩) pe_str iv sp, by show D.str s1 :: keysT b = _; rw [ek]; rfl⟩
      · rename_i i j _ _
        rw [decide_eq_true_eq] at h1
        subst h1
        exact ⟨sps_cons (k := Sum.inl i) pe_int iv sp, by show D.int i :: keysT b = _; rw [ek]; rfl⟩
      · cases h1
    · cases h
  | .v _, _, _, _, _, _, h, _, _, _, _, _ => by cases h
  | .non, _, _, _, _, _, h, _, _, _, _, _ => by cases h
  | .tt, _, _, _, _, _, h, _, _, _, _, _ => by cases h
  | .ff, _, _, _, _, _, h, _, _, _, _, _ => by cases h
  | .int .., _, _, _, _, _, h, _, _, _, _, _ => by cases h
  | .str .., _, _, _, _, _, h, _, _, _, _, _ => by cases h
  | .bin .., _, _, _, _, _, h, _, _, _, _, _ => by cases h
  | .neg .., _, _, _, _, _, h, _, _, _, _, _ => by cases h
  | .not .., _, _, _, _, _, h, _, _, _, _, _ => by cases h
  | .and .., _, _, _, _, _, h, _, _, _, _, _ => by cases h
  | .or .., _, _, _, _, _, h, _, _, _, _, _ => by cases h
  | .cmp .., _, _, _, _, _, h, _, _, _, _, _ => by cases h
  | .ite .., _, _, _, _, _, h, _, _, _, _, _ => by cases h
  | .call .., _, _, _, _, _, h, _, _, _, _, _ => by cases h
  | .idx .., _, _, _, _, _, h, _, _, _, _, _ => by cases h
  | .tup .., _, _, _, _, _, h, _, _, _, _, _ => by cases h
  | .lst .., _, _, _, _, _, h, _, _, _, _, _ => by cases h
  | .lc .., _, _, _, _, _, h, _, _, _, _, _ => by cases h
  | .glob _, _, _, _, _, _, h, _, _, _, _, _ => by cases h
  | .fnv _, _, _, _, _, _, h, _, _, _, _, _ => by cases h
  | .atm _, _, _, _, _, _, h, _, _, _, _, _ => by cases h
  | .chain .., _, _, _, _, _, h, _, _, _, _, _ => by cases h
  | .isi .., _, _, _, _, _, h, _, _, _, _, _ => by cases h
  | .callk .., _, _, _, _, _, h, _, _, _, _, _ => by cases h
  | .callv .., _, _, _, _, _, h, _, _, _, _, _ => by cases h
  | .bi .., _, _, _, _, _, h, _, _, _, _, _ => by cases h
  | .biw .., _, _, _, _, _, h, _, _, _, _, _ => by cases h
  | .me .., _, _, _, _, _, h, _, _, _, _, _ => by cases h
  | .pop .., _, _, _, _, _, h, _, _, _, _, _ => by cases h
  | .slc .., _, _, _, _, _, h, _, _, _, _, _ => by cases h
  | .rev .., _, _, _, _, _, h, _, _, _, _, _ => by cases h
  | .dct .., _, _, _, _, _, h, _, _, _, _, _ => by cases h
  | .lc2 .., _, _, _, _, _, h, _, _, _, _, _ => by cases h
  | .dc .., _, _, _, _, _, h, _, _, _, _, _ => by cases h
  | .dc2 .., _, _, _, _, _, h, _, _, _, _, _ => by cases h
  | .attr .., _, _, _, _, _, h, _, _, _, _, _ => by cases h
  | .rng .., _, _, _, _, _, h, _, _, _, _, _ => by cases h
  | .enum .., _, _, _, _, _, h, _, _, _, _, _ => by cases h
  | .zip .., _, _, _, _, _, h, _, _, _, _, _ => by cases h
  | .items .., _, _, _, _, _, h, _, _, _, _, _ => by cases h
  | .vals .., _, _, _, _, _, h, _, _, _, _, _ => by cases h
  | .rvd .., _, _, _, _, _, h, _, _, _, _, _ => by cases h
  | .wlk .., _, _, _, _, _, h, _, _, _, _, _ => by cases h
  | .asg .., _, _, _, _, _, h, _, _, _, _, _ => by cases h
  | .mov .., _, _, _, _, _, h, _, _, _, _, _ => by cases h
  | .par .., _, _, _, _, _, h, _, _, _, _, _ => by cases h
  | .aug .., _, _, _, _, _, h, _, _, _, _, _ => by cases h
  | .app .., _, _, _, _, _, h, _, _, _, _, _ => by cases h
  | .ins .., _, _, _, _, _, h, _, _, _, _, _ => by cases h
  | .upd .., _, _, _, _, _, h, _, _, _, _, _ => by cases h
  | .exp .., _, _, _, _, _, h, _, _, _, _, _ => by cases h
  | .sif .., _, _, _, _, _, h, _, _, _, _, _ => by cases h
  | .whl .., _, _, _, _, _, h, _, _, _, _, _ => by cases h
  | .for .., _, _, _, _, _, h, _, _, _, _, _ => by cases h
  | .ret .., _, _, _, _, _, h, _, _, _, _, _ => by cases h
  | .retv .., _, _, _, _, _, h, _, _, _, _, _ => by cases h
  | .retn, _, _, _, _, _, h, _, _, _, _, _ => by cases h
  | .rai .., _, _, _, _, _, h, _, _, _, _, _ => by cases h
  | .try .., _, _, _, _, _, h, _, _, _, _, _ => by cases h
  | .pas, _, _, _, _, _, h, _, _, _, _, _ => by cases h
  | .brk, _, _, _, _, _, h, _, _, _, _, _ => by cases h
  | .cnt, _, _, _, _, _, h, _, _, _, _, _ => by cases h
  | .frz .., _, _, _, _, _, h, _, _, _, _, _ => by cases h
  | .mask .., _, _, _, _, _, h, _, _, _, _, _ => by cases h
theorem snd_AK : ∀ (t : T) (es : List Expr) (kws : List Keyword) (K : Ck) (Γ : List Nat), okAK K Γ t es kws = true → Bd c P w mg base k K.N K.t C → ∀ W Y, Scp c P w mg base k K.N K.sc W Y →
    es.all noStar = true ∧ ∃ (pa pb : Bool) (fs gs : Env → R (List D × Env)), SA c W Γ (List.replicate es.length none) pa Y es fs ∧ SK c W Γ (List.replicate kws.length none) pb Y kws gs ∧ puA K Γ t = (pa && pb) ∧
      (∀ ρ, evA C t ρ = (fs ρ).bind fun p => (gs p.2).bind fun q => .ok (p.1 ++ q.1, q.2)) ∧ (es = [] → pa = true ∧ ∀ ρ, evA C t ρ = gs ρ)
  | .nil, es, kws, K, Γ, h, bd, W, Y, s => by
    unfold okAK at h
    split at h
    · exact ⟨rfl, true, true, _, _, sa_nil, sk_nil, rfl, fun ρ => rfl, fun _ => ⟨rfl, fun ρ => rfl⟩⟩
    · cases h
  | .cons a b, es, kws, K, Γ, h, bd, W, Y, s => by
    cases es with
    | cons e es =>
      replace h : (noStar e && okX false K Γ a e && (kd K Γ a).own && okAK K Γ b es kws) = true := h
      simp only [Bool.and_eq_true] at h
      obtain ⟨⟨⟨h1, h2⟩, h3⟩, h4⟩ := h
      obtain ⟨ns, pa, pb, fs, gs, sa, sk, ep, ef, _⟩ := snd_AK b es kws K Γ h4 bd W Y s
      have ia := ((snd_X a e false K Γ h2 bd W Y s).1 rfl).fz h3
      refine ⟨by rw [List.all_cons, h1, ns]; rfl, (kd K Γ a).pu && pa, pb, _, gs, sa_cons ia sa (star_cons h1), sk, ?_, fun ρ => ?_, fun z => by cases z⟩
      · show ((kd K Γ a).pu && puA K Γ b) = _
        rw [ep, Bool.and_assoc]
      · show ((evE C a ρ).bind fun p => (evA C b p.2).bind fun q => .ok (p.1 :: q.1, q.2)) = _
        rw [bind_assoc]
        congr 1
        funext p
        rw [ef, bind_assoc, bind_assoc]
        congr 1
        funext q
        rw [bind_assoc]
        show _ = (gs q.2).bind _
        congr 1
    | nil =>
      cases kws with
      | nil => cases h
      | cons kw kws =>
        obtain ⟨nm, e, kp⟩ := kw
        replace h : (okX false K Γ a e && (kd K Γ a).own && okAK K Γ b [] kws) = true := h
        simp only [Bool.and_eq_true] at h
        obtain ⟨⟨h2, h3⟩, h4⟩ := h
        obtain ⟨ns, pa, pb, fs, gs, sa, sk, ep, ef, e0⟩ := snd_AK b [] kws K Γ h4 bd W Y s
        obtain ⟨rfl, e1⟩ := e0 rfl
        have ia := ((snd_X a e false K Γ h2 bd W Y s).1 rfl).fz h3
        have ev : ∀ ρ, evA C (.cons a b) ρ = (evE C a ρ).bind fun p => (gs p.2).bind fun q => .ok (p.1 :: q.1, q.2) := fun ρ => by
          show ((evE C a ρ).bind fun p => (evA C b p.2).bind fun q => .ok (p.1 :: q.1, q.2)) = _
          congr 1
          funext p
          rw [e1]
        refine ⟨rfl, true, (kd K Γ a).pu && pb, _, _, sa_nil, sk_cons ia sk, ?_, fun ρ => ?_, fun _ => ⟨rfl, ev⟩⟩
        · show ((kd K Γ a).pu && puA K Γ b) = _
          rw [ep]; rfl
        · rw [ev]
          show _ = ((evE C a ρ).bind _).bind _
          rw [bind_assoc]
          congr 1
          funext p
          rw [bind_assoc]
          rfl
  | .v _, _, _, _, _, h, _, _, _, _ => by cases h
  | .non, _, _, _, _, h, _, _, _, _ => by cases h
  | .tt, _, _, _, _, h, _, _, _, _ => by cases h
  | .ff, _, _, _, _, h, _, _, _, _ => by cases h
  | .int .., _, _, _, _, h, _, _, _, _ => by cases h
  | .str .., _, _, _, _, h, _, _, _, _ => by cases h
  | .bin .., _, _, _, _, h, _, _, _, _ => by cases h
  | .neg .., _, _, _, _, h, _, _, _, _ => by cases h
  | .not .., _, _, _, _, h, _, _, _, _ => by cases h
  | .and .., _, _, _, _, h, _, _, _, _ => by cases h
  | .or .., _, _, _, _, h, _, _, _, _ => by cases h
  | .cmp .., _, _, _, _, h, _, _, _, _ => by cases h
  | .ite .., _, _, _, _, h, _, _, _, _ => by cases h
  | .call .., _, _, _, _, h, _, _, _, _ => by cases h
  | .idx .., _, _, _, _, h, _, _, _, _ => by cases h
  | .tup .., _, _, _, _, h, _, _, _, _ => by cases h
  | .lst .., _, _, _, _, h, _, _, _, _ => by cases h
  | .lc .., _, _, _, _, h, _, _, _, _ => by cases h
  | .glob _, _, _, _, _, h, _, _, _, _ => by cases h
  | .fnv _, _, _, _, _, h, _, _, _, _ => by cases h
  | .atm _, _, _, _, _, h, _, _, _, _ => by cases h
  | .chain .., _, _, _, _, h, _, _, _, _ => by cases h
  | .isi .., _, _, _, _, h, _, _, _, _ => by cases h
  | .callk .., _, _, _, _, h, _, _, _, _ => by cases h
  | .callv .., _, _, _, _, h, _, _, _, _ => by cases h
  | .bi .., _, _, _, _, h, _, _, _, _ => by cases h
  | .biw .., _, _, _, _, h, _, _, _, _ => by cases h
  | .me .., _, _, _, _, h, _, _, _, _ => by cases h
  | .pop .., _, _, _, _, h, _, _, _, _ => by cases h
  | .slc .., _, _, _, _, h, _, _, _, _ => by cases h
  | .rev .., _, _, _, _, h, _, _, _, _ => by cases h
  | .dct .., _, _, _, _, h, _, _, _, _ => by cases h
  | .lc2 .., _, _, _, _, h, _, _, _, _ => by cases h
  | .dc .., _, _, _, _, h, _, _, _, _ => by cases h
  | .dc2 .., _, _, _, _, h, _, _, _, _ => by cases h
  | .attr .., _, _, _, _, h, _, _, _, _ => by cases h
  | .rng .., _, _, _, _, h, _, _, _, _ => by cases h
  | .enum .., _, _, _, _, h, _, _, _, _ => by cases h
  | .zip .., _, _, _, _, h, _, _, _, _ => by cases h
  | .items .., _, _, _, _, h, _, _, _, _ => by cases h
  | .vals .., _, _, _, _, h, _, _, _, _ => by cases h
  | .rvd .., _, _, _, _, h, _, _, _, _ => by cases h
  | .wlk .., _, _, _, _, h, _, _, _, _ => by cases h
  | .asg .., _, _, _, _, h, _, _, _, _ => by cases h
  | .mov .., _, _, _, _, h, _, _, _, _ => by cases h
  | .par .., _, _, _, _, h, _, _, _, _ => by cases h
  | .aug .., _, _, _, _, h, _, _, _, _ => by cases h
  | .app .., _, _, _, _, h, _, _, _, _ => by cases h
  | .ins .., _, _, _, _, h, _, _, _, _ => by cases h
  | .upd .., _, _, _, _, h, _, _, _, _ => by cases h
  | .exp .., _, _, _, _, h, _, _, _, _ => by cases h
  | .sif .., _, _, _, _, h, _, _, _, _ => by cases h
  | .whl .., _, _, _, _, h, _, _, _, _ => by cases h
  | .for .., _, _, _, _, h, _, _, _, _ => by cases h
  | .ret .., _, _, _, _, h, _, _, _, _ => by cases h
  | .retv .., _, _, _, _, h, _, _, _, _ => by cases h
  | .retn, _, _, _, _, h, _, _, _, _ => by cases h
  | .rai .., _, _, _, _, h, _, _, _, _ => by cases h
  | .try .., _, _, _, _, h, _, _, _, _ => by cases h
  | .pas, _, _, _, _, h, _, _, _, _ => by cases h
  | .brk, _, _, _, _, h, _, _, _, _ => by cases h
  | .cnt, _, _, _, _, h, _, _, _, _ => by cases h
  | .frz .., _, _, _, _, h, _, _, _, _ => by cases h
  | .mask .., _, _, _, _, h, _, _, _, _ => by cases h
theorem snd_A : ∀ (t : T) (es : List Expr) (K : Ck) (Γ : List Nat) (io : List (Nat × Nat)) (k0 : Nat), okA K Γ io k0 t es = true → Bd c P w mg base k K.N K.t C → ∀ W Y, Scp c P w mg base k K.N K.sc W Y → SA c W Γ (lsOf io k0 es.length) (puA K Γ t) Y es (evA C t)
  | .nil, es, K, Γ, io, k0, h, bd, W, Y, s => by
    cases es with
    | nil => exact sa_nil
    | cons e es => cases h
  | .cons a b, es, K, Γ, io, k0, h, bd, W, Y, s => by
    cases es with
    | nil => cases h
    | cons e es =>
      replace h : (noStar e && (match io.lookup k0 with
        | some i => lentB K i a e
        | none => okX false K Γ a e && (kd K Γ a).own) && okA K Γ io (k0 + 1) b es) = true := h
      simp only [Bool.and_eq_true] at h
      obtain ⟨⟨h1, h2⟩, h3⟩ := h
      have hr := snd_A b es K Γ io (k0 + 1) h3 bd W Y s
      show SA c W Γ (io.lookup k0 :: lsOf io (k0 + 1) es.length) _ Y _ _
      cases hl : io.lookup k0 with
      | none =>
        rw [hl] at h2
        simp only [Bool.and_eq_true] at h2
        have ia := (snd_X a e false K Γ h2.1 bd W Y s).1 rfl
        exact sa_cons (ia.fz h2.2) hr (star_cons h1)
      | some i =>
        rw [hl] at h2
        cases a <;> first | (cases h2; done) | skip
        rename_i i'
        cases e <;> first | (cases h2; done) | skip
        rename_i x p
        replace h2 : (decide (i' = i) && nm K i x) = true := h2
        simp only [Bool.and_eq_true, decide_eq_true_eq] at h2
        obtain ⟨rfl, h2⟩ := h2
        obtain ⟨g1, g2, g3, g4⟩ := nm_at s h2
        exact sa_lent g1 g2 g3 g4 hr (star_cons h1)
  | .v _, _, _, _, _, _, h, _, _, _, _ => by cases h
  | .non, _, _, _, _, _, h, _, _, _, _ => by cases h
  | .tt, _, _, _, _, _, h, _, _, _, _ => by cases h
  | .ff, _, _, _, _, _, h, _, _, _, _ => by cases h
  | .int .., _, _, _, _, _, h, _, _, _, _ => by cases h
  | .str .., _, _, _, _, _, h, _, _, _, _ => by cases h
  | .bin .., _, _, _, _, _, h, _, _, _, _ => by cases h
  | .neg .., _, _, _, _, _, h, _, _, _, _ => by cases h
  | .not .., _, _, _, _, _, h, _, _, _, _ => by cases h
  | .and .., _, _, _, _, _, h, _, _, _, _ => by cases h
  | .or .., _, _, _, _, _, h, _, _, _, _ => by cases h
  | .cmp .., _, _, _, _, _, h, _, _, _, _ => by cases h
  | .ite .., _, _, _, _, _, h, _, _, _, _ => by cases h
  | .call .., _, _, _, _, _, h, _, _, _, _ => by cases h
  | .idx .., _, _, _, _, _, h, _, _, _, _ => by cases h
  | .tup .., _, _, _, _, _, h, _, _, _, _ => by cases h
  | .lst .., _, _, _, _, _, h, _, _, _, _ => by cases h
  | .lc .., _, _, _, _, _, h, _, _, _, _ => by cases h
  | .glob _, _, _, _, _, _, h, _, _, _, _ => by cases h
  | .fnv _, _, _, _, _, _, h, _, _, _, _ => by cases h
  | .atm _, _, _, _, _, _, h, _, _, _, _ => by cases h
  | .chain .., _, _, _, _, _, h, _, _, _, _ => by cases h
  | .isi .., _, _, _, _, _, h, _, _, _, _ => by cases h
  | .callk .., _, _, _, _, _, h, _, _, _, _ => by cases h
  | .callv .., _, _, _, _, _, h, _, _, _, _ => by cases h
  | .bi .., _, _, _, _, _, h, _, _, _, _ => by cases h
  | .biw .., _, _, _, _, _, h, _, _, _, _ => by cases h
  | .me .., _, _, _, _, _, h, _, _, _, _ => by cases h
  | .pop .., _, _, _, _, _, h, _, _, _, _ => by cases h
  | .slc .., _, _, _, _, _, h, _, _, _, _ => by cases h
  | .rev .., _, _, _, _, _, h, _, _, _, _ => by cases h
  | .dct .., _, _, _, _, _, h, _, _, _, _ => by cases h
  | .lc2 .., _, _, _, _, _, h, _, _, _, _ => by cases h
  | .dc .., _, _, _, _, _, h, _, _, _, _ => by cases h
  | .dc2 .., _, _, _, _, _, h, _, _, _, _ => by cases h
  | .attr .., _, _, _, _, _, h, _, _, _, _ => by cases h
  | .rng .., _, _, _, _, _, h, _, _, _, _ => by cases h
  | .enum .., _, _, _, _, _, h, _, _, _, _ => by cases h
  | .zip .., _, _, _, _, _, h, _, _, _, _ => by cases h
  | .items .., _, _, _, _, _, h, _, _, _, _ => by cases h
  | .vals .., _, _, _, _, _, h, _, _, _, _ => by cases h
  | .rvd .., _, _, _, _, _, h, _, _, _, _ => by cases h
  | .wlk .., _, _, _, _, _, h, _, _, _, _ => by cases h
  | .asg .., _, _, _, _, _, h, _, _, _, _ => by cases h
  | .mov .., _, _, _, _, _, h, _, _, _, _ => by cases h
  | .par .., _, _, _, _, _, h, _, _, _, _ => by cases h
  | .aug .., _, _, _, _, _, h, _, _, _, _ => by cases h
  | .app .., _, _, _, _, _, h, _, _, _, _ => by cases h
  | .ins .., _, _, _, _, _, h, _, _, _, _ => by cases h
  | .upd .., _, _, _, _, _, h, _, _, _, _ => by cases h
  | .exp .., _, _, _, _, _, h, _, _, _, _ => by cases h
  | .sif .., _, _, _, _, _, h, _, _, _, _ => by cases h
  | .whl .., _, _, _, _, _, h, _, _, _, _ => by cases h
  | .for .., _, _, _, _, _, h, _, _, _, _ => by cases h
  | .ret .., _, _, _, _, _, h, _, _, _, _ => by cases h
  | .retv .., _, _, _, _, _, h, _, _, _, _ => by cases h
  | .retn, _, _, _, _, _, h, _, _, _, _ => by cases h
  | .rai .., _, _, _, _, _, h, _, _, _, _ => by cases h
  | .try .., _, _, _, _, _, h, _, _, _, _ => by cases h
  | .pas, _, _, _, _, _, h, _, _, _, _ => by cases h
  | .brk, _, _, _, _, _, h, _, _, _, _ => by cases h
  | .cnt, _, _, _, _, _, h, _, _, _, _ => by cases h
  | .frz .., _, _, _, _, _, h, _, _, _, _ => by cases h
  | .mask .., _, _, _, _, _, h, _, _, _, _ => by cases h
theorem snd_C : ∀ (t : T) (es : List Expr) (K : Ck) (Γ : List Nat), okC K Γ t es = true → Bd c P w mg base k K.N K.t C → ∃ pc, ∀ W Y, Scp c P w mg base k K.N K.sc W Y → PTs Y es (tX2 c W Γ pc (evC C t))
  | .nil, es, K, Γ, h, bd => by
    cases es with
    | nil => exact ⟨true, fun W Y s => ⟨fun pins s σ H Q I z => pts_nil.run pins s σ H Q I (tX2_yes z)⟩⟩
    | cons e es => cases h
  | .cons a b, es, K, Γ, h, bd => by
    match es, h with
    | [], h => cases h
    | _ :: _ :: _, h => cases h
    | [e], h => exact ⟨(kd K Γ a).pu, fun W Y s => pts_one ((snd_X a e true K Γ h bd W Y s).2 rfl).1⟩
  | .v _, _, _, _, h, _ => by cases h
  | .non, _, _, _, h, _ => by cases h
  | .tt, _, _, _, h, _ => by cases h
  | .ff, _, _, _, h, _ => by cases h
  | .int .., _, _, _, h, _ => by cases h
  | .str .., _, _, _, h, _ => by cases h
  | .bin .., _, _, _, h, _ => by cases h
  | .neg .., _, _, _, h, _ => by cases h
  | .not .., _, _, _, h, _ => by cases h
  | .and .., _, _, _, h, _ => by cases h
  | .or .., _, _, _, h, _ => by cases h
  | .cmp .., _, _, _, h, _ => by cases h
  | .ite .., _, _, _, h, _ => by cases h
  | .call .., _, _, _, h, _ => by cases h
  | .idx .., _, _, _, h, _ => by cases h
  | .tup .., _, _, _, h, _ => by cases h
  | .lst .., _, _, _, h, _ => by cases h
  | .lc .., _, _, _, h, _ => by cases h
  | .glob _, _, _, _, h, _ => by cases h
  | .fnv _, _, _, _, h, _ => by cases h
  | .atm _, _, _, _, h, _ => by cases h
  | .chain .., _, _, _, h, _ => by cases h
  | .isi .., _, _, _, h, _ => by cases h
  | .callk .., _, _, _, h, _ => by cases h
  | .callv .., _, _, _, h, _ => by cases h
  | .bi .., _, _, _, h, _ => by cases h
  | .biw .., _, _, _, h, _ => by cases h
  | .me .., _, _, _, h, _ => by cases h
  | .pop .., _, _, _, h, _ => by cases h
  | .slc .., _, _, _, h, _ => by cases h
  | .rev .., _, _, _, h, _ => by cases h
  | .dct .., _, _, _, h, _ => by cases h
  | .lc2 .., _, _, _, h, _ => by cases h
  | .dc .., _, _, _, h, _ => by cases h
  | .dc2 .., _, _, _, h, _ => by cases h
  | .attr .., _, _, _, h, _ => by cases h
  | .rng .., _, _, _, h, _ => by cases h
  | .enum .., _, _, _, h, _ => by cases h
  | .zip .., _, _, _, h, _ => by cases h
  | .items .., _, _, _, h, _ => by cases h
  | .vals .., _, _, _, h, _ => by cases h
  | .rvd .., _, _, _, h, _ => by cases h
  | .wlk .., _, _, _, h, _ => by cases h
  | .asg .., _, _, _, h, _ => by cases h
  | .mov .., _, _, _, h, _ => by cases h
  | .par .., _, _, _, h, _ => by cases h
  | .aug .., _, _, _, h, _ => by cases h
  | .app .., _, _, _, h, _ => by cases h
  | .ins .., _, _, _, h, _ => by cases h
  | .upd .., _, _, _, h, _ => by cases h
  | .exp .., _, _, _, h, _ => by cases h
  | .sif .., _, _, _, h, _ => by cases h
  | .whl .., _, _, _, h, _ => by cases h
  | .for .., _, _, _, h, _ => by cases h
  | .ret .., _, _, _, h, _ => by cases h
  | .retv .., _, _, _, h, _ => by cases h
  | .retn, _, _, _, h, _ => by cases h
  | .rai .., _, _, _, h, _ => by cases h
  | .try .., _, _, _, h, _ => by cases h
  | .pas, _, _, _, h, _ => by cases h
  | .brk, _, _, _, h, _ => by cases h
  | .cnt, _, _, _, h, _ => by cases h
  | .frz .., _, _, _, h, _ => by cases h
  | .mask .., _, _, _, h, _ => by cases h
theorem snd_I : ∀ (t : T) (e : Expr) (K : Ck) (Γ : List Nat), okI K Γ t e = true → Bd c P w mg base k K.N K.t C → ∃ pi, ∀ W Y, Scp c P w mg base k K.N K.sc W Y → ∀ tg, tgB t tg = true → SI c W Γ pi Y tg e (evI C t)
  | .rng as, e, K, Γ, h, bd => by
    cases e <;> first | (cases h; done) | skip
    rename_i fn es kw p
    cases fn <;> first | (cases h; done) | skip
    rename_i x p0
    match kw, h with
    | _ :: _, h => cases h
    | [], h =>
      replace h : (decide (x = "range") && glB K.sc x && decide (x ∈ K.bl) && okA K Γ [] 0 as es && len12 es && es.all noStar) = true := h
      simp only [Bool.and_eq_true, decide_eq_true_eq] at h
      obtain ⟨⟨⟨⟨⟨rfl, h2⟩, h3⟩, h4⟩, h5⟩, h6⟩ := h
      match es, h4, h5, h6 with
      | [a], h4, h5, h6 =>
        have n1 : noStar a = true := List.all_eq_true.mp h6 a (by simp)
        exact ⟨puA K Γ as, fun W Y s tg _ => si_rng1 (snd_A as [a] K Γ [] 0 h4 bd W Y s) (s.gl h2) (by rw [s.emg]; exact bd.bl _ h3) (star_cons n1)⟩
      | [a, b], h4, h5, h6 =>
        have n1 : noStar a = true := List.all_eq_true.mp h6 a (by simp)
        have n2 : noStar b = true := List.all_eq_true.mp h6 b (by simp)
        exact ⟨puA K Γ as, fun W Y s tg _ => si_rng2 (snd_A as [a, b] K Γ [] 0 h4 bd W Y s) (s.gl h2) (by rw [s.emg]; exact bd.bl _ h3) (by rw [star_cons n1, star_cons n2]; rfl) (star_cons n2)⟩
      | [], h4, h5, h6 => cases h5
      | _ :: _ :: _ :: _, h4, h5, h6 => cases h5
  | .wlk a, e, K, Γ, h, bd => by
    replace h : (okX false K Γ a e && (kd K Γ a).own) = true := h
    simp only [Bool.and_eq_true] at h
    exact ⟨(kd K Γ a).pu, fun W Y s tg _ => si_wlk s.toCtx (((snd_X a e false K Γ h.1 bd W Y s).1 rfl).fz h.2)⟩
  | .v _, _, _, _, h, _ => by cases h
  | .non, _, _, _, h, _ => by cases h
  | .tt, _, _, _, h, _ => by cases h
  | .ff, _, _, _, h, _ => by cases h
  | .int .., _, _, _, h, _ => by cases h
  | .str .., _, _, _, h, _ => by cases h
  | .bin .., _, _, _, h, _ => by cases h
  | .neg .., _, _, _, h, _ => by cases h
  | .not .., _, _, _, h, _ => by cases h
  | .and .., _, _, _, h, _ => by cases h
  | .or .., _, _, _, h, _ => by cases h
  | .cmp .., _, _, _, h, _ => by cases h
  | .ite .., _, _, _, h, _ => by cases h
  | .call .., _, _, _, h, _ => by cases h
  | .idx .., _, _, _, h, _ => by cases h
  | .tup .., _, _, _, h, _ => by cases h
  | .lst .., _, _, _, h, _ => by cases h
  | .lc .., _, _, _, h, _ => by cases h
  | .glob _, _, _, _, h, _ => by cases h
  | .fnv _, _, _, _, h, _ => by cases h
  | .atm _, _, _, _, h, _ => by cases h
  | .chain .., _, _, _, h, _ => by cases h
  | .isi .., _, _, _, h, _ => by cases h
  | .callk .., _, _, _, h, _ => by cases h
  | .callv .., _, _, _, h, _ => by cases h
  | .bi .., _, _, _, h, _ => by cases h
  | .biw .., _, _, _, h, _ => by cases h
  | .me .., _, _, _, h, _ => by cases h
  | .pop .., _, _, _, h, _ => by cases h
  | .slc .., _, _, _, h, _ => by cases h
  | .rev .., _, _, _, h, _ => by cases h
  | .dct .., _, _, _, h, _ => by cases h
  | .lc2 .., _, _, _, h, _ => by cases h
  | .dc .., _, _, _, h, _ => by cases h
  | .dc2 .., _, _, _, h, _ => by cases h
  | .attr .., _, _, _, h, _ => by cases h
  | .enum a, e, K, Γ, h, bd => by
    cases e <;> first | (cases h; done) | skip
    rename_i fn es kw p
    unfold okI at h
    dsimp only at h
    split at h
    · rename_i x p0 y
      simp only [Bool.and_eq_true] at h
      obtain ⟨⟨⟨h1, h2⟩, h3⟩, h4⟩ := h
      refine ⟨(kd K Γ a).pu, fun W Y s tg ht => ?_⟩
      obtain ⟨rfl, g1, g2⟩ := bn_at s bd h1
      cases tg <;> first | (cases ht; done) | skip
      exact si_enum s.toCtx g1 g2 (((snd_X a y false K Γ h3 bd W Y s).1 rfl).fz h4) h2
    · cases h
  | .zip a b, e, K, Γ, h, bd => by
    cases e <;> first | (cases h; done) | skip
    rename_i fn es kw p
    unfold okI at h
    dsimp only at h
    split at h
    · rename_i x p0 y z
      simp only [Bool.and_eq_true] at h
      obtain ⟨⟨⟨⟨⟨⟨h1, h2⟩, h3⟩, h4⟩, h5⟩, h6⟩, h7⟩ := h
      refine ⟨(kd K Γ a).pu && (kd K Γ b).pu, fun W Y s tg ht => ?_⟩
      obtain ⟨rfl, g1, g2⟩ := bn_at s bd h1
      cases tg <;> first | (cases ht; done) | skip
      exact si_zip s.toCtx g1 g2 (((snd_X a y false K Γ h4 bd W Y s).1 rfl).fz h5) (((snd_X b z false K Γ h6 bd W Y s).1 rfl).fz h7) h2 h3
    · cases h
  | .items .., _, _, _, h, _ => by cases h
  | .vals .., _, _, _, h, _ => by cases h
  | .rvd .., _, _, _, h, _ => by cases h
  | .nil, _, _, _, h, _ => by cases h
  | .cons .., _, _, _, h, _ => by cases h
  | .asg .., _, _, _, h, _ => by cases h
  | .mov .., _, _, _, h, _ => by cases h
  | .par .., _, _, _, h, _ => by cases h
  | .aug .., _, _, _, h, _ => by cases h
  | .app .., _, _, _, h, _ => by cases h
  | .ins .., _, _, _, h, _ => by cases h
  | .upd .., _, _, _, h, _ => by cases h
  | .exp .., _, _, _, h, _ => by cases h
  | .sif .., _, _, _, h, _ => by cases h
  | .whl .., _, _, _, h, _ => by cases h
  | .for .., _, _, _, h, _ => by cases h
  | .ret .., _, _, _, h, _ => by cases h
  | .retv .., _, _, _, h, _ => by cases h
  | .retn, _, _, _, h, _ => by cases h
  | .rai .., _, _, _, h, _ => by cases h
  | .try .., _, _, _, h, _ => by cases h
  | .pas, _, _, _, h, _ => by cases h
  | .brk, _, _, _, h, _ => by cases h
  | .cnt, _, _, _, h, _ => by cases h
  | .frz .., _, _, _, h, _ => by cases h
  | .mask .., _, _, _, h, _ => by cases h
theorem snd_G : ∀ (t : T) (e : Expr) (M : Nat → Bool) (K : Ck) (Γ : List Nat), okG M K Γ t e = true → Bd c P w mg base k K.N K.t C → ∀ W Y (Z : Zd), Z.M = M → Scp c P w mg base k K.N K.sc W Y → SG c W Z Γ (gG t Γ) Y e (evG C t)
  | .v i, e, M, K, Γ, h, bd, W, Y, Z, hZ, s => by
    cases e <;> first | (cases h; done) | skip
    rename_i x p
    replace h : nmL K M Γ i x = true := h
    unfold nmL at h
    simp only [Bool.and_eq_true, decide_eq_true_eq] at h
    obtain ⟨⟨⟨h1, h2⟩, h3⟩, h4⟩ := h
    obtain ⟨g1, g2⟩ := s.loc h2
    exact sg_name (by rw [s.eN]; exact s.nd) (by rw [s.eN]; exact h1) g1 g2 h3 (by rw [hZ]; exact h4)
  | .tup as, e, M, K, Γ, h, bd, W, Y, Z, hZ, s => by
    cases e <;> first | (cases h; done) | skip
    rename_i es k2 p
    replace h : (okGs M K Γ as es && es.all noStar && decide (lenT as = es.length)) = true := h
    simp only [Bool.and_eq_true, decide_eq_true_eq] at h
    exact sg_tup s.toCtx (snd_Gs as es M K Γ h.1.1 bd W Y Z hZ s) (by rw [assign_len]; exact h.2.symm) (assign_find h.1.2)
  | .idx a b, e, M, K, Γ, h, bd, W, Y, Z, hZ, s => by
    cases a <;> first | (cases h; done) | skip
    rename_i i
    cases e <;> first | (cases h; done) | skip
    rename_i o sl p
    cases o <;> first | (cases h; done) | skip
    rename_i x p0
    replace h : (nm K i x && decide (Γ.getD i 0 = 1) && okX false K Γ b sl && noSlc sl) = true := h
    simp only [Bool.and_eq_true, decide_eq_true_eq] at h
    obtain ⟨⟨⟨h1, h2⟩, h3⟩, h4⟩ := h
    obtain ⟨g1, g2, g3, g4⟩ := nm_at s h1
    have ib := (snd_X b sl false K Γ h3 bd W Y s).1 rfl
    exact sg_idx g1 g2 g3 g4 h2 ib (fun v => by cases sl <;> first | rfl | (cases h4; done))
  | .non, _, _, _, _, h, _, _, _, _, _, _ => by cases h
  | .tt, _, _, _, _, h, _, _, _, _, _, _ => by cases h
  | .ff, _, _, _, _, h, _, _, _, _, _, _ => by cases h
  | .int .., _, _, _, _, h, _, _, _, _, _, _ => by cases h
  | .str .., _, _, _, _, h, _, _, _, _, _, _ => by cases h
  | .bin .., _, _, _, _, h, _, _, _, _, _, _ => by cases h
  | .neg .., _, _, _, _, h, _, _, _, _, _, _ => by cases h
  | .not .., _, _, _, _, h, _, _, _, _, _, _ => by cases h
  | .and .., _, _, _, _, h, _, _, _, _, _, _ => by cases h
  | .or .., _, _, _, _, h, _, _, _, _, _, _ => by cases h
  | .cmp .., _, _, _, _, h, _, _, _, _, _, _ => by cases h
  | .ite .., _, _, _, _, h, _, _, _, _, _, _ => by cases h
  | .call .., _, _, _, _, h, _, _, _, _, _, _ => by cases h
  | .lst .., _, _, _, _, h, _, _, _, _, _, _ => by cases h
  | .lc .., _, _, _, _, h, _, _, _, _, _, _ => by cases h
  | .glob _, _, _, _, _, h, _, _, _, _, _, _ => by cases h
  | .fnv _, _, _, _, _, h, _, _, _, _, _, _ => by cases h
  | .atm _, _, _, _, _, h, _, _, _, _, _, _ => by cases h
  | .chain .., _, _, _, _, h, _, _, _, _, _, _ => by cases h
  | .isi .., _, _, _, _, h, _, _, _, _, _, _ => by cases h
  | .callk .., _, _, _, _, h, _, _, _, _, _, _ => by cases h
  | .callv .., _, _, _, _, h, _, _, _, _, _, _ => by cases h
  | .bi .., _, _, _, _, h, _, _, _, _, _, _ => by cases h
  | .biw .., _, _, _, _, h, _, _, _, _, _, _ => by cases h
  | .me .., _, _, _, _, h, _, _, _, _, _, _ => by cases h
  | .pop .., _, _, _, _, h, _, _, _, _, _, _ => by cases h
  | .slc .., _, _, _, _, h, _, _, _, _, _, _ => by cases h
  | .rev .., _, _, _, _, h, _, _, _, _, _, _ => by cases h
  | .dct .., _, _, _, _, h, _, _, _, _, _, _ => by cases h
  | .lc2 .., _, _, _, _, h, _, _, _, _, _, _ => by cases h
  | .dc .., _, _, _, _, h, _, _, _, _, _, _ => by cases h
  | .dc2 .., _, _, _, _, h, _, _, _, _, _, _ => by cases h
  | .attr .., _, _, _, _, h, _, _, _, _, _, _ => by cases h
  | .rng .., _, _, _, _, h, _, _, _, _, _, _ => by cases h
  | .enum .., _, _, _, _, h, _, _, _, _, _, _ => by cases h
  | .zip .., _, _, _, _, h, _, _, _, _, _, _ => by cases h
  | .items .., _, _, _, _, h, _, _, _, _, _, _ => by cases h
  | .vals .., _, _, _, _, h, _, _, _, _, _, _ => by cases h
  | .rvd .., _, _, _, _, h, _, _, _, _, _, _ => by cases h
  | .wlk .., _, _, _, _, h, _, _, _, _, _, _ => by cases h
  | .nil, _, _, _, _, h, _, _, _, _, _, _ => by cases h
  | .cons .., _, _, _, _, h, _, _, _, _, _, _ => by cases h
  | .asg .., _, _, _, _, h, _, _, _, _, _, _ => by cases h
  | .mov .., _, _, _, _, h, _, _, _, _, _, _ => by cases h
  | .par .., _, _, _, _, h, _, _, _, _, _, _ => by cases h
  | .aug .., _, _, _, _, h, _, _, _, _, _, _ => by cases h
  | .app .., _, _, _, _, h, _, _, _, _, _, _ => by cases h
  | .ins .., _, _, _, _, h, _, _, _, _, _, _ => by cases h
  | .upd .., _, _, _, _, h, _, _, _, _, _, _ => by cases h
  | .exp .., _, _, _, _, h, _, _, _, _, _, _ => by cases h
  | .sif .., _, _, _, _, h, _, _, _, _, _, _ => by cases h
  | .whl .., _, _, _, _, h, _, _, _, _, _, _ => by cases h
  | .for .., _, _, _, _, h, _, _, _, _, _, _ => by cases h
  | .ret .., _, _, _, _, h, _, _, _, _, _, _ => by cases h
  | .retv .., _, _, _, _, h, _, _, _, _, _, _ => by cases h
  | .retn, _, _, _, _, h, _, _, _, _, _, _ => by cases h
  | .rai .., _, _, _, _, h, _, _, _, _, _, _ => by cases h
  | .try .., _, _, _, _, h, _, _, _, _, _, _ => by cases h
  | .pas, _, _, _, _, h, _, _, _, _, _, _ => by cases h
  | .brk, _, _, _, _, h, _, _, _, _, _, _ => by cases h
  | .cnt, _, _, _, _, h, _, _, _, _, _, _ => by cases h
  | .frz .., _, _, _, _, h, _, _, _, _, _, _ => by cases h
  | .mask .., _, _, _, _, h, _, _, _, _, _, _ => by cases h
theorem snd_Gs : ∀ (t : T) (es : List Expr) (M : Nat → Bool) (K : Ck) (Γ : List Nat), okGs M K Γ t es = true → Bd c P w mg base k K.N K.t C → ∀ W Y (Z : Zd), Z.M = M → Scp c P w mg base k K.N K.sc W Y → SGs c W Z Γ (gGs t Γ) Y es (evGs C t)
  | .nil, es, M, K, Γ, h, bd, W, Y, Z, hZ, s => by
    cases es with
    | nil => exact sgs_nil
    | cons e es => cases h
  | .cons a b, es, M, K, Γ, h, bd, W, Y, Z, hZ, s => by
    cases es with
    | nil => cases h
    | cons e es =>
      replace h : (noStar e && okG M K Γ a e && okGs M K (gG a Γ) b es) = true := h
      simp only [Bool.and_eq_true] at h
      exact sgs_cons (snd_G a e M K Γ h.1.2 bd W Y Z hZ s) (snd_Gs b es M K (gG a Γ) h.2 bd W Y Z hZ s) (assign_cons h.1.1)
  | .v _, _, _, _, _, h, _, _, _, _, _, _ => by cases h
  | .non, _, _, _, _, h, _, _, _, _, _, _ => by cases h
  | .tt, _, _, _, _, h, _, _, _, _, _, _ => by cases h
  | .ff, _, _, _, _, h, _, _, _, _, _, _ => by cases h
  | .int .., _, _, _, _, h, _, _, _, _, _, _ => by cases h
  | .str .., _, _, _, _, h, _, _, _, _, _, _ => by cases h
  | .bin .., _, _, _, _, h, _, _, _, _, _, _ => by cases h
  | .neg .., _, _, _, _, h, _, _, _, _, _, _ => by cases h
  | .not .., _, _, _, _, h, _, _, _, _, _, _ => by cases h
  | .and .., _, _, _, _, h, _, _, _, _, _, _ => by cases h
  | .or .., _, _, _, _, h, _, _, _, _, _, _ => by cases h
  | .cmp .., _, _, _, _, h, _, _, _, _, _, _ => by cases h
  | .ite .., _, _, _, _, h, _, _, _, _, _, _ => by cases h
  | .call .., _, _, _, _, h, _, _, _, _, _, _ => by cases h
  | .idx .., _, _, _, _, h, _, _, _, _, _, _ => by cases h
  | .tup .., _, _, _, _, h, _, _, _, _, _, _ => by cases h
  | .lst .., _, _, _, _, h, _, _, _, _, _, _ => by cases h
  | .lc .., _, _, _, _, h, _, _, _, _, _, _ => by cases h
  | .glob _, _, _, _, _, h, _, _, _, _, _, _ => by cases h
  | .fnv _, _, _, _, _, h, _, _, _, _, _, _ => by cases h
  | .atm _, _, _, _, _, h, _, _, _, _, _, _ => by cases h
  | .chain .., _, _, _, _, h, _, _, _, _, _, _ => by cases h
  | .isi .., _, _, _, _, h, _, _, _, _, _, _ => by cases h
  | .callk .., _, _, _, _, h, _, _, _, _, _, _ => by cases h
  | .callv .., _, _, _, _, h, _, _, _, _, _, _ => by cases h
  | .bi .., _, _, _, _, h, _, _, _, _, _, _ => by cases h
  | .biw .., _, _, _, _, h, _, _, _, _, _, _ => by cases h
  | .me .., _, _, _, _, h, _, _, _, _, _, _ => by cases h
  | .pop .., _, _, _, _, h, _, _, _, _, _, _ => by cases h
  | .slc .., _, _, _, _, h, _, _, _, _, _, _ => by cases h
  | .rev .., _, _, _, _, h, _, _, _, _, _, _ => by cases h
  | .dct .., _, _, _, _, h, _, _, _, _, _, _ => by cases h
  | .lc2 .., _, _, _, _, h, _, _, _, _, _, _ => by cases h
  | .dc .., _, _, _, _, h, _, _, _, _, _, _ => by cases h
  | .dc2 .., _, _, _, _, h, _, _, _, _, _, _ => by cases h
  | .attr .., _, _, _, _, h, _, _, _, _, _, _ => by cases h
  | .rng .., _, _, _, _, h, _, _, _, _, _, _ => by cases h
  | .enum .., _, _, _, _, h, _, _, _, _, _, _ => by cases h
  | .zip .., _, _, _, _, h, _, _, _, _, _, _ => by cases h
  | .items .., _, _, _, _, h, _, _, _, _, _, _ => by cases h
  | .vals .., _, _, _, _, h, _, _, _, _, _, _ => by cases h
  | .rvd .., _, _, _, _, h, _, _, _, _, _, _ => by cases h
  | .wlk .., _, _, _, _, h, _, _, _, _, _, _ => by cases h
  | .asg .., _, _, _, _, h, _, _, _, _, _, _ => by cases h
  | .mov .., _, _, _, _, h, _, _, _, _, _, _ => by cases h
  | .par .., _, _, _, _, h, _, _, _, _, _, _ => by cases h
  | .aug .., _, _, _, _, h, _, _, _, _, _, _ => by cases h
  | .app .., _, _, _, _, h, _, _, _, _, _, _ => by cases h
  | .ins .., _, _, _, _, h, _, _, _, _, _, _ => by cases h
  | .upd .., _, _, _, _, h, _, _, _, _, _, _ => by cases h
  | .exp .., _, _, _, _, h, _, _, _, _, _, _ => by cases h
  | .sif .., _, _, _, _, h, _, _, _, _, _, _ => by cases h
  | .whl .., _, _, _, _, h, _, _, _, _, _, _ => by cases h
  | .for .., _, _, _, _, h, _, _, _, _, _, _ => by cases h
  | .ret .., _, _, _, _, h, _, _, _, _, _, _ => by cases h
  | .retv .., _, _, _, _, h, _, _, _, _, _, _ => by cases h
  | .retn, _, _, _, _, h, _, _, _, _, _, _ => by cases h
  | .rai .., _, _, _, _, h, _, _, _, _, _, _ => by cases h
  | .try .., _, _, _, _, h, _, _, _, _, _, _ => by cases h
  | .pas, _, _, _, _, h, _, _, _, _, _, _ => by cases h
  | .brk, _, _, _, _, h, _, _, _, _, _, _ => by cases h
  | .cnt, _, _, _, _, h, _, _, _, _, _, _ => by cases h
  | .frz .., _, _, _, _, h, _, _, _, _, _, _ => by cases h
  | .mask .., _, _, _, _, h, _, _, _, _, _, _ => by cases h
end
end
end Pz
end
section
set_option Elab.async false
set_option linter.all false
/-! while. -/
namespace Pz
open PySem PySem.Spec PyProof.Rows L2
section
variable {c : Cf} {W : WX} {Z : Zd} {Γ Γ1 Γ' : List Nat} {Y : Cx} {e : Expr} {pos : Pos}
def whlK (fc : Env → R (Bool × Env)) (fb : Env → R Fl) (n : Nat) : Fl → R Fl
  | .nx ρ' => whlR fc fb n ρ'
  | .ct ρ' => whlR fc fb n ρ'
  | .bk ρ' => .ok (.nx ρ')
  | .rt d ρ' => .ok (.rt d ρ')
theorem whlR_succ (fc : Env → R (Bool × Env)) (fb : Env → R Fl) (n : Nat) (ρ : Env) : whlR fc fb (n + 1) ρ = (fc ρ).bind fun p => if p.1 then (fb p.2).bind (whlK fc fb n) else .ok (.nx p.2) := rfl
theorem ss_whl {body : List Stmt} {fc : Env → R (Bool × Env)} {fb : Env → R Fl} {pc : Bool} {Γb Γc Γe : List Nat} {m : List Nat} {fuel : Nat} (hp : PassesOwn (model Y.prog Y.w) Y.A Y.env Y.xe)
    (hc : SC c W Γ pc Y e fc) (hb : SSs c W { Z with Γb := Γb, Γc := Γc } Γ Γe Y body fb)
    (h1 : ∀ i, i ∉ m → Γ.getD i 0 ≤ Γe.getD i 0) (h2 : ∀ i, i ∉ m → Γ.getD i 0 ≤ Γb.getD i 0) (h3 : ∀ i, i ∉ m → Γ.getD i 0 ≤ Γc.getD i 0) :
    SS c W Z Γ Γ Y (.While e body [] pos) (fun ρ => whlR fc (fun ρ => (fb ρ).map (maskFl m)) fuel ρ) :=
  PS.imp (ps_while hp hc hb) fun D σ H ⟨F, A, ρ, r, h⟩ => by
    let Pv : Nat → Sl → Hp → Prop := fun n σ' H' => ∃ F' A' ρ', Rep c.X Γ ρ' σ' H' F' A' ∧ Agree Z.M σ σ' ∧ Nxt H F (Own A) H' F' (Own A') ∧ Run c (WM W Z.M σ') σ' H' F' (Own A') (whlR fc (fun ρ => (fb ρ).map (maskFl m)) n ρ') (EndS c Z Γ D σ H F A)
    refine ⟨Pv, ⟨fuel, F, A, ρ, r, .refl, Nxt.refl, h⟩, ?_⟩
    intro n σ' H' ⟨F', A', ρ', r', ag, n', hr⟩
    cases n with
    | zero => exact hr.elim
    | succ n =>
      rw [whlR_succ] at hr
      refine ⟨F', A', ρ', r', (hr.bind.wm .refl).imp fun p _ hq H1 F1 A1 md => ?_⟩
      obtain ⟨b, ρ1⟩ := p
      have hq2 := hq.at md.nx0 fun _ z => z
      have nA : Nxt H F (Own A) H1 F1 (Own A1) := n'.trans md.nx0
      cases b with
      | false =>
        replace hq2 : EndS c Z Γ D σ H F A (.nx ρ1) := hq2
        exact hq2 σ' H1 F1 A1 ag md.rep nA
      | true =>
        replace hq2 : Run c (WM W Z.M σ') σ' H1 F1 (Own A1) (((fb ρ1).map (maskFl m)).bind (whlK fc (fun ρ => (fb ρ).map (maskFl m)) n)) (EndS c Z Γ D σ H F A) := hq2
        rw [map_bind, bind_assoc] at hq2
        show ∃ N : Sl → Hp → Prop, (∀ σ' H', N σ' H' → ∃ m', m' < n + 1 ∧ Pv m' σ' H') ∧ tS c W { Z with Γb := Γb, Γc := Γc } Γ Γe fb { D with nx := N, ct := N, bk := D.nx } σ' H1
        refine ⟨Pv n, fun σ' H' z => ⟨n, Nat.lt_succ_self n, z⟩, F1, A1, ρ1, md.rep, hq2.bind.imp fun fl _ hk => ?_⟩
        have cont : ∀ {Γk : List Nat} {ρk : Env}, (∀ i, i ∉ m → Γ.getD i 0 ≤ Γk.getD i 0) → Run c (WM W Z.M σ') σ' H1 F1 (Own A1) (whlR fc (fun ρ => (fb ρ).map (maskFl m)) n (unset ρk m)) (EndS c Z Γ D σ H F A) →
            ∀ σ3 H3 F3 A3, Agree Z.M σ' σ3 → Rep c.X Γk ρk σ3 H3 F3 A3 → Nxt H1 F1 (Own A1) H3 F3 (Own A3) → Pv n σ3 H3 := by
          intro Γk ρk hk' hk σ3 H3 F3 A3 ag3 r4 n4
          obtain ⟨F4, A4, r5, n5⟩ := r4.masked hk'
          exact ⟨F4, A4, _, r5, ag.trans ag3, nA.trans (n4.trans n5), (hk.at (n4.trans n5) fun _ z => z).wms ag3⟩
        cases fl with
        | nx ρk => exact cont h1 hk
        | ct ρk => exact cont h3 hk
        | bk ρk =>
          intro σ3 H3 F3 A3 ag3 r4 n4
          obtain ⟨F4, A4, r5, n5⟩ := r4.masked h2
          replace hk : EndS c Z Γ D σ H F A (.nx (unset ρk m)) := hk
          exact hk σ3 H3 F4 A4 (ag.trans ag3) r5 (nA.trans (n4.trans n5))
        | rt d ρk =>
          intro σ3 v H3 F3 A3 B ag3 r4 n4 o4 nd4 dj4
          replace hk : EndS c Z Γ D σ H F A (.rt d ρk) := hk
          exact hk σ3 v H3 F3 A3 B (ag.trans ag3) r4 (nA.trans n4) o4 nd4 dj4
end
end Pz
end
section
set_option Elab.async false
set_option linter.all false
/-! The checker: statements. -/
namespace Pz
open PySem PySem.Spec PyProof.Rows L2

def minLv : List Nat → List Nat → List Nat := List.zipWith min
theorem minLv_le1 (l m : List Nat) (i : Nat) : (minLv l m).getD i 0 ≤ l.getD i 0 := by
  unfold minLv
  rw [List.getD_eq_getElem?_getD, List.getD_eq_getElem?_getD, List.getElem?_zipWith]
  cases l[i]? <;> cases m[i]? <;> simp <;> omega
theorem minLv_le2 (l m : List Nat) (i : Nat) : (minLv l m).getD i 0 ≤ m.getD i 0 := by
  unfold minLv
  rw [List.getD_eq_getElem?_getD, List.getD_eq_getElem?_getD, List.getElem?_zipWith]
  cases l[i]? <;> cases m[i]? <;> simp <;> omega
/-- l at most g, but at m -/
def leB (l g : List Nat) (m : List Nat) : Bool := (List.range l.length).all fun i => m.contains i || decide (l.getD i 0 ≤ g.getD i 0)
theorem leB_le {l g m : List Nat} (h : leB l g m = true) (i : Nat) (hi : i ∉ m) : l.getD i 0 ≤ g.getD i 0 := by
  by_cases hl : i < l.length
  · have := range_all h hl
    simpa [hi] using this
  · rw [getD_out hl]; exact Nat.zero_le _
def mask0 : List Nat → List Nat → List Nat
  | [], Γ => Γ
  | i :: m, Γ => mask0 m (Γ.set i 0)
def lvAsg (K : Ck) (i : Nat) (k : Kd) : Nat := if K.mv.contains i && k.lv != 9 then k.lv else 0
theorem lvAsg_le {K : Ck} {i : Nat} {k : Kd} : lvAsg K i k ≤ k.lv := by
  unfold lvAsg; split <;> omega
mutual
def gS (K : Ck) : T → List Nat → List Nat
  | .asg tg e, Γ => (match tg with
    | .v i => Γ.set i (lvAsg K i (kd K Γ e))
    | _ => gG tg Γ)
  | .par tgs es, Γ => (match tgs, es with
    | .cons (.v i) (.cons (.v j) .nil), .cons a (.cons b .nil) => (Γ.set i (lvAsg K i (kd K Γ a))).set j (lvAsg K j (kd K Γ b))
    | _, _ => gGs tgs Γ)
  | .sif _ a b, Γ => minLv (gB K a Γ) (gB K b Γ)
  | .try .., Γ => Γ.map fun _ => 0
  | _, Γ => Γ
def gB (K : Ck) : T → List Nat → List Nat
  | .cons a b, Γ => gB K b (gS K a Γ)
  | _, Γ => Γ
end
/-- which names are stored from the right (none: not told) -/
def swT (sc : List (Str × NameKind)) (ts vs : List Expr) : Option (Option (List Str)) :=
  if !(ts.length == 2 || ts.length == 3) || vs.length != ts.length then some none
  else if vs.any (fun | .Starred .. => true | _ => false) then some none
  else
    let line := (ts.head?.map (·.pos.line)).getD 0
    let names := ts.filterMap fun
      | .Name id pos => if sc.lookup id == some .local && pos.line == line then some id else none
      | _ => none
    if names.length != ts.length || names.eraseDups.length != names.length then some none
    else if vs.all (foldedForSure 8) then some none
    else if vs.all (constantsAlone 8) then none
    else some (some names)
theorem swT_ok {sc : List (Str × NameKind)} {ts vs : List Expr} {env : PySem.Env} {r : Option (List Str)} {k x1 p1 p2} (hk : ∀ x, env.kindOf x = sc.lookup x) (hb : env.blockKind = .function) (h : swT sc ts vs = some r) :
    swappedStores [.Tuple ts k p1] (.Tuple vs x1 p2) env = pure r := by
  unfold swappedStores
  unfold swT at h
  simp only [hk, hb] 
  simp only [bne_self_eq_false, Bool.or_false]
  dsimp only at h
  split at h
  · rename_i c; cases h; exact (if_pos c)
  rename_i c; refine (if_neg c).trans ?_
  split at h
  · rename_i c; cases h; exact (if_pos c)
  rename_i c; refine (if_neg c).trans ?_
  split at h
  · rename_i c; cases h; exact (if_pos c)
  rename_i c; refine (if_neg c).trans ?_
  split at h
  · rename_i c; cases h; exact (if_pos c)
  rename_i c; refine (if_neg c).trans ?_
  split at h
  · cases h
  rename_i c; cases h; exact (if_neg c)
/-- does [..] of a comprehension swap its value with the name? -/
def swB (sc : List (Str × NameKind)) (x : Str) (px : Pos) (v : Expr) (scope : Scope) : Bool :=
  sc.lookup x == some .local && px.line == v.pos.line && !(scope.names.any fun (n, k) => n == x && (k == .local || k == .cell))
theorem swB_ok {sc : List (Str × NameKind)} {x : Str} {px p : Pos} {el : Expr} {gens : List Comprehension} {scope : Scope} {l : Nat} {env : PySem.Env} (hk : ∀ x, env.kindOf x = sc.lookup x) (hb : env.blockKind = .function) :
    swapsWith (.ListComp el gens scope p) (some (.Name x px)) l env = pure (swB sc x px (.ListComp el gens scope p) scope) := by
  unfold swapsWith swB
  simp only [hk, hb]
  rfl
def notName : Expr → Bool
  | .Name .. => false
  | _ => true
def isLst : Expr → Bool
  | .List .. => true
  | _ => false
def isLC : Expr → Bool
  | .ListComp .. => true
  | _ => false
def setB (K : Ck) (x : Str) (px : Pos) : Expr → Bool
  | .ListComp e g sc p => !(swB K.sc x px (.ListComp e g sc p) sc)
  | v => noComp v
def isLcT : T → Bool
  | .lc .. => true
  | .lc2 .. => true
  | _ => false
/-- two names, swapped -/
def parB (M : Nat → Bool) (K : Ck) (Γ : List Nat) (tgs : T) (tt vs : List Expr) : Bool := match tgs, tt, vs with
  | .cons (.v i) (.cons (.v j) .nil), [.Name x _, .Name y _], [_, _] => nmL K M Γ i x && nmL K M Γ j y && decide (i ≠ j) && decide (K.sc.lookup x = some .local) && decide (K.sc.lookup y = some .local) && decide (swT K.sc tt vs = some (some [x, y]))
  | .cons (.v i) (.cons (.v j) (.cons (.v l) .nil)), [.Name x _, .Name y _, .Name z _], [_, _, _] => nmL K M Γ i x && nmL K M Γ j y && nmL K M Γ l z && decide (i ≠ j) && decide (i ≠ l) && decide (j ≠ l) && decide (K.sc.lookup x = some .local) && decide (K.sc.lookup y = some .local) && decide (K.sc.lookup z = some .local) && decide (swT K.sc tt vs = some (some [x, y, z]))
  | _, _, _ => false
/-- x.append(e) -/
def appB (K : Ck) (Γ : List Nat) (o e : T) : Expr → Bool
  | .Call (.Attribute (.Name x _) a apos) [v] [] cpos => (match o with
    | .v i => nm K i x && decide (a = "append") && decide (Γ.getD i 0 = 1) && okX false K Γ e v && (kd K Γ e).own && noStar v && (apos.endLine == cpos.line)
    | _ => false)
  | _ => false
/-- two names, levels of their own -/
def parL (M : Nat → Bool) (K : Ck) (Γ : List Nat) (tgs es : T) (tt vs : List Expr) : Bool := match tgs, es, vs with
  | .cons (.v i) (.cons (.v j) .nil), .cons a (.cons b .nil), [va, vb] => (lvAsg K i (kd K Γ a) == 0 && lvAsg K j (kd K Γ b) == 0) ||
      (parB M K Γ tgs tt vs && okX false K Γ a va && okX false K Γ b vb && (kd K Γ a).own && (kd K Γ b).own && noStar va && noStar vb)
  | .cons (.v _) (.cons (.v _) .nil), .cons _ (.cons _ .nil), _ => false
  | _, _, _ => true
/-- raise C(e) -/
def raiB (K : Ck) (Γ : List Nat) (k : Nat) (a : T) (st : Stmt) : Bool := match st with
    | .Raise (some (.Call (.Name x _) [e] [] _)) none _ => glB K.sc x && !(x == ("__debug__" : Str)) && (K.t.ex.any fun p => decide (p.1 = x) && decide (p.2 = k)) && okX false K Γ a e && (kd K Γ a).own && noStar e
    | _ => false
/-- except C as error: caught = error -/
def tryB (K : Ck) (Z : Zd) (Γ : List Nat) (kc i : Nat) (hd : T) (m : List Nat) (h : List ExceptHandler) : Bool := match hd, h with
  | .cons (.asg (.v j) (.v i')) .nil, [.ExceptHandler (some (.Name x _)) (some n) [.Assign [.Name y _] (.Name n' _) _] _] =>
    decide (i' = i) && decide (n' = n) && nmL K Z.M Γ i n && nmL K Z.M Γ j y && decide (i ≠ j) && decide (K.sc.lookup n = some .local) && decide (K.sc.lookup y = some .local) && !(n == ("__classdict__" : Str)) && !(n == ("__debug__" : Str)) &&
    glB K.sc x && !(x == ("__debug__" : Str)) && (K.t.ex.any fun p => decide (p.1 = x) && decide (p.2 = kc)) && (m.all Z.M) && ((List.range Γ.length).all fun l => m.contains l || Γ.getD l 0 == 0)
  | _, _ => false
mutual
def okS (K : Ck) (Z : Zd) : List Nat → T → Stmt → Bool
  | Γ, .asg tg e, st => (match st with
    | .Assign ts v p => (match ts with
      | [t] => (match tg with
        | .v i => (match t with
          | .Name x px => nmL K Z.M Γ i x && okX false K Γ e v && (kd K Γ e).own && (setB K x px v || (isLcT e && decide (K.sc.lookup x = some .local)))
          | _ => false)
        | tg => okX false K Γ e v && (kd K Γ e).own && okG Z.M K Γ tg t && notName t && noStar t && (!(isTup t || isLst t) || !isTup v))
      | _ => false)
    | _ => false)
  | Γ, .par tgs es, st => (match st with
    | .Assign ts v p => (match ts, v with
      | [.Tuple tt kk p1], .Tuple vs x1 p2 => okA K Γ [] 0 es vs && decide (vs.length ≤ 1000) && okGs Z.M K Γ tgs tt && tt.all noStar && decide (lenT tgs = tt.length) && (decide (swT K.sc tt vs = some none) || parB Z.M K Γ tgs tt vs) && parL Z.M K Γ tgs es tt vs
      | _, _ => false)
    | _ => false)
  | Γ, .app o e, st => (match st with | .Expr v p => appB K Γ o e v | _ => false)
  | Γ, .exp e, st => (match st with | .Expr v p => okX false K Γ e v && noComp v | _ => false)
  | Γ, .sif c a b, st => (match st with | .If t p q _ => okX true K Γ c t && okB K Z Γ a p && okB K Z Γ b q | _ => false)
  | Γ, .for tg it b m, st => (match st with
    | .For t i body els _ => (match els with
      | [] => okI K Γ it i && tgB it t && noSet i && okG Z.M K Γ tg t && okB K { Z with Γb := mask0 m Γ, Γc := mask0 m Γ } (gG tg Γ) b body && leB Γ (gB K b (gG tg Γ)) m && leB Γ (mask0 m Γ) m
      | _ => false)
    | _ => false)
  | Γ, .whl t b m, st => (match st with
    | .While x body els _ => (match els with
      | [] => okX true K Γ t x && okB K { Z with Γb := mask0 m Γ, Γc := mask0 m Γ } Γ b body && leB Γ (gB K b Γ) m && leB Γ (mask0 m Γ) m
      | _ => false)
    | _ => false)
  | Γ, .ret e, st => (match st with | .Return (some v) _ => okX false K Γ e v && (kd K Γ e).own && decide (Z.rl ≤ (kd K Γ e).lv) && leB Z.Γr Γ [] | _ => false)
  | Γ, .retv i, st => (match st with | .Return (some (.Name x _)) _ => nm K i x && decide (Z.rl ≤ Γ.getD i 0) && leB Z.Γr Γ [i] | _ => false)
  | Γ, .retn, st => (match st with | .Return none _ => leB Z.Γr Γ [] | _ => false)
  | Γ, .rai k as, st => (match as with
    | .cons a r => (match r with | .nil => raiB K Γ k a st | _ => true)
    | _ => true)
  | Γ, .try b kc i hd m, st => (match st with
    | .Try body h els fin _ => (match els, fin with
      | [], [] => tryB K Z Γ kc i hd m h && okB K { Z with M := fun l => m.contains l } Γ b body
      | _, _ => false)
    | _ => false)
  | _, .pas, st => (match st with | .Pass _ => true | _ => false)
  | Γ, .brk, st => (match st with | .Break _ => leB Z.Γb Γ [] | _ => false)
  | Γ, .cnt, st => (match st with | .Continue _ => leB Z.Γc Γ [] | _ => false)
  | _, _, _ => false
def okB (K : Ck) (Z : Zd) : List Nat → T → List Stmt → Bool
  | _, .nil, sts => (match sts with | [] => true | _ => false)
  | Γ, .cons a b, sts => (match sts with | st :: sts => okS K Z Γ a st && okB K Z (gS K a Γ) b sts | [] => false)
  | _, _, _ => false
end
end Pz
end
section
set_option Elab.async false
set_option linter.all false
/-! a, b = x, y with values of one's own. -/
namespace Pz
open PySem PySem.Spec PyProof.Rows L2
section
variable {c : Cf} {W : WX} {Z : Zd} {Γ : List Nat} {Y : Cx} {a b : Expr} {pos : Pos} {fa fb : Env → R (D × Env)} {pa pb : Bool} {n m : Nat}
theorem ss_par2L {i j : Nat} {x y : Str} {px py pt pt2 : Pos} {kt k2} (cx : Ctx c W Y) (ni : NmAt Y Γ Z i x) (nj : NmAt Y Γ Z j y) (hij : i ≠ j) (li : Y.env.scope.names.lookup x = some .local) (lj : Y.env.scope.names.lookup y = some .local)
    (ha : SX c W Γ ⟨true, pa, n⟩ Y a fa) (hb : SX c W Γ ⟨true, pb, m⟩ Y b fb) (sa : noStar a = true) (sb : noStar b = true)
    (hw : swappedStores [.Tuple [.Name x px, .Name y py] kt pt] (.Tuple [a, b] k2 pt2) Y.env = pure (some [x, y])) (hs : swapsWithSole [.Tuple [.Name x px, .Name y py] kt pt] (.Tuple [a, b] k2 pt2) pos.line Y.env = pure false) :
    SS c W Z Γ ((Γ.set i n).set j m) Y (.Assign [.Tuple [.Name x px, .Name y py] kt pt] (.Tuple [a, b] k2 pt2) pos)
      (fun ρ => (fa ρ).bind fun p => (fb p.2).bind fun q => .ok (.nx (st (st q.2 i p.1) j q.1))) :=
  PS.imp (ps_par cx.calm ni.nd ni.at_ nj.at_ hij li lj (pa_cons ha (pa_cons hb pa_nil (star_cons sb)) (star_cons sa)) hw hs) fun D σ H ⟨F, A, ρ, r, h⟩ =>
    tX.inS (g := fun d1 ρ1 => (fb ρ1).bind fun q => (.ok (.nx (st (st q.2 i d1) j q.1)) : R Fl)) r h fun v H1 F1 A1 d1 ρ1 B1 o1 h1 =>
      tX.inS (g := fun d2 ρ2 => (.ok (.nx (st (st ρ2 i d1) j d2)) : R Fl)) o1.rep h1 fun w H2 F2 A2 d2 ρ2 B2 o2 h2 => by
        replace h2 : EndS c Z ((Γ.set i n).set j m) D σ H F A (.nx (st (st ρ2 i d1) j d2)) := h2
        have two := o1.two o2 (.inl rfl)
        have dom := o1.ot.dom
        have dA : ∀ z ∈ B1, ¬ Own A2 z := fun z hz hA => (o2.mid.nx.own z (.inl hA)).elim (o1.dj rfl z hz) fun e => (dom z hz).1 e
        have dB : ∀ z ∈ B1, z ∉ B2 := fun z hz hB => (o2.mid.nx.own z (.inr ⟨rfl, hB⟩)).elim (o1.dj rfl z hz) fun e => (dom z hz).1 e
        obtain ⟨A3, r3, o3⟩ := o2.rep.store (i := i) (n := n) (B := B1) ni.lv two.o1 (o1.nd rfl) dA
        obtain ⟨A4, r4, o4⟩ := r3.store (i := j) (n := m) (B := B2) (by rw [List.length_set]; exact nj.lv) two.o2 (o2.nd rfl) (fun z hz hA => (o3 z hA).elim (o2.dj rfl z hz) fun hB => dB z hB hz)
        refine ⟨v, w, rfl, ?_⟩
        refine h2 _ H2 F2 A4 ((Agree.set ni.mm).trans (.set nj.mm)) r4 (two.mid.nx.weak (fun _ h => h) fun z hz => .inl ?_)
        rcases o4 z hz with hz | hz
        · rcases o3 z hz with hz | hz
          · exact .inl hz
          · exact .inr (.inl ⟨rfl, hz⟩)
        · exact .inr (.inr ⟨rfl, hz⟩)
end
end Pz
end
section
set_option Elab.async false
set_option linter.all false
/-! raise C(e); try: .. except C as error: caught = error. -/
namespace Pz
open PySem PySem.Spec PyProof.Rows L2

section
variable {c : Cf} {W : WX} {Z : Zd} {Γ Γ1 Γ' Γb : List Nat} {Y : Cx} {x n m : Str} {i j k kc : Nat} {e : Expr} {p0 pos pos2 : Pos} {pe : Bool} {fe : Env → R (D × Env)} {C D0 f0 : Addr}
theorem ss_rai (cx : Ctx c W Y) (B : ErrB Y.K Y.prog Y.mg D0 f0) (T : ErrC Y.K D0 f0 C) (hg : Gl Y x) (hm : Y.mg x = some (.ref C)) (hr : Y.A.depth + 1 < recursionLimit) (hk : c.X.ca k = some C) (he : SX c W Γ ⟨true, pe, 0⟩ Y e fe)
    (hd : (x == ("__debug__" : Str)) = false) (hs : starEach [e] Y.env = (false, eval e Y.env) :: starEach [] Y.env) (hpl : (backTo pos (starEach [] Y.env)).any (·.1) = false) :
    SS c W Z Γ Γ' Y (.Raise (some (.Call (.Name x p0) [e] [] pos)) none pos2) (fun ρ => (fe ρ).bind fun p => .error (.exc k [p.1])) :=
  PS.imp (ps_raise cx.calm cx.tk (pmk_err B T hg hm hr he hd hs hpl)) fun N σ H ⟨F, A, ρ, r, h⟩ => tX.inS (g := fun d ρ1 => (.error (.exc k [d]) : R Fl)) r h fun v H1 F1 A1 d ρ1 B o h1 => by
    refine ⟨v, rfl, fun q hq => ?_⟩
    have hf : F1 q = none := by
      cases z : F1 q with
      | none => rfl
      | some u => rw [o.rep.sub q u z] at hq; cases hq
    have sf := upd_sub (o := .xd [("value", v)]) hf
    refine h1 (.ref C) (some q) _ ⟨⟨upd F1 q (.xd [("value", v)]), C, q, v, d, hk, rfl, rfl, rfl, upd_same, o.ot.2.mono sf, fun b u z => ?_, sf, fun b z => ?_, fun b u z _ => ?_, fun b z => ?_⟩⟩ σ .refl
    · by_cases hb : b = q
      · rw [hb, upd_same] at z ⊢; exact z
      · rw [upd_ne hb] at z ⊢; exact o.rep.sub b u z
    · by_cases hb : b = q
      · rw [hb]; exact .inr (.inr hq)
      · rw [upd_ne hb] at z; exact .inl z
    · rw [upd_ne (ne_of_none z hq)]; exact z
    · by_cases hb : b = q
      · rw [hb, upd_same] at z; cases z
      · rw [upd_ne hb] at z; exact .inr z

/-- the suite's name is n (slot i), the error is kept as m (slot j); ml: the slots that the body may change -/
def tryR (kc i j : Nat) (ml : List Nat) (fb : Env → R Fl) : Env → R Fl := fun ρ => match fb ρ with
  | .ok r => .ok r
  | .error .stuck => bad
  | .error (.exc k fs) => if kc == 0 || kc == k then (if i < ρ.length then .ok (.nx (((unset ρ ml).set j (some (.exc k fs))).set i none)) else bad) else .error (.exc k fs)
theorem unset_len : ∀ (l : List Nat) (ρ : Env), (Pz.unset ρ l).length = ρ.length
  | [], _ => rfl
  | i :: l, ρ => by
    show (Pz.unset (ρ.set i none) l).length = _
    rw [unset_len l, List.length_set]
theorem ss_try {body : List Stmt} {np np2 mp ap p1 p2 : Pos} {ml : List Nat} {fb : Env → R Fl} {cv : Value} (cx : Ctx c W Y) (hs : Y.stack = Y.env :: Y.outer) (hf : Y.env.frame = some Y.env.locals) (hex : Y.ex = [])
    (ni : NmAt Y Γ Z i n) (nj : NmAt Y Γ Z j m) (hij : i ≠ j) (hln : Y.env.kindOf n = some .local) (hlm : Y.env.kindOf m = some .local) (hd : (n == ("__debug__" : Str)) = false) (hcd : (n == ("__classdict__" : Str)) = false) (hc : Names Y x cv)
    (hm : ∀ l, l ∈ ml → Z.M l = true) (h0 : ∀ l, l ∉ ml → Γ.getD l 0 = 0) (h1 : ∀ l, Γ'.getD l 0 = 0) (hex1 : ∀ k C, c.X.ca k = some C → PySem.W.exmOne Y.K (.ref C) cv = some (kc == 0 || kc == k))
    (hb : ∀ (W : WX) (pn : List (Addr × Obj)) (xe : Value → Shared → Prop), Takes (Y.tr pn xe) W → PassesOwn (model Y.prog Y.w) Y.A Y.env xe → SSs c W { Z with M := fun l => ml.contains l } Γ Γb (Y.tr pn xe) body fb) :
    SS c W Z Γ Γ' Y (.Try body [.ExceptHandler (some (.Name x np)) (some n) [.Assign [.Name m mp] (.Name n np2) ap] p1] [] [] p2) (tryR kc i j ml fb) :=
  PS.imp (ps_try_keep (tb := fun W => tS c W { Z with M := fun l => ml.contains l } Γ Γb fb) hs hf hex ni.nd ni.at_ hln nj.at_ hlm hij hd hcd (List.getElem?_eq_some_iff.mp ni.at_).1 hc cx.tk hb) fun N σ H ⟨F, A, ρ, r, h⟩ => by
    have ag0 : ∀ {σ' : Sl}, Agree (fun l => ml.contains l) σ σ' → Agree Z.M σ σ' := fun a => ⟨a.len, fun l hl => a.at_ l (by
      cases hh : ml.contains l with
      | false => rfl
      | true =>
        have := hm l (by simpa using hh)
        rw [hl] at this; cases this)⟩
    refine ⟨F, A, ρ, r, ?_⟩
    unfold tryR at h
    generalize hfb : fb ρ = rr at h ⊢
    cases rr with
    | ok fl =>
      cases fl with
      | nx ρ' =>
        intro σ' H' F' A' a r' n'
        obtain ⟨F2, A2, r2, n2⟩ := r'.relevel (Γ' := Γ') fun l _ _ => by rw [h1]; exact Nat.zero_le _
        exact h σ' H' F2 A2 (ag0 a) r2 (n'.trans n2)
      | bk ρ' => exact fun σ' H' F' A' a r' n' => h σ' H' F' A' (ag0 a) r' n'
      | ct ρ' => exact fun σ' H' F' A' a r' n' => h σ' H' F' A' (ag0 a) r' n'
      | rt d ρ' => exact fun σ' v H' F' A' B a r' n' => h σ' v H' F' A' B (ag0 a) r' n'
    | error er =>
      cases er with
      | stuck => exact h
      | exc k fs =>
        intro cls dx H' xp σ' ag
        obtain ⟨G, C, d, v, y, e1, rfl, rfl, rfl, e5, e6, e7, e8, e9, e10, e11⟩ := id xp.ex
        refine ⟨_, hex1 k C e1, fun hb1 => ⟨C, d, rfl, rfl, fun a ha => ?_⟩, fun hb1 => ?_⟩
        · replace h : Run c (WM W Z.M σ) σ H F (Own A) (if (kc == 0 || kc == k) = true then (if i < ρ.length then .ok (.nx (((unset ρ ml).set j (some (.exc k [y]))).set i none)) else bad) else .error (.exc k [y])) (EndS c Z Γ' N σ H F A) := h
          rw [if_pos hb1] at h
          by_cases hil : i < ρ.length
          · rw [if_pos hil] at h
            replace h : EndS c Z Γ' N σ H F A (.nx (((unset ρ ml).set j (some (.exc k [y]))).set i none)) := h
            have hg : G a = none := by
              cases z : G a with
              | none => rfl
              | some u => rw [e7 a u z] at ha; cases ha
            have sg := upd_sub (o := CaO a C d) hg
            have sh := upd_sub (o := CaO a C d) ha
            have s2 : Sub (upd G a (CaO a C d)) (upd H' a (CaO a C d)) := fun b u z => by
              by_cases hb : b = a
              · rw [hb, upd_same] at z ⊢; exact z
              · rw [upd_ne hb] at z ⊢; exact e7 b u z
            have fs : Sub F (upd G a (CaO a C d)) := e8.trans sg
            refine h _ _ (upd G a (CaO a C d)) (fun _ => []) (((ag0 ag).trans (.set nj.mm)).trans (.set ni.mm)) ⟨s2, ?_, fun l dd hl => ?_, fun _ _ => rfl, fun _ => List.nodup_nil, fun _ _ _ _ z => absurd z (by simp)⟩
              ⟨fun b u hu hp => ?_, fs, fun b hb => ?_, fun b ⟨_, z⟩ => absurd z (by simp)⟩
            · rw [List.length_set, List.length_set, List.length_set, List.length_set, unset_len, r.len, ag.len]
            · have hli : l ≠ i := fun z => by
                subst z
                by_cases hz : l < ((unset ρ ml).set j (some (Pz.D.exc k [y]))).length
                · rw [List.getElem?_set_self hz] at hl; cases hl
                · rw [List.getElem?_eq_none (by rw [List.length_set]; omega)] at hl; cases hl
              rw [List.getElem?_set_ne (Ne.symm hli)] at hl
              rw [List.getElem?_set_ne (Ne.symm hli), h1]
              by_cases hlj : l = j
              · subst hlj
                by_cases hz : l < (unset ρ ml).length
                · rw [List.getElem?_set_self hz] at hl
                  cases hl
                  refine ⟨.ref a, List.getElem?_set_self (by rw [ag.len, ← r.len, ← unset_len ml ρ]; exact hz), rfl, ?_⟩
                  have hd : d ≠ a := fun z => by subst z; rw [hg] at e5; cases e5
                  exact .exc e1 upd_same (by rw [upd_ne hd]; exact e5) (e6.mono sg)
                · rw [List.getElem?_eq_none (by rw [List.length_set]; omega)] at hl; cases hl
              · rw [List.getElem?_set_ne (Ne.symm hlj)] at hl
                obtain ⟨hm1, hm2⟩ := unset_get hl
                obtain ⟨w, ew, ow⟩ := r.val l dd hm2
                rw [h0 l hm1] at ow
                refine ⟨w, ?_, rfl, ow.2.mono fs⟩
                rw [List.getElem?_set_ne (Ne.symm hlj), ag.at_ l (by simpa using hm1)]
                exact ew
            · rw [upd_ne (ne_of_none (e10 b u hu hp) ha)]; exact e10 b u hu hp
            · by_cases hb' : b = a
              · subst hb'
                rcases e11 b ha with z | z
                · exact .inr (.inl z)
                · exact .inr (.inr z)
              · rw [upd_ne hb'] at hb; exact e9 b hb
          · rw [if_neg hil] at h
            exact False.elim h
        · replace h : Run c (WM W Z.M σ) σ H F (Own A) (if (kc == 0 || kc == k) = true then (if i < ρ.length then .ok (.nx (((unset ρ ml).set j (some (.exc k [y]))).set i none)) else bad) else .error (.exc k [y])) (EndS c Z Γ' N σ H F A) := h
          rw [if_neg (by rw [hb1]; simp)] at h
          exact h _ _ H' xp σ' (ag0 ag)
end
end Pz
end
section
set_option Elab.async false
set_option linter.all false
set_option maxRecDepth 4000
/-! The checker is right: statements. -/
namespace Pz
open PySem PySem.Spec PyProof.Rows L2

structure ScpS (c : Cf) (P : Program) (w : World) (mg : Str → Option Value) (base : Heap) (k : Nat) (N : List Str) (sc : List (Str × NameKind)) (W : WX) (Y : Cx) : Prop extends Scp c P w mg base k N sc W Y where
  hk : ∀ x, Y.env.kindOf x = sc.lookup x
  hb : Y.env.blockKind = .function
  hs : Y.stack = Y.env :: Y.outer
  hf : Y.env.frame = some Y.env.locals
  hex : Y.ex = []
section
variable {c : Cf} {P : Program} {w : World} {mg : Str → Option Value} {base : Heap} {k : Nat} {C : Cfg} {W : WX} {Y : Cx} {Z : Zd} {Γ Γ' : List Nat} {st : Stmt}
/-- a, b, c = x, y, z: swapped -/
theorem ss_par3 {a b d : Expr} {i j l : Nat} {x y z : Str} {px py pz pt pt2 pos : Pos} {kt k2} {pu : Bool} {fs : Env → R (List D × Env)} (cx : Ctx c W Y) (ni : NmAt Y Γ Z i x) (nj : NmAt Y Γ Z j y) (nl : NmAt Y Γ Z l z) (hij : i ≠ j) (hil : i ≠ l) (hjl : j ≠ l) (li : Y.env.scope.names.lookup x = some .local) (lj : Y.env.scope.names.lookup y = some .local) (ll : Y.env.scope.names.lookup z = some .local)
    (ha : SA c W Γ [none, none, none] pu Y [a, b, d] fs)
    (hw : swappedStores [.Tuple [.Name x px, .Name y py, .Name z pz] kt pt] (.Tuple [a, b, d] k2 pt2) Y.env = pure (some [x, y, z])) (hs : swapsWithSole [.Tuple [.Name x px, .Name y py, .Name z pz] kt pt] (.Tuple [a, b, d] k2 pt2) pos.line Y.env = pure false) :
    SS c W Z Γ (((Γ.set i 0).set j 0).set l 0) Y (.Assign [.Tuple [.Name x px, .Name y py, .Name z pz] kt pt] (.Tuple [a, b, d] k2 pt2) pos)
      (fun ρ => (fs ρ).bind fun p => (optR (itemsT 3 (.tup p.1))).bind fun q => (consG (fun d ρ => .ok (Pz.st ρ i d)) (consG (fun d ρ => .ok (Pz.st ρ j d)) (consG (fun d ρ => .ok (Pz.st ρ l d)) (fun l ρ => if l.isEmpty then .ok ρ else bad))) q p.2).bind fun ρ' => .ok (.nx ρ')) :=
  PS.imp (ps_par3 cx.calm ni.nd ni.at_ nj.at_ nl.at_ hij hil hjl li lj ll ha hw hs) fun N σ H ⟨F, A, ρ, r, h⟩ => tF.inS (pu := pu) (g := fun ds ρ1 => (optR (itemsT 3 (.tup ds))).bind fun q => (consG (fun d ρ => .ok (Pz.st ρ i d)) (consG (fun d ρ => .ok (Pz.st ρ j d)) (consG (fun d ρ => .ok (Pz.st ρ l d)) (fun l ρ => if l.isEmpty then .ok ρ else bad))) q ρ1).bind fun ρ' => (.ok (.nx ρ') : R Fl)) r h fun vs H1 F1 A1 ds ρ1 m ap h1 => by
    obtain ⟨v, d, w, d', u, d'', rfl, rfl, rv, rw', ru⟩ := ap.three
    replace h1 : EndS c Z (((Γ.set i 0).set j 0).set l 0) N σ H F A (.nx (Pz.st (Pz.st (Pz.st ρ1 i d) j d') l d'')) := h1
    refine ⟨v, w, u, rfl, ?_⟩
    have no : ∀ {A : Nat → List Addr}, ∀ a ∈ ([] : List Addr), ¬ Own A a := fun _ z => absurd z (by simp)
    obtain ⟨A2, r2, o2⟩ := m.rep.store (i := i) (n := 0) (B := []) ni.lv ⟨rfl, rv⟩ List.nodup_nil no
    obtain ⟨A3, r3, o3⟩ := r2.store (i := j) (n := 0) (B := []) (by rw [List.length_set]; exact nj.lv) ⟨rfl, rw'⟩ List.nodup_nil no
    obtain ⟨A4, r4, o4⟩ := r3.store (i := l) (n := 0) (B := []) (by rw [List.length_set, List.length_set]; exact nl.lv) ⟨rfl, ru⟩ List.nodup_nil no
    refine h1 _ H1 F1 A4 (((Agree.set ni.mm).trans (.set nj.mm)).trans (.set nl.mm)) r4 (m.nx0.weak (fun _ h => h) fun a z => .inl ?_)
    have k0 : ∀ {p : Prop} {a : Addr}, p ∨ a ∈ ([] : List Addr) → p := fun z => z.elim (fun z => z) fun z => absurd z (by simp)
    exact k0 (o2 a (k0 (o3 a (k0 (o4 a z)))))
theorem SS.cong {f g : Env → R Fl} (h : SS c W Z Γ Γ' Y st f) (e : ∀ ρ, f ρ = g ρ) : SS c W Z Γ Γ' Y st g := by
  rw [← funext e]; exact h
theorem nmL_at {K : Ck} {M : Nat → Bool} {i : Nat} {x : Str} (s : Scp c P w mg base k K.N K.sc W Y) (h : nmL K M Γ i x = true) (hM : Z.M = M) : NmAt Y Γ Z i x := by
  unfold nmL at h
  simp only [Bool.and_eq_true, decide_eq_true_eq] at h
  obtain ⟨⟨⟨h1, h2⟩, h3⟩, h4⟩ := h
  obtain ⟨g1, g2⟩ := s.loc h2
  exact ⟨by rw [s.eN]; exact s.nd, by rw [s.eN]; exact h1, g1, g2, h3, by rw [hM]; exact h4⟩
theorem getD_setz {Γ : List Nat} {j i : Nat} (h : j ≠ i) : (Γ.set j 0).getD i 0 = Γ.getD i 0 := getD_set_ne h
theorem parL_cases {M : Nat → Bool} {K : Ck} {Γ : List Nat} {tgs es : T} {tt vs : List Expr} (h : parL M K Γ tgs es tt vs = true) : gS K (.par tgs es) Γ = gGs tgs Γ ∨ ∃ i j a b va vb, tgs = .cons (.v i) (.cons (.v j) .nil) ∧ es = .cons a (.cons b .nil) ∧ vs = [va, vb] ∧
    parB M K Γ tgs tt vs = true ∧ okX false K Γ a va = true ∧ okX false K Γ b vb = true ∧ (kd K Γ a).own = true ∧ (kd K Γ b).own = true ∧ noStar va = true ∧ noStar vb = true := by
  unfold parL at h
  split at h
  · rename_i i j a b va vb
    rw [Bool.or_eq_true] at h
    rcases h with h | h
    · simp only [Bool.and_eq_true, beq_iff_eq] at h
      refine .inl ?_
      show (Γ.set i (lvAsg K i (kd K Γ a))).set j (lvAsg K j (kd K Γ b)) = _
      rw [h.1, h.2]; rfl
    · simp only [Bool.and_eq_true] at h
      obtain ⟨⟨⟨⟨⟨⟨h1, h2⟩, h3⟩, h4⟩, h5⟩, h6⟩, h7⟩ := h
      exact .inr ⟨i, j, a, b, va, vb, rfl, rfl, rfl, h1, h2, h3, h4, h5, h6, h7⟩
  · cases h
  · rename_i n1 n2
    refine .inl ?_
    simp only [gS]
theorem map0_getD (Γ : List Nat) (l : Nat) : (Γ.map fun _ => 0).getD l 0 = 0 := by
  rw [List.getD_eq_getElem?_getD, List.getElem?_map]
  cases Γ[l]? <;> rfl
theorem try_eq {C : Cfg} {b : T} {kc i j : Nat} {m : List Nat} {ρ : Env} : tryR kc i j m (evB C b) ρ = evS C (.try b kc i (.cons (.asg (.v j) (.v i)) .nil) m) ρ := by
  show tryR kc i j m (evB C b) ρ = ((match evB C b ρ with
    | .ok r => .ok r
    | .error .stuck => bad
    | .error (.exc c' fs) => if kc == 0 || kc == c' then (evB C (.cons (.asg (.v j) (.v i)) .nil) (st (unset ρ m) i (.exc c' fs))).map (sufFl i) else .error (.exc c' fs)) : R Fl)
  unfold tryR
  cases evB C b ρ with
  | ok r => rfl
  | error e =>
    cases e with
    | stuck => rfl
    | exc k fs =>
      show (if (kc == 0 || kc == k) = true then _ else _) = (if (kc == 0 || kc == k) = true then _ else _)
      split
      · have e1 : evB C (.cons (.asg (.v j) (.v i)) .nil) (Pz.st (unset ρ m) i (.exc k fs)) = (optR (gt (Pz.st (unset ρ m) i (.exc k fs)) i)).bind fun d => .ok (.nx (Pz.st (Pz.st (unset ρ m) i (.exc k fs)) j d)) := by
          show ((((optR (gt (Pz.st (unset ρ m) i (.exc k fs)) i)).bind fun d => (.ok (d, Pz.st (unset ρ m) i (.exc k fs)) : R (D × Env))).bind _).bind _) = _
          cases gt (Pz.st (unset ρ m) i (Pz.D.exc k fs)) i <;> rfl
        rw [e1]
        unfold gt Pz.st
        by_cases h : i < ρ.length
        · rw [if_pos h, List.getElem?_set_self (by rw [unset_len]; exact h)]
          show _ = Except.ok (Fl.nx (((((unset ρ m).set i (some (Pz.D.exc k fs))).set j (some (Pz.D.exc k fs))).set i none)))
          congr 2
          by_cases hij : i = j
          · subst hij
            rw [List.set_set, List.set_set, List.set_set]
          · rw [List.set_comm _ _ hij, List.set_set]
        · rw [if_neg h, List.getElem?_eq_none (by rw [List.length_set, unset_len]; omega)]
          rfl
      · rfl
mutual
theorem snd_S : ∀ (t : T) (st : Stmt) (K : Ck) (Z : Zd) (Γ : List Nat), okS K Z Γ t st = true → Bd c P w mg base k K.N K.t C → ∀ W Y, ScpS c P w mg base k K.N K.sc W Y → SS c W Z Γ (gS K t Γ) Y st (evS C t)
  | .asg tg e, st, K, Z, Γ, h, bd, W, Y, s => by
    cases st <;> first | (cases h; done) | skip
    rename_i ts v p
    match ts, h with
    | [], h => cases h
    | _ :: _ :: _, h => cases h
    | [t], h =>
      by_cases ht : ∃ i, tg = .v i
      · obtain ⟨i, rfl⟩ := ht
        cases t <;> first | (cases h; done) | skip
        rename_i x px
        replace h : (nmL K Z.M Γ i x && okX false K Γ e v && (kd K Γ e).own && (setB K x px v || (isLcT e && decide (K.sc.lookup x = some .local)))) = true := h
        simp only [Bool.and_eq_true] at h
        obtain ⟨⟨⟨h1, h2⟩, h3⟩, h4'⟩ := h
        have na := nmL_at (Z := Z) s.toScp h1 rfl
        have ie := (snd_X e v false K Γ h2 bd W Y s.toScp).1 rfl
        by_cases h4 : setB K x px v = true
        · have sw : swapsWith v (some (.Name x px)) p.line Y.env = pure false := by
            cases v <;> first | rfl | (cases h4; done) | skip
            rename_i el gens sc vp
            rw [swB_ok s.hk s.hb]
            replace h4 : (!(swB K.sc x px (.ListComp el gens sc vp) sc)) = true := h4
            rw [Bool.not_eq_true'] at h4
            rw [h4]
          exact ss_set na (sx_low ie h3 lvAsg_le) sw
        · have h5 : isLcT e = true ∧ K.sc.lookup x = some .local := by
            rw [Bool.not_eq_true] at h4
            rw [h4] at h4'
            simpa using h4'
          cases e <;> first | (cases h5.1; done) | skip
          · rename_i el tg it cc own
            cases v <;> first | (cases h2; done) | skip
            rename_i xe gens scope vp
            match gens, h2, h4 with
            | [], h2, h4 => cases h2
            | _ :: _ :: _, h2, h4 => cases h2
            | [⟨gt, gi, gifs, ga⟩], h2, h4 =>
              have hsw : swapsWith (.ListComp xe [⟨gt, gi, gifs, ga⟩] scope vp) (some (.Name x px)) p.line Y.env = pure true := by
                rw [swB_ok s.hk s.hb]
                have : ¬ (!(swB K.sc x px (.ListComp xe [⟨gt, gi, gifs, ga⟩] scope vp) scope)) = true := h4
                rw [Bool.not_eq_true, Bool.not_eq_false'] at this
                rw [this]
              replace h2 : (decide (ga = 0) && okI K Γ it gi && tgB it gt && noSet gi && blkB K scope own && (own.all fun i => Γ.getD i 0 == 0) &&
                  okG (inOwn own) { K with sc := scope.names } Γ tg gt && decide (gG tg Γ = Γ) && okC { K with sc := scope.names } Γ cc gifs && okX false { K with sc := scope.names } Γ el xe && (kd { K with sc := scope.names } Γ el).own) = true := h2
              simp only [Bool.and_eq_true, decide_eq_true_eq] at h2
              obtain ⟨⟨⟨⟨⟨⟨⟨⟨⟨⟨rfl, q2⟩, q2'⟩, q3⟩, q4⟩, q5⟩, q6⟩, q7⟩, q8⟩, q9⟩, q10⟩ := h2
              have bd' : Bd c P w mg base k { K with sc := scope.names }.N { K with sc := scope.names }.t C := ⟨bd.fn, bd.bl, bd.ex, bd.fv, bd.fnv, bd.gl⟩
              obtain ⟨pi, hi⟩ := snd_I it gi K Γ q2 bd
              obtain ⟨pc, hc⟩ := snd_C cc gifs { K with sc := scope.names } Γ q8 bd'
              have e0 : (ownL K own).map (·.2) = own := by
                unfold blkB at q4
                simp only [Bool.and_eq_true, decide_eq_true_eq] at q4
                exact q4.2
              have hloc : Y.env.scope.names.lookup x = some .local := (s.hk x).trans h5.2
              have lc := ps_setLc (i := i) s.calm na.nd na.at_ hloc hsw (hi W Y s.toScp gt q2') (blk_ok s.toScp q4)
                (fun s0 H0 Ca cl fp => by have := snd_G tg gt (inOwn own) { K with sc := scope.names } Γ q6 bd' never _ (Zb own) rfl (s.toScp.blk s0 H0 scope Ca cl fp); rw [q7] at this; exact this)
                (fun s0 H0 Ca cl fp => hc never _ (s.toScp.blk s0 H0 scope Ca cl fp))
                (fun s0 H0 Ca cl fp => ((snd_X el xe false { K with sc := scope.names } Γ q9 bd' never _ (s.toScp.blk s0 H0 scope Ca cl fp)).1 rfl).fz q10) (folded q3)
              rw [e0] at lc
              exact ss_setLc na (fun i hi => by simpa using List.all_eq_true.mp q5 i hi) lc lvAsg_le
          · rename_i el tg it cc tg2 it2 cc2 own own2
            cases v <;> first | (cases h2; done) | skip
            rename_i xe gens scope vp
            match gens, h2, h4 with
            | [], h2, h4 => cases h2
            | [_], h2, h4 => cases h2
            | _ :: _ :: _ :: _, h2, h4 => cases h2
            | [⟨gt, gi, gifs, ga⟩, ⟨ht, hi2, hifs, ha⟩], h2, h4 =>
              have hsw : swapsWith (.ListComp xe [⟨gt, gi, gifs, ga⟩, ⟨ht, hi2, hifs, ha⟩] scope vp) (some (.Name x px)) p.line Y.env = pure true := by
                rw [swB_ok s.hk s.hb]
                have : ¬ (!(swB K.sc x px (.ListComp xe [⟨gt, gi, gifs, ga⟩, ⟨ht, hi2, hifs, ha⟩] scope vp) scope)) = true := h4
                rw [Bool.not_eq_true, Bool.not_eq_false'] at this
                rw [this]
              replace h2 : (decide (ga = 0) && okI K Γ it gi && tgB it gt && noSet gi && blkB K scope own && (own.all fun i => Γ.getD i 0 == 0) &&
                  okG (inOwn own) { K with sc := scope.names } Γ tg gt && decide (gG tg Γ = Γ) && okC { K with sc := scope.names } Γ cc gifs && okX false { K with sc := scope.names } Γ el xe && (kd { K with sc := scope.names } Γ el).own &&
                  (decide (ha = 0) && okI { K with sc := scope.names } Γ it2 hi2 && tgB it2 ht && noSet hi2 && (own2.all fun i => decide (i ∈ own)) && okG (inOwn own2) { K with sc := scope.names } Γ tg2 ht && decide (gG tg2 Γ = Γ) && okC { K with sc := scope.names } Γ cc2 hifs)) = true := h2
              simp only [Bool.and_eq_true, decide_eq_true_eq] at h2
              obtain ⟨⟨⟨⟨⟨⟨⟨⟨⟨⟨⟨rfl, q2⟩, q2'⟩, q3⟩, q4⟩, q5⟩, q6⟩, q7⟩, q8⟩, q9⟩, q10⟩, ⟨⟨⟨⟨⟨⟨⟨rfl, k2⟩, k2'⟩, k3⟩, k5⟩, k6⟩, k7⟩, k8⟩⟩ := h2
              have bd' : Bd c P w mg base k { K with sc := scope.names }.N { K with sc := scope.names }.t C := ⟨bd.fn, bd.bl, bd.ex, bd.fv, bd.fnv, bd.gl⟩
              obtain ⟨pi, hi⟩ := snd_I it gi K Γ q2 bd
              obtain ⟨pc, hc⟩ := snd_C cc gifs { K with sc := scope.names } Γ q8 bd'
              obtain ⟨pj, hj⟩ := snd_I it2 hi2 { K with sc := scope.names } Γ k2 bd'
              obtain ⟨pd, hd⟩ := snd_C cc2 hifs { K with sc := scope.names } Γ k8 bd'
              have e0 : (ownL K own).map (·.2) = own := by
                unfold blkB at q4
                simp only [Bool.and_eq_true, decide_eq_true_eq] at q4
                exact q4.2
              have hs2 : ∀ i ∈ own2, i ∈ own := fun i hi => by simpa using List.all_eq_true.mp k5 i hi
              have hloc : Y.env.scope.names.lookup x = some .local := (s.hk x).trans h5.2
              have lc := ps_setLc2 (i := i) (vs1 := own2) s.calm na.nd na.at_ hloc hsw (hi W Y s.toScp gt q2') (blk_ok s.toScp q4) (by rw [e0]; exact hs2)
                (fun s0 H0 Ca cl fp => by have := snd_G tg gt (inOwn own) { K with sc := scope.names } Γ q6 bd' never _ (Zb own) rfl (s.toScp.blk s0 H0 scope Ca cl fp); rw [q7] at this; exact this)
                (fun s0 H0 Ca cl fp => hc never _ (s.toScp.blk s0 H0 scope Ca cl fp))
                (fun s0 H0 Ca cl fp => hj never _ (s.toScp.blk s0 H0 scope Ca cl fp) ht k2')
                (fun s0 H0 Ca cl fp => by have := snd_G tg2 ht (inOwn own2) { K with sc := scope.names } Γ k6 bd' never _ (Zb own2) rfl (s.toScp.blk s0 H0 scope Ca cl fp); rw [k7] at this; exact this)
                (fun s0 H0 Ca cl fp => hd never _ (s.toScp.blk s0 H0 scope Ca cl fp))
                (fun s0 H0 Ca cl fp => ((snd_X el xe false { K with sc := scope.names } Γ q9 bd' never _ (s.toScp.blk s0 H0 scope Ca cl fp)).1 rfl).fz q10) (folded q3) (fun _ => folded k3)
              rw [e0] at lc
              exact ss_setLc2 na (fun i hi => by simpa using List.all_eq_true.mp q5 i hi) hs2 lc lvAsg_le
      · have h' : (okX false K Γ e v && (kd K Γ e).own && okG Z.M K Γ tg t && notName t && noStar t && (!(isTup t || isLst t) || !isTup v)) = true := by
          cases tg <;> first | exact h | exact absurd ⟨_, rfl⟩ ht
        have hg : gS K (.asg tg e) Γ = gG tg Γ := by cases tg <;> first | rfl | exact absurd ⟨_, rfl⟩ ht
        rw [hg]
        simp only [Bool.and_eq_true] at h'
        obtain ⟨⟨⟨⟨⟨h1, h2⟩, h3⟩, h4⟩, h5⟩, h6⟩ := h'
        have ie := ((snd_X e v false K Γ h1 bd W Y s.toScp).1 rfl).fz h2
        have ig := snd_G tg t Z.M K Γ h3 bd W Y Z rfl s.toScp
        refine ss_asg ie ig ?_ ?_ (by rw [assign_cons h5]; rfl)
        · cases t <;> first | (cases h4; done) | skip
          all_goals cases v <;> rfl
        · cases t <;> first | (cases v <;> rfl; done) | skip
          all_goals cases v <;> first | rfl | (cases h6; done)
  | .par tgs es, st, K, Z, Γ, h, bd, W, Y, s => by
    cases st <;> first | (cases h; done) | skip
    rename_i ts v p
    match ts, h with
    | [], h => cases h
    | t :: _ :: _, h => cases t <;> cases h
    | [t], h =>
      cases t <;> first | (cases h; done) | skip
      rename_i tt kk p1
      cases v <;> first | (cases h; done) | skip
      rename_i vs x1 p2 _
      replace h : (okA K Γ [] 0 es vs && decide (vs.length ≤ 1000) && okGs Z.M K Γ tgs tt && tt.all noStar && decide (lenT tgs = tt.length) && (decide (swT K.sc tt vs = some none) || parB Z.M K Γ tgs tt vs) && parL Z.M K Γ tgs es tt vs) = true := h
      simp only [Bool.and_eq_true, decide_eq_true_eq] at h
      obtain ⟨⟨⟨⟨⟨⟨h1, h2⟩, h3⟩, h4⟩, h5⟩, h6'⟩, h7⟩ := h
      rcases parL_cases h7 with hz | ⟨i, j, a, b, va, vb, rfl, rfl, rfl, hp, k1, k2, k3, k4, k5, k6⟩
      rotate_left
      · unfold parB at hp
        split at hp
        · rename_i i' j' x px y py va' vb' e1 e2
          cases e1
          simp only [Bool.and_eq_true, decide_eq_true_eq] at hp
          obtain ⟨⟨⟨⟨⟨g1, g2⟩, g3⟩, g4⟩, g5⟩, g6⟩ := hp
          have ia := sx_low ((snd_X a va false K Γ k1 bd W Y s.toScp).1 rfl) k3 (lvAsg_le (K := K) (i := i) (k := kd K Γ a))
          have ib := sx_low ((snd_X b vb false K Γ k2 bd W Y s.toScp).1 rfl) k4 (lvAsg_le (K := K) (i := j) (k := kd K Γ b))
          refine (ss_par2L s.toCtx (nmL_at (Z := Z) s.toScp g1 rfl) (nmL_at (Z := Z) s.toScp g2 rfl) g3 ((s.hk x).trans g4) ((s.hk y).trans g5) ia ib k5 k6 (swT_ok s.hk s.hb g6) rfl).cong fun ρ => ?_
          have e : ∀ ρ, evS C (.par (.cons (.v i) (.cons (.v j) .nil)) (.cons a (.cons b .nil))) ρ = (evE C a ρ).bind fun p => (evE C b p.2).bind fun q => .ok (.nx (st (st q.2 i p.1) j q.1)) := fun ρ => by
            show ((evE C a ρ).bind fun p => ((evE C b p.2).bind fun q => ((.ok ([], q.2)) : R (List D × Env)).bind fun q' => .ok (q.1 :: q'.1, q'.2)).bind fun q => .ok (p.1 :: q.1, q.2)).bind _ = _
            cases evE C a ρ with
            | error e => rfl
            | ok p =>
              show (((evE C b p.2).bind _).bind _).bind _ = (evE C b p.2).bind _
              cases evE C b p.2 <;> rfl
          first | exact (e ρ).symm | exact e ρ
        · rename_i e1
          first | cases e1 | simp_all
        · cases hp
      rw [hz]
      by_cases h6 : swT K.sc tt vs = some none
      rotate_left
      · have hp : parB Z.M K Γ tgs tt vs = true := by simpa [h6] using h6'
        unfold parB at hp
        split at hp
        · rename_i i j x px y py va vb
          simp only [Bool.and_eq_true, decide_eq_true_eq] at hp
          obtain ⟨⟨⟨⟨⟨g1, g2⟩, g3⟩, g4⟩, g5⟩, g6⟩ := hp
          exact ss_par2 s.toCtx (nmL_at (Z := Z) s.toScp g1 rfl) (nmL_at (Z := Z) s.toScp g2 rfl) g3 ((s.hk x).trans g4) ((s.hk y).trans g5) (snd_A es [va, vb] K Γ [] 0 h1 bd W Y s.toScp) (swT_ok s.hk s.hb g6) rfl
        · rename_i i j l x px y py z pz va vb vc
          simp only [Bool.and_eq_true, decide_eq_true_eq] at hp
          obtain ⟨⟨⟨⟨⟨⟨⟨⟨⟨g1, g2⟩, g2'⟩, g3⟩, g3'⟩, g3''⟩, g4⟩, g5⟩, g5'⟩, g6⟩ := hp
          exact ss_par3 s.toCtx (nmL_at (Z := Z) s.toScp g1 rfl) (nmL_at (Z := Z) s.toScp g2 rfl) (nmL_at (Z := Z) s.toScp g2' rfl) g3 g3' g3'' ((s.hk x).trans g4) ((s.hk y).trans g5) ((s.hk z).trans g5') (snd_A es [va, vb, vc] K Γ [] 0 h1 bd W Y s.toScp) (swT_ok s.hk s.hb g6) rfl
        · cases hp
      exact ss_parT s.toCtx (snd_A es vs K Γ [] 0 h1 bd W Y s.toScp) (lsOf_nil _ _) (by rw [lsOf_len]; exact h2) (snd_Gs tgs tt Z.M K Γ h3 bd W Y Z rfl s.toScp) (by rw [assign_len]; exact h5.symm) (assign_find h4) rfl (swT_ok s.hk s.hb h6) rfl
  | .exp e, st, K, Z, Γ, h, bd, W, Y, s => by
    cases st <;> first | (cases h; done) | skip
    rename_i v p
    replace h : (okX false K Γ e v && noComp v) = true := h
    simp only [Bool.and_eq_true] at h
    exact ss_exp ((snd_X e v false K Γ h.1 bd W Y s.toScp).1 rfl) (swaps_no h.2)
  | .sif t a b, st, K, Z, Γ, h, bd, W, Y, s => by
    cases st <;> first | (cases h; done) | skip
    rename_i x p q ps
    replace h : (okX true K Γ t x && okB K Z Γ a p && okB K Z Γ b q) = true := h
    simp only [Bool.and_eq_true] at h
    have it := ((snd_X t x true K Γ h.1.1 bd W Y s.toScp).2 rfl).1
    have ia := sss_post (snd_B a p K Z Γ h.1.2 bd W Y s) (minLv_le1 (gB K a Γ) (gB K b Γ))
    have ib := sss_post (snd_B b q K Z Γ h.2 bd W Y s) (minLv_le2 (gB K a Γ) (gB K b Γ))
    refine SS.cong (ss_if it ia ib) fun ρ => ?_
    show ((evE C t ρ).bind _).bind _ = (evE C t ρ).bind _
    rw [bind_assoc]
    congr 1
    funext r
    show ((optR (truO r.1)).bind _).bind _ = (optR (truO r.1)).bind _
    rw [bind_assoc]
    congr 1
  | .for tg it b m, st, K, Z, Γ, h, bd, W, Y, s => by
    cases st <;> first | (cases h; done) | skip
    rename_i t i body els p
    match els, h with
    | _ :: _, h => cases h
    | [], h =>
      replace h : (okI K Γ it i && tgB it t && noSet i && okG Z.M K Γ tg t && okB K { Z with Γb := mask0 m Γ, Γc := mask0 m Γ } (gG tg Γ) b body && leB Γ (gB K b (gG tg Γ)) m && leB Γ (mask0 m Γ) m) = true := h
      simp only [Bool.and_eq_true] at h
      obtain ⟨⟨⟨⟨⟨⟨h1, h1'⟩, h2⟩, h3⟩, h4⟩, h5⟩, h6⟩ := h
      obtain ⟨pi, hi⟩ := snd_I it i K Γ h1 bd
      exact ss_for (Γb := mask0 m Γ) (Γc := mask0 m Γ) s.toCtx s.pass (hi W Y s.toScp t h1') (snd_G tg t Z.M K Γ h3 bd W Y _ rfl s.toScp) (snd_B b body K _ _ h4 bd W Y s) (leB_le h5) (leB_le h6) (leB_le h6) (folded h2)
  | .ret e, st, K, Z, Γ, h, bd, W, Y, s => by
    cases st <;> first | (cases h; done) | skip
    rename_i v p
    cases v <;> first | (cases h; done) | skip
    rename_i v
    replace h : (okX false K Γ e v && (kd K Γ e).own && decide (Z.rl ≤ (kd K Γ e).lv) && leB Z.Γr Γ []) = true := h
    simp only [Bool.and_eq_true, decide_eq_true_eq] at h
    obtain ⟨⟨⟨h1, h2⟩, h3⟩, h4⟩ := h
    exact ss_ret (sx_low ((snd_X e v false K Γ h1 bd W Y s.toScp).1 rfl) h2 h3) fun i => leB_le h4 i (by simp)
  | .retv i, st, K, Z, Γ, h, bd, W, Y, s => by
    cases st <;> first | (cases h; done) | skip
    rename_i v p
    cases v <;> first | (cases h; done) | skip
    rename_i v
    cases v <;> first | (cases h; done) | skip
    rename_i x px
    replace h : (nm K i x && decide (Z.rl ≤ Γ.getD i 0) && leB Z.Γr Γ [i]) = true := h
    simp only [Bool.and_eq_true, decide_eq_true_eq] at h
    obtain ⟨g1, g2, g3, g4⟩ := nm_at s.toScp h.1.1
    exact ss_retv g1 g2 g3 g4 h.1.2 fun j hj => leB_le h.2 j (by simpa using hj)
  | .retn, st, K, Z, Γ, h, bd, W, Y, s => by
    cases st <;> first | (cases h; done) | skip
    rename_i v p
    cases v <;> first | (cases h; done) | skip
    replace h : leB Z.Γr Γ [] = true := h
    exact ss_retN fun i => leB_le h i (by simp)
  | .rai k as, st, K, Z, Γ, h, bd, W, Y, s => by
    cases as <;> first | exact ss_bad | skip
    rename_i a r
    cases r <;> first | exact ss_bad | skip
    replace h : raiB K Γ k a st = true := h
    unfold raiB at h
    split at h
    · rename_i x p0 e p1 p2
      simp only [Bool.and_eq_true, Bool.not_eq_true'] at h
      obtain ⟨⟨⟨⟨⟨h1, h2⟩, h3⟩, h4⟩, h5⟩, h6⟩ := h
      obtain ⟨⟨z1, z2⟩, qm, qe⟩ := List.any_eq_true.mp h3
      simp only [Bool.and_eq_true, decide_eq_true_eq] at qe
      obtain ⟨rfl, rfl⟩ := qe
      obtain ⟨C, c1, c2⟩ := bd.ex.nm _ _ qm
      obtain ⟨D0, f0, B, T⟩ := bd.ex.base _ _ c1
      refine SS.cong (ss_rai s.toCtx (D0 := D0) (f0 := f0) (C := C) (by rw [s.K, s.eP, s.emg]; exact B) (by rw [s.K]; exact T) (s.gl h1) (by rw [s.emg]; exact c2) (by have := s.room.r.dp; omega) c1 (((snd_X a e false K Γ h4 bd W Y s.toScp).1 rfl).fz h5) h2 (star_cons h6) rfl) fun ρ => rfl
    · cases h
  | .pas, st, K, Z, Γ, h, bd, W, Y, s => by
    cases st <;> first | (cases h; done) | skip
    exact ss_pass
  | .brk, st, K, Z, Γ, h, bd, W, Y, s => by
    cases st <;> first | (cases h; done) | skip
    replace h : leB Z.Γb Γ [] = true := h
    exact ss_lev ss_break fun i => leB_le h i (by simp)
  | .cnt, st, K, Z, Γ, h, bd, W, Y, s => by
    cases st <;> first | (cases h; done) | skip
    replace h : leB Z.Γc Γ [] = true := h
    exact ss_lev ss_continue fun i => leB_le h i (by simp)
  | .v _, _, _, _, _, h, _, _, _, _ => by cases h
  | .non, _, _, _, _, h, _, _, _, _ => by cases h
  | .tt, _, _, _, _, h, _, _, _, _ => by cases h
  | .ff, _, _, _, _, h, _, _, _, _ => by cases h
  | .int .., _, _, _, _, h, _, _, _, _ => by cases h
  | .str .., _, _, _, _, h, _, _, _, _ => by cases h
  | .bin .., _, _, _, _, h, _, _, _, _ => by cases h
  | .neg .., _, _, _, _, h, _, _, _, _ => by cases h
  | .not .., _, _, _, _, h, _, _, _, _ => by cases h
  | .and .., _, _, _, _, h, _, _, _, _ => by cases h
  | .or .., _, _, _, _, h, _, _, _, _ => by cases h
  | .cmp .., _, _, _, _, h, _, _, _, _ => by cases h
  | .ite .., _, _, _, _, h, _, _, _, _ => by cases h
  | .call .., _, _, _, _, h, _, _, _, _ => by cases h
  | .idx .., _, _, _, _, h, _, _, _, _ => by cases h
  | .tup .., _, _, _, _, h, _, _, _, _ => by cases h
  | .lst .., _, _, _, _, h, _, _, _, _ => by cases h
  | .lc .., _, _, _, _, h, _, _, _, _ => by cases h
  | .glob _, _, _, _, _, h, _, _, _, _ => by cases h
  | .fnv _, _, _, _, _, h, _, _, _, _ => by cases h
  | .atm _, _, _, _, _, h, _, _, _, _ => by cases h
  | .chain .., _, _, _, _, h, _, _, _, _ => by cases h
  | .isi .., _, _, _, _, h, _, _, _, _ => by cases h
  | .callk .., _, _, _, _, h, _, _, _, _ => by cases h
  | .callv .., _, _, _, _, h, _, _, _, _ => by cases h
  | .bi .., _, _, _, _, h, _, _, _, _ => by cases h
  | .biw .., _, _, _, _, h, _, _, _, _ => by cases h
  | .me .., _, _, _, _, h, _, _, _, _ => by cases h
  | .pop .., _, _, _, _, h, _, _, _, _ => by cases h
  | .slc .., _, _, _, _, h, _, _, _, _ => by cases h
  | .rev .., _, _, _, _, h, _, _, _, _ => by cases h
  | .dct .., _, _, _, _, h, _, _, _, _ => by cases h
  | .lc2 .., _, _, _, _, h, _, _, _, _ => by cases h
  | .dc .., _, _, _, _, h, _, _, _, _ => by cases h
  | .dc2 .., _, _, _, _, h, _, _, _, _ => by cases h
  | .attr .., _, _, _, _, h, _, _, _, _ => by cases h
  | .rng .., _, _, _, _, h, _, _, _, _ => by cases h
  | .enum .., _, _, _, _, h, _, _, _, _ => by cases h
  | .zip .., _, _, _, _, h, _, _, _, _ => by cases h
  | .items .., _, _, _, _, h, _, _, _, _ => by cases h
  | .vals .., _, _, _, _, h, _, _, _, _ => by cases h
  | .rvd .., _, _, _, _, h, _, _, _, _ => by cases h
  | .wlk .., _, _, _, _, h, _, _, _, _ => by cases h
  | .nil, _, _, _, _, h, _, _, _, _ => by cases h
  | .cons .., _, _, _, _, h, _, _, _, _ => by cases h
  | .mov .., _, _, _, _, h, _, _, _, _ => by cases h
  | .aug .., _, _, _, _, h, _, _, _, _ => by cases h
  | .app o e, st, K, Z, Γ, h, bd, W, Y, s => by
    cases st <;> first | (cases h; done) | skip
    rename_i v p
    replace h : appB K Γ o e v = true := h
    unfold appB at h
    split at h
    · rename_i x p0 a apos v cpos
      split at h
      · rename_i i
        simp only [Bool.and_eq_true, decide_eq_true_eq] at h
        obtain ⟨⟨⟨⟨⟨⟨h1, rfl⟩, h3⟩, h4⟩, h5⟩, h6⟩, h7⟩ := h
        obtain ⟨g1, g2, g3, g4⟩ := nm_at s.toScp h1
        have ie := ((snd_X e v false K Γ h4 bd W Y s.toScp).1 rfl).fz h5
        exact ss_app s.toCtx g1 g2 g3 g4 h3 ie rfl (by rw [star_cons h6]; rfl) h7 (star_cons h6) rfl rfl
      · cases h
    · cases h
  | .ins .., _, _, _, _, h, _, _, _, _ => by cases h
  | .upd .., _, _, _, _, h, _, _, _, _ => by cases h
  | .whl t b m, st, K, Z, Γ, h, bd, W, Y, s => by
    cases st <;> first | (cases h; done) | skip
    rename_i x body els p
    match els, h with
    | _ :: _, h => cases h
    | [], h =>
      replace h : (okX true K Γ t x && okB K { Z with Γb := mask0 m Γ, Γc := mask0 m Γ } Γ b body && leB Γ (gB K b Γ) m && leB Γ (mask0 m Γ) m) = true := h
      simp only [Bool.and_eq_true] at h
      obtain ⟨⟨⟨h1, h2⟩, h3⟩, h4⟩ := h
      have it := ((snd_X t x true K Γ h1 bd W Y s.toScp).2 rfl).1
      exact ss_whl (Γb := mask0 m Γ) (Γc := mask0 m Γ) s.pass it (snd_B b body K _ _ h2 bd W Y s) (leB_le h3) (leB_le h4) (leB_le h4)
  | .try b kc i hd m, st, K, Z, Γ, h, bd, W, Y, s => by
    cases st <;> first | (cases h; done) | skip
    rename_i body hh els fin p
    match els, fin, h with
    | _ :: _, _, h => cases h
    | [], _ :: _, h => cases h
    | [], [], h =>
      replace h : (tryB K Z Γ kc i hd m hh && okB K { Z with M := fun l => m.contains l } Γ b body) = true := h
      simp only [Bool.and_eq_true] at h
      obtain ⟨h1, h2⟩ := h
      unfold tryB at h1
      split at h1
      · rename_i j i' x px n y py n' pn ap ph
        simp only [Bool.and_eq_true, Bool.not_eq_true', decide_eq_true_eq] at h1
        obtain ⟨⟨⟨⟨⟨⟨⟨⟨⟨⟨⟨⟨⟨rfl, rfl⟩, q3⟩, q4⟩, q5⟩, q6⟩, q7⟩, q8⟩, q8'⟩, q9⟩, q10⟩, q11⟩, q12⟩, q13⟩ := h1
        obtain ⟨⟨z1, z2⟩, qm, qe⟩ := List.any_eq_true.mp q11
        simp only [Bool.and_eq_true, decide_eq_true_eq] at qe
        obtain ⟨rfl, rfl⟩ := qe
        obtain ⟨C, c1, c2⟩ := bd.ex.nm _ _ qm
        have ni := nmL_at (Z := Z) s.toScp q3 rfl
        have nj := nmL_at (Z := Z) s.toScp q4 rfl
        refine SS.cong (ss_try (kc := z2) (Γ' := Γ.map fun _ => 0) s.toCtx s.hs s.hf s.hex ni nj q5 ((s.hk _).trans q6) ((s.hk _).trans q7) q8' q8 ⟨s.gl q9, q10, .inl (by rw [s.emg]; exact c2)⟩ (fun l hl => List.all_eq_true.mp q12 l hl) (fun l hl => ?_) (fun l => ?_) (fun k C' hk => ?_)
          (fun W' pn xe tk pass => snd_B b body K _ Γ h2 bd W' (Y.tr pn xe) ?_)) fun ρ => ?_
        · by_cases hlt : l < Γ.length
          · have := range_all q13 hlt
            rw [Bool.or_eq_true] at this
            rcases this with z | z
            · exact absurd (by simpa using z) hl
            · exact beq_iff_eq.mp z
          · exact getD_out hlt
        · exact map0_getD Γ l
        · rw [s.K]; exact (bd.ex.rel k C' _ C hk c1).2
        · exact ⟨⟨⟨s.K, tk, s.hu, s.calm, s.gd, s.dg, s.sm⟩, s.eP, s.ew, s.emg, s.ebase, s.room, s.eN, s.nd, s.look, s.fn, pass⟩, s.hk, s.hb, s.hs, s.hf, s.hex⟩
        · exact try_eq
      · cases h1
  | .frz .., _, _, _, _, h, _, _, _, _ => by cases h
  | .mask .., _, _, _, _, h, _, _, _, _ => by cases h
theorem snd_B : ∀ (t : T) (sts : List Stmt) (K : Ck) (Z : Zd) (Γ : List Nat), okB K Z Γ t sts = true → Bd c P w mg base k K.N K.t C → ∀ W Y, ScpS c P w mg base k K.N K.sc W Y → SSs c W Z Γ (gB K t Γ) Y sts (evB C t)
  | .nil, sts, K, Z, Γ, h, bd, W, Y, s => by
    cases sts with
    | nil => exact ss_nil
    | cons e es => cases h
  | .cons a b, sts, K, Z, Γ, h, bd, W, Y, s => by
    cases sts with
    | nil => cases h
    | cons st sts =>
      replace h : (okS K Z Γ a st && okB K Z (gS K a Γ) b sts) = true := h
      simp only [Bool.and_eq_true] at h
      exact ss_cons (snd_S a st K Z Γ h.1 bd W Y s) (snd_B b sts K Z (gS K a Γ) h.2 bd W Y s)
  | .v _, _, _, _, _, h, _, _, _, _ => by cases h
  | .non, _, _, _, _, h, _, _, _, _ => by cases h
  | .tt, _, _, _, _, h, _, _, _, _ => by cases h
  | .ff, _, _, _, _, h, _, _, _, _ => by cases h
  | .int .., _, _, _, _, h, _, _, _, _ => by cases h
  | .str .., _, _, _, _, h, _, _, _, _ => by cases h
  | .bin .., _, _, _, _, h, _, _, _, _ => by cases h
  | .neg .., _, _, _, _, h, _, _, _, _ => by cases h
  | .not .., _, _, _, _, h, _, _, _, _ => by cases h
  | .and .., _, _, _, _, h, _, _, _, _ => by cases h
  | .or .., _, _, _, _, h, _, _, _, _ => by cases h
  | .cmp .., _, _, _, _, h, _, _, _, _ => by cases h
  | .ite .., _, _, _, _, h, _, _, _, _ => by cases h
  | .call .., _, _, _, _, h, _, _, _, _ => by cases h
  | .idx .., _, _, _, _, h, _, _, _, _ => by cases h
  | .tup .., _, _, _, _, h, _, _, _, _ => by cases h
  | .lst .., _, _, _, _, h, _, _, _, _ => by cases h
  | .lc .., _, _, _, _, h, _, _, _, _ => by cases h
  | .glob _, _, _, _, _, h, _, _, _, _ => by cases h
  | .fnv _, _, _, _, _, h, _, _, _, _ => by cases h
  | .atm _, _, _, _, _, h, _, _, _, _ => by cases h
  | .chain .., _, _, _, _, h, _, _, _, _ => by cases h
  | .isi .., _, _, _, _, h, _, _, _, _ => by cases h
  | .callk .., _, _, _, _, h, _, _, _, _ => by cases h
  | .callv .., _, _, _, _, h, _, _, _, _ => by cases h
  | .bi .., _, _, _, _, h, _, _, _, _ => by cases h
  | .biw .., _, _, _, _, h, _, _, _, _ => by cases h
  | .me .., _, _, _, _, h, _, _, _, _ => by cases h
  | .pop .., _, _, _, _, h, _, _, _, _ => by cases h
  | .slc .., _, _, _, _, h, _, _, _, _ => by cases h
  | .rev .., _, _, _, _, h, _, _, _, _ => by cases h
  | .dct .., _, _, _, _, h, _, _, _, _ => by cases h
  | .lc2 .., _, _, _, _, h, _, _, _, _ => by cases h
  | .dc .., _, _, _, _, h, _, _, _, _ => by cases h
  | .dc2 .., _, _, _, _, h, _, _, _, _ => by cases h
  | .attr .., _, _, _, _, h, _, _, _, _ => by cases h
  | .rng .., _, _, _, _, h, _, _, _, _ => by cases h
  | .enum .., _, _, _, _, h, _, _, _, _ => by cases h
  | .zip .., _, _, _, _, h, _, _, _, _ => by cases h
  | .items .., _, _, _, _, h, _, _, _, _ => by cases h
  | .vals .., _, _, _, _, h, _, _, _, _ => by cases h
  | .rvd .., _, _, _, _, h, _, _, _, _ => by cases h
  | .wlk .., _, _, _, _, h, _, _, _, _ => by cases h
  | .asg .., _, _, _, _, h, _, _, _, _ => by cases h
  | .mov .., _, _, _, _, h, _, _, _, _ => by cases h
  | .par .., _, _, _, _, h, _, _, _, _ => by cases h
  | .aug .., _, _, _, _, h, _, _, _, _ => by cases h
  | .app .., _, _, _, _, h, _, _, _, _ => by cases h
  | .ins .., _, _, _, _, h, _, _, _, _ => by cases h
  | .upd .., _, _, _, _, h, _, _, _, _ => by cases h
  | .exp .., _, _, _, _, h, _, _, _, _ => by cases h
  | .sif .., _, _, _, _, h, _, _, _, _ => by cases h
  | .whl .., _, _, _, _, h, _, _, _, _ => by cases h
  | .for .., _, _, _, _, h, _, _, _, _ => by cases h
  | .ret .., _, _, _, _, h, _, _, _, _ => by cases h
  | .retv .., _, _, _, _, h, _, _, _, _ => by cases h
  | .retn, _, _, _, _, h, _, _, _, _ => by cases h
  | .rai .., _, _, _, _, h, _, _, _, _ => by cases h
  | .try .., _, _, _, _, h, _, _, _, _ => by cases h
  | .pas, _, _, _, _, h, _, _, _, _ => by cases h
  | .brk, _, _, _, _, h, _, _, _, _ => by cases h
  | .cnt, _, _, _, _, h, _, _, _, _ => by cases h
  | .frz .., _, _, _, _, h, _, _, _, _ => by cases h
  | .mask .., _, _, _, _, h, _, _, _, _ => by cases h
end
end
end Pz
end
section
set_option Elab.async false
set_option linter.all false
/-! All defs of a text keep the promises that the evaluator tells. -/
namespace Pz
open PySem PySem.Spec PyProof.Rows L2

/-- a def: its place in the text, its IR, its slots' names -/
structure DfI where
  x : Str
  params : Arguments
  body : List Stmt
  scope : Scope
  fi : Fi
  f : Fn
  N : List Str
  ps : List Str
  mv : List Nat
def DfI.ck (d : DfI) (t : Tb) : Ck := ⟨d.N, d.scope.names, t, d.mv⟩
def scopeB (N ps : List Str) (sc : Scope) : Bool := decide (sc.kind = .function) && !sc.isCoroutine && !sc.isGenerator && decide N.Nodup && decide (N.take ps.length = ps) &&
  (ps.all fun x => locB sc.names x) && sc.names.all fun y => decide (y.2 ≠ .free)
theorem scopeB_ok {N ps : List Str} {sc : Scope} (h : scopeB N ps sc = true) : FnScope N ps sc := by
  unfold scopeB at h
  simp only [Bool.and_eq_true, decide_eq_true_eq, Bool.not_eq_true'] at h
  obtain ⟨⟨⟨⟨⟨⟨h1, h2⟩, h3⟩, h4⟩, h5⟩, h6⟩, h7⟩ := h
  refine ⟨h1, h2, h3, h4, h5, fun x hx => ?_, fun y hy => by simpa using List.all_eq_true.mp h7 y hy⟩
  have := List.all_eq_true.mp h6 x hx
  unfold locB at this
  split at this
  · rename_i e; exact .inl e
  · rename_i e; exact .inr e
  · cases this
def DfI.ok (d : DfI) (t : Tb) : Bool :=
  scopeB d.N d.ps d.scope && decide (d.N.length = d.f.ns) && decide (d.ps.length = d.f.np) && decide (d.f.np ≤ d.f.ns) && decide (d.fi.np = d.f.np) && decide (d.fi.io = d.f.io) &&
  (match d.f.io with | [] => true | [j] => decide (j < d.f.np) | _ => false) &&
  (d.f.io.all fun j => decide ((gB (d.ck t) d.f.body (lev0 d.fi.sg d.f.ns)).getD j 0 = d.fi.sg.pl.getD j 0)) &&
  okB (d.ck t) (Z0 d.f d.fi.sg) (lev0 d.fi.sg d.f.ns) d.f.body d.body
section
variable {c : Cf} {P : Program} {w : World} {mg : Str → Option Value} {base : Heap} {Pg : Prog} {ds : List DfI} {t : Tb}
/-- where a def stands -/
def Stands (c : Cf) (kwl : KwL) (mg : Str → Option Value) (d : DfI) (ad : Addr) (fd : FuncData) : Prop := FunD c.X.K d.x d.x d.params d.body d.scope [] [] ad fd ∧ mg d.x = some (.ref ad) ∧ Binds c.X.K fd d.ps [] ∧ ∀ n ks pm, (d.x, n, ks, pm) ∈ kwl → KwB fd d.ps n ks pm
theorem pl0_ok {fi : Fi} (h : pl0 fi = true) : fi.io = [] ∧ ∀ i, fi.sg.pl.getD i 0 = 0 := by
  unfold pl0 at h
  simp only [Bool.and_eq_true] at h
  refine ⟨by simpa using h.1, fun i => ?_⟩
  by_cases hi : i < fi.sg.pl.length
  · have := range_all h.2 hi
    exact beq_iff_eq.mp this
  · exact getD_out hi
theorem run_len {n f : Nat} {F : Fn} {ds : List D} (h : Pg.fn f = some F) (hl : ds.length ≠ F.np) : run Pg n f ds = bad := by
  cases n with
  | zero => rfl
  | succ n =>
    show (optR (Pg.fn f)).bind _ = _
    rw [h]
    show (if ds.length = F.np then _ else _) = _
    rw [if_neg hl]
theorem all_ok (hnd : base.NoDigits) (hsm : SmOk base) (hex : ErrT c P mg t.ex) (hfa : ∀ f ad, c.X.fa f = some ad → ∃ d ∈ ds, d.fi.id = f ∧ pl0 d.fi = true ∧ ∃ fd, Stands c t.kwl mg d ad fd) (hfb : ∀ d ∈ ds, pl0 d.fi = true → ∃ ad, c.X.fa d.fi.id = some ad ∧ mg d.x = some (.ref ad)) (hds : ∀ d ∈ ds, ∃ ad fd, Stands c t.kwl mg d ad fd) (hchk : ∀ d ∈ ds, d.ok t = true) (hfn : ∀ d ∈ ds, Pg.fn d.fi.id = some d.f) (hfns : ∀ x fi, t.fns.lookup x = some fi → ∃ d ∈ ds, d.x = x ∧ d.fi = fi) (hbl : ∀ x ∈ t.bl, mg x = none)
    (hgl : ∀ x g d, (x, g, d) ∈ t.gl → Pg.glob g = d ∧ ((∃ i tk, d = .int i ∧ mg x = some (.int i tk)) ∨ ∃ z tk, d = .str z ∧ mg x = some (.str ⟨z.toArray⟩ tk))) :
    ∀ n, ∀ d ∈ ds, ∀ ad fd, Stands c t.kwl mg d ad fd → FnG P w c.X.K mg base (L2.CX P w) n ad fd d.ps (spF c d.f.np d.f.io d.fi.sg (run Pg n d.fi.id))
  | 0, d, hd, ad, fd, hs => by
    refine ⟨fun vs H Q E ⟨F, A, dd, _, _, _, z⟩ => z.elim, fun A outer s H args us vs Q E _ _ _ _ ⟨F, A0, dd, _, _, _, z⟩ => z.elim⟩
  | n + 1, d, hd, ad, fd, hs => by
    have ih := all_ok hnd hsm hex hfa hfb hds hchk hfn hfns hbl hgl n
    have hc := hchk d hd
    unfold DfI.ok at hc
    simp only [Bool.and_eq_true, decide_eq_true_eq] at hc
    obtain ⟨⟨⟨⟨⟨⟨⟨⟨h1, h2⟩, h3⟩, h4⟩, h5⟩, h6⟩, h7⟩, h8⟩, h9⟩ := hc
    obtain ⟨oc, od, dV, kV, doc, pm, an, cdv, ct, osl, rfl, lk, hcd, _, _⟩ := hs.1.ex
    have bd : Bd c P w mg base n d.N t { call := run Pg n, glob := Pg.glob, fuel := FUEL } := by
      refine ⟨fun x fi hx W Y sc s => ?_, hbl, hex, fun W Y sc s => ⟨fun f ad hf => ?_⟩, fun x fi hx hp => ?_, hgl⟩
      rotate_left
      · obtain ⟨d2, hd2, rfl, hp2, fd2, hs2⟩ := hfa f ad hf
        have hc2 := hchk d2 hd2
        unfold DfI.ok at hc2
        simp only [Bool.and_eq_true, decide_eq_true_eq] at hc2
        have F2 := ih d2 hd2 ad fd2 hs2
        obtain ⟨p1, p2⟩ := pl0_ok hp2
        have e1 : d2.f.io = [] := by rw [← hc2.1.1.1.2]; exact p1
        rw [e1] at F2
        refine ⟨n, fd2, d2.ps, d2.f.np, d2.fi.sg, ?_, s.room, by rw [s.K]; exact hs2.1.kp, by rw [s.K]; exact hs2.2.2.1, p2, fun l hl => run_len (hfn d2 hd2) hl⟩
        rw [s.eP, s.ew, s.K, s.emg, s.ebase]
        exact F2
      · obtain ⟨d2, hd2, rfl, rfl⟩ := hfns x fi hx
        exact hfb d2 hd2 hp
      obtain ⟨d2, hd2, rfl, rfl⟩ := hfns x fi hx
      obtain ⟨ad2, fd2, hs2⟩ := hds d2 hd2
      have hc2 := hchk d2 hd2
      unfold DfI.ok at hc2
      simp only [Bool.and_eq_true, decide_eq_true_eq] at hc2
      have F2 := ih d2 hd2 ad2 fd2 hs2
      refine ⟨n, ad2, fd2, d2.ps, ?_, s.room, by rw [s.emg]; exact hs2.2.1, by rw [s.K]; exact hs2.1.kp, by rw [s.K]; exact hs2.2.2.1, hs2.2.2.2⟩
      rw [s.eP, s.ew, s.K, s.emg, s.ebase, hc2.1.1.1.1.2, hc2.1.1.1.2]
      exact F2
    have key := fn_ok (c := c) (P := P) (w := w) (mg := mg) (base := base) (k := n) (f := d.f) (sg := d.fi.sg) (C := { call := run Pg n, glob := Pg.glob, fuel := FUEL }) (fb := evB _ d.f.body) lk hcd (scopeB_ok h1) h2 h3 ?_ h4 hnd hsm (Γe := gB (d.ck t) d.f.body (lev0 d.fi.sg d.f.ns))
      (fun j hj => by simpa using List.all_eq_true.mp h8 j hj) rfl fun W Y s hk hb hs hf hx => snd_B d.f.body d.body (d.ck t) (Z0 d.f d.fi.sg) _ h9 bd W Y ⟨s, hk, hb, hs, hf, hx⟩
    · refine key.imp fun vs H Q E ⟨F, A, dd, g1, g2, g3, g4⟩ => ⟨F, A, dd, g1, g2, g3, ?_⟩
      have e : run Pg (n + 1) d.fi.id dd = runFn { call := run Pg n, glob := Pg.glob, fuel := FUEL } d.f dd := by
        show (optR (Pg.fn d.fi.id)).bind _ = _
        rw [hfn d hd]; rfl
      rw [← e]; exact g4
    · split at h7
      · rename_i e; exact .inl e
      · rename_i j e; exact .inr ⟨j, e, by simpa using h7⟩
      · cases h7
/-- the law: its promise at a script -/
theorem law_sp {sg : Sg} {call : D → List D → R (D × List D)} {f : List D → R (D × List D)} {H : Hp} {a : Addr} {ns : List Int} (hsg : sg.pl.getD 0 0 = 0) (hS : SqL c.X.K H a (ns.map V.int)) (h : f [.lst (ns.map D.int)] = .ok (.bl true, [])) :
    spF c 1 [] sg f [.ref a] H (fun v _ => v = .bl true) fun _ _ _ => False := by
  refine ⟨H, fun _ => [], [.lst (ns.map D.int)], rfl, rfl, ⟨Sub.refl _, rfl, fun i d hi => ?_, fun _ _ => rfl, fun _ => List.nodup_nil, fun _ _ _ _ z => absurd z (by simp)⟩, ?_⟩
  · have hi := map_some_get hi
    cases i with
    | zero =>
      cases hi
      refine ⟨.ref a, rfl, ?_⟩
      rw [hsg]
      refine ⟨rfl, .lst (ns.map fun n => (V.int n, D.int n)) (by rw [List.map_map]; rfl) (by rw [List.map_map]; exact hS) fun p hp => ?_⟩
      obtain ⟨n, _, rfl⟩ := List.mem_map.mp hp
      exact .int n
    | succ i => cases i <;> cases hi
  · rw [h]
    exact fun v H' F' A' B _ _ _ o _ _ => o.bl_eq
end
end Pz
end
section
set_option Elab.async false
set_option linter.all false
set_option maxRecDepth 100000
/-! What the head tells of the own errors. -/
namespace Pz
open PySem PySem.Spec PyProof.Rows L2

/-- where the base's __init__ stands in the text -/
structure EbD where
  l : Nat
  a1 : Pos
  a2 : Pos
  p0 : Pos
  p1 : Pos
  p3 : Pos
  p5 : Pos
  q1 : Pos
  q2 : Pos
  q3 : Pos
  q4 : Pos
def ebC (K : PySem.W.Frag) : Addr := He.ga K "PuzzleError"
def ebF (K : PySem.W.Frag) : Addr := He.ma K (ebC K) "__init__"
abbrev IniV : Type := Option (Arguments × FuncBody × Scope × Addr × Value × Addr)
def iniV (eb : Option EbD) (K : PySem.W.Frag) : IniV := match eb with
  | none => none
  | some _ => match K.lookup (ebF K) with
    | some ⟨_, _, .func fd, _⟩ => some (fd.params, fd.body, fd.scope, fd.globals, fd.defaults, fd.builtins)
    | _ => none
def valI (eb : Option EbD) : IniV := eb.map fun b => (errArgs b.a1 b.a2, .stmts (errBody b.l b.p0 b.p1 b.p3 b.p5 b.q1 b.q2 b.q3 b.q4), errScope, mainGlobals, .none, builtinsNs)
def fileB (file : Str) : Obj → Bool
  | ⟨_, _, .fields vs, _⟩ => (match (vs[2]? : Option Value) with | some (Value.str fl _) => decide (file = fl) | _ => false)
  | _ => false
def cellB (D : Addr) : Obj → Bool
  | ⟨_, _, .cell (some (.ref D')), _⟩ => decide (D' = D)
  | _ => false
/-- the __init__'s code and cell -/
def iniB (file : Str) (K : PySem.W.Frag) : Bool := match K.lookup (ebF K) with
  | some ⟨_, _, .func fd, _⟩ => (match fd.code, fd.closure with
    | .ref cda, [(x, cc)] => decide (x = "__class__") && PySem.W.codeIn K (.ref cda) fd.qualname && (match K.lookup cda with | some o => fileB file o | none => false) && (match K.lookup cc with | some o => cellB (ebC K) o | none => false)
    | _, _ => false)
  | _ => false
/-- a class object as the rules want it -/
def shapeB (C : Addr) : Obj → Bool
  | ⟨.type t, _, .cls cd, sl⟩ => (match cd.mro, sl.toList with
    | .ref C' :: bm, [_, _, _, _, some (.builtin n), _] => decide (t = "type") && decide (C' = C) && decide (n = "ValueError.__new__") && !cd.hasDel && cd.hasDict && PySem.HandSPX.refsVE bm
    | _, _ => false)
  | _ => false
def dO (a b : Option (Option Value)) : Bool := decide (a = b)
def clsB (K : PySem.W.Frag) (C : Addr) : Bool :=
  (match K.lookup C with | some o => shapeB C o | none => false) && dO (PySem.W.findIn K (.ref C) "__setattr__") (some (some (.builtin "object.__setattr__"))) && decide (PySem.W.typeIn K (.ref C) = some (.type "type")) && PySem.W.keepIn K (.ref C) &&
  dO (PySem.W.findIn K (.ref C) "__init__") (some (some (.ref (ebF K)))) && decide (PySem.W.typeIn K (.ref (ebF K)) = some (.type "function")) && dO (PySem.W.ks_superIn K C (ebC K) "__init__") (some (some (.builtin "ValueError.__init__"))) &&
  decide (PySem.W.mroIn K C (.ref (ebC K)) = some true) && decide (PySem.W.subIn K (.ref C) (.type "ValueError") = some true) && dO (PySem.W.findIn K (.ref C) "value") (some none) && xfB K C && (PySem.W.clsIn K C).isSome &&
  dO (PySem.W.findIn K (.ref C) "__class__") (some (some (.builtin "object.__class__"))) && dO (PySem.W.specialIn K (.builtin "object.__class__") "__get__") (some (some (.builtin "getset_descriptor.__get__"))) && decide (PySem.W.takesIn K (.builtin "object.__class__") = some true) &&
  decide (PySem.W.mroIn K C (.type "object") = some true)
def plainTs : List String := ["NoneType", "bool", "int", "str", "list", "tuple", "dict"]
/-- all that is told of the classes ex -/
def errAll (file : Str) (ex : List (Str × Nat)) (K : PySem.W.Frag) : Bool := (
  (PySem.W.clsIn K (ebC K)).isSome && dO (PySem.W.nsIn K cStatics "thirdparty.any") (some none) && iniB file K &&
  ex.all fun p => dO (PySem.W.nsIn K mainGlobals p.1) (some (some (.ref (He.ga K p.1)))) && clsB K (He.ga K p.1) &&
    (plainTs.all fun t => decide (PySem.W.kitOne K (.type t) (.ref (He.ga K p.1)) = some false)) &&
    ex.all fun q => decide (PySem.W.kitOne K (.ref (He.ga K p.1)) (.ref (He.ga K q.1)) = some (q.2 == 0 || q.2 == p.2)) && decide (PySem.W.exmOne K (.ref (He.ga K p.1)) (.ref (He.ga K q.1)) = some (q.2 == 0 || q.2 == p.2)))
def errOk (file : Str) (ex : List (Str × Nat)) (K : PySem.W.Frag) : Bool := ex.isEmpty || errAll file ex K
def SaysE (file : Str) (eb : Option EbD) (ex : List (Str × Nat)) (K : PySem.W.Frag) : Prop := errOk file ex K = true ∧ iniV eb K = valI eb
/-- the class's place -/
def caOf (ex : List (Str × Nat)) (K : PySem.W.Frag) : Nat → Option Addr := fun k => (ex.find? fun p => p.2 == k).map fun p => He.ga K p.1

section
variable {K : PySem.W.Frag} {C : Addr} {file : Str} {eb : Option EbD} {ex : List (Str × Nat)}
theorem shape_ok {o : Obj} (h : shapeB C o = true) : ∃ nm q N bs bm sn sub ab col dd k0 k1 k2 k3 k5, o = excClassObj nm q C N bs bm true sn sub ab col dd k0 k1 k2 k3 k5 "ValueError.__new__" ∧ PySem.HandSPX.refsVE bm = true := by
  obtain ⟨oc, od, da, sl⟩ := o
  cases oc <;> first | (cases h; done) | skip
  rename_i t
  cases da <;> first | (cases h; done) | skip
  rename_i cd
  obtain ⟨nm, bs, mro, ns, qn, hd, sn, sub, ab, col, del⟩ := cd
  unfold shapeB at h
  dsimp only at h
  split at h
  · rename_i C' bm k0 k1 k2 k3 n k5 hs
    simp only [Bool.and_eq_true, decide_eq_true_eq, Bool.not_eq_true'] at h
    obtain ⟨⟨⟨⟨⟨rfl, rfl⟩, rfl⟩, h4⟩, h5⟩, h6⟩ := h
    subst h4 h5
    have hsl : sl = #[k0, k1, k2, k3, some (.builtin "ValueError.__new__"), k5] := by
      obtain ⟨l⟩ := sl
      simp only at hs
      rw [hs]
    subst hsl
    exact ⟨nm, qn, ns, bs, bm, sn, sub, ab, col, od, k0, k1, k2, k3, k5, rfl, h6⟩
  · cases h
theorem dO_ok {a b : Option (Option Value)} (h : dO a b = true) : a = b := of_decide_eq_true h
theorem cls_okB (h : clsB K C = true) : ErrC K (ebC K) (ebF K) C ∧ XCl K C := by
  unfold clsB at h
  simp only [Bool.and_eq_true, decide_eq_true_eq] at h
  obtain ⟨⟨⟨⟨⟨⟨⟨⟨⟨⟨⟨⟨⟨⟨⟨h1, h2⟩, h3⟩, h4⟩, h5⟩, h6⟩, h7⟩, h8⟩, h9⟩, h10⟩, h11⟩, h12⟩, h13⟩, h14⟩, h15⟩, h16⟩ := h
  have xf := xfB_ok h11
  refine ⟨⟨⟨?_, dO_ok h2, xf.exC, h3, h4⟩, dO_ok h5, h6, dO_ok h7, h8, h9, dO_ok h10⟩, xf, dO_ok h10, h12, dO_ok h13, dO_ok h14, h15, h16⟩
  cases e : K.lookup C with
  | none => rw [e] at h1; cases h1
  | some o =>
    rw [e] at h1
    obtain ⟨nm, q, N, bs, bm, sn, sub, ab, col, dd, k0, k1, k2, k3, k5, e2, e3⟩ := shape_ok h1
    exact ⟨nm, q, N, bs, bm, sn, sub, ab, col, dd, k0, k1, k2, k3, k5, by rw [e2], e3⟩

theorem ini_ok {file : Str} {eb : EbD} (h : iniB file K = true) (e : iniV (some eb) K = valI (some eb)) (hl : eb.l = 5 ∨ eb.l = 8) {prog : Program} (hf : prog.main.file = file) :
    ∃ oc od osl name qual kV doc pm an ct cda cc a1 a2 l p0 p1 p3 p5 q1 q2 q3 q4, (l = 5 ∨ l = 8) ∧ K.lookup (ebF K) = some ⟨oc, od, .func (PySem.W.ksFn name qual (errArgs a1 a2) (errBody l p0 p1 p3 p5 q1 q2 q3 q4) errScope .none kV doc pm an (.ref cda) ct cc), osl⟩ ∧ PySem.W.codeIn K (.ref cda) qual = true ∧
    (∃ ccl cdd vs ccs fl tf, K.lookup cda = some ⟨ccl, cdd, .fields vs, ccs⟩ ∧ vs[2]? = some (.str fl tf) ∧ ((prog.main.file : Str) == fl) = true) ∧
    ∃ cl cld csl, K.lookup cc = some ⟨cl, cld, .cell (some (.ref (ebC K))), csl⟩ := by
  unfold iniB at h
  unfold iniV at e
  dsimp only at e
  cases q : K.lookup (ebF K) with
  | none => rw [q] at h; cases h
  | some o =>
    obtain ⟨oc, od, da, osl⟩ := o
    rw [q] at h e
    cases da <;> first | (cases h; done) | skip
    rename_i fd
    obtain ⟨n1, n2, n3, n4, n5, n6, n7, n8, n9, n10, n11, n12, n13, n14, n15⟩ := fd
    dsimp only at h e
    simp only [valI, Option.map_some, Option.some.injEq, Prod.mk.injEq] at e
    obtain ⟨rfl, rfl, rfl, rfl, rfl, rfl⟩ := e
    split at h
    · rename_i cda x cc
      simp only [Bool.and_eq_true, decide_eq_true_eq] at h
      obtain ⟨⟨⟨rfl, h2⟩, h3⟩, h4⟩ := h
      refine ⟨oc, od, osl, n1, n2, n9, n10, n11, n12, n14, cda, cc, eb.a1, eb.a2, eb.l, eb.p0, eb.p1, eb.p3, eb.p5, eb.q1, eb.q2, eb.q3, eb.q4, hl, rfl, h2, ?_, ?_⟩
      · cases q2 : K.lookup cda with
        | none => rw [q2] at h3; cases h3
        | some o =>
          obtain ⟨c1, c2, da, c3⟩ := o
          rw [q2] at h3
          cases da <;> first | (cases h3; done) | skip
          rename_i vs
          replace h3 : (match (vs[2]? : Option Value) with | some (Value.str fl _) => decide (file = fl) | _ => false) = true := h3
          split at h3
          · rename_i fl tf e2
            exact ⟨c1, c2, vs, c3, fl, tf, rfl, e2, by rw [hf, of_decide_eq_true h3]; exact beq_self_eq_true _⟩
          · cases h3
      · cases q2 : K.lookup cc with
        | none => rw [q2] at h4; cases h4
        | some o =>
          obtain ⟨c1, c2, da, c3⟩ := o
          rw [q2] at h4
          cases da <;> first | (cases h4; done) | skip
          rename_i v
          cases v with
          | none => cases h4
          | some v =>
            cases v <;> first | (cases h4; done) | skip
            have e2 := of_decide_eq_true h4
            subst e2
            exact ⟨c1, c2, c3, rfl⟩
    · cases h
theorem tn_mem {d : D} (h : tyOk d = true) : tnD d ∈ plainTs := by
  cases d <;> first | (cases h; done) | (simp [tnD, plainTs])
theorem errT_of {c : Cf} {P : Program} {mg : Str → Option Value} {h : Heap} {eb : EbD} (hK : c.X.K = K) (hca : c.X.ca = caOf ex K) (X : K.In h) (G : h.Ns mainGlobals mg) (s : SaysE file (some eb) ex K) (hl : eb.l = 5 ∨ eb.l = 8) (hf : P.main.file = file)
    (ht : (P.main.scope.names.lookup ("super" : Str)).isSome = false) (hsup : mg "super" = none) (hnd : (ex.map (·.2)).Nodup) : ErrT c P mg ex := by
  subst hK
  obtain ⟨s1, s2⟩ := s
  have fact : ∀ k C, c.X.ca k = some C → ∃ p ∈ ex, p.2 = k ∧ C = He.ga c.X.K p.1 := fun k C e => by
    rw [hca] at e
    obtain ⟨p, e1, rfl⟩ := Option.map_eq_some_iff.mp e
    exact ⟨p, List.mem_of_find?_eq_some e1, by simpa using List.find?_some e1, rfl⟩
  have back : ∀ p ∈ ex, c.X.ca p.2 = some (He.ga c.X.K p.1) := fun p hp => by
    rw [hca]
    show (ex.find? _).map _ = _
    cases e : ex.find? (fun q => q.2 == p.2) with
    | none => exact absurd (List.find?_eq_none.mp e p hp) (by simp)
    | some q =>
      have e2 : q.2 = p.2 := by simpa using List.find?_some e
      have : q = p := by
        obtain ⟨i, hi, rfl⟩ := List.getElem_of_mem (List.mem_of_find?_eq_some e)
        obtain ⟨j, hj, rfl⟩ := List.getElem_of_mem hp
        have := (List.getElem_inj (xs := ex.map (·.2)) (h₀ := by simpa using hi) (h₁ := by simpa using hj) hnd).mp (by rw [List.getElem_map, List.getElem_map, e2])
        subst this; rfl
      rw [this]; rfl
  have all : ∀ p ∈ ex, errAll file ex c.X.K = true := fun p hp => by
    unfold errOk at s1
    rw [Bool.or_eq_true] at s1
    rcases s1 with z | z
    · rw [List.isEmpty_iff] at z; rw [z] at hp; cases hp
    · exact z
  have cl : ∀ p ∈ ex, PySem.W.nsIn c.X.K mainGlobals p.1 = some (some (.ref (He.ga c.X.K p.1))) ∧ (ErrC c.X.K (ebC c.X.K) (ebF c.X.K) (He.ga c.X.K p.1) ∧ XCl c.X.K (He.ga c.X.K p.1)) ∧ (∀ t ∈ plainTs, PySem.W.kitOne c.X.K (.type t) (.ref (He.ga c.X.K p.1)) = some false) ∧
      ∀ q ∈ ex, PySem.W.kitOne c.X.K (.ref (He.ga c.X.K p.1)) (.ref (He.ga c.X.K q.1)) = some (q.2 == 0 || q.2 == p.2) ∧ PySem.W.exmOne c.X.K (.ref (He.ga c.X.K p.1)) (.ref (He.ga c.X.K q.1)) = some (q.2 == 0 || q.2 == p.2) := fun p hp => by
    have z := all p hp
    unfold errAll at z
    simp only [Bool.and_eq_true] at z
    have z2 := List.all_eq_true.mp z.2 p hp
    simp only [Bool.and_eq_true] at z2
    obtain ⟨⟨⟨z3, z4⟩, z5⟩, z6⟩ := z2
    refine ⟨dO_ok z3, cls_okB z4, fun t ht => of_decide_eq_true (List.all_eq_true.mp z5 t ht), fun q hq => ?_⟩
    have z7 := List.all_eq_true.mp z6 q hq
    simp only [Bool.and_eq_true, decide_eq_true_eq] at z7
    exact z7
  refine ⟨fun x k hm => ⟨_, back _ hm, PySem.W.mg_of X G (cl _ hm).1⟩, fun k C e => ?_, fun k C e => ?_, fun k C j C2 e1 e2 => ?_, fun j C2 d e ht2 => ?_⟩
  · obtain ⟨p, hp, rfl, rfl⟩ := fact k C e
    have z := all p hp
    unfold errAll at z
    simp only [Bool.and_eq_true] at z
    obtain ⟨⟨⟨z1, z2⟩, z3⟩, _⟩ := z
    exact ⟨ebC c.X.K, ebF c.X.K, ⟨ini_ok z3 s2 hl hf, Option.isSome_iff_exists.mp z1, dO_ok z2, ht, hsup⟩, (cl p hp).2.1.1⟩
  · obtain ⟨p, hp, rfl, rfl⟩ := fact k C e
    exact (cl p hp).2.1.2
  · obtain ⟨p, hp, rfl, rfl⟩ := fact k C e1
    obtain ⟨q, hq, rfl, rfl⟩ := fact j C2 e2
    exact (cl p hp).2.2.2 q hq
  · obtain ⟨p, hp, rfl, rfl⟩ := fact j C2 e
    exact (cl p hp).2.2.1 _ (tn_mem ht2)
end
/-- no own errors -/
theorem errT_none {c : Cf} {P : Program} {mg : Str → Option Value} (hca : ∀ k, c.X.ca k = none) : ErrT c P mg [] :=
  ⟨fun x k h => (by cases h), fun k C h => (by rw [hca] at h; cases h), fun k C h => (by rw [hca] at h; cases h), fun k C j C2 h => (by rw [hca] at h; cases h), fun j C2 d h => (by rw [hca] at h; cases h)⟩
/-- sys.modules is a dict -/
def smB (g : Addr → Option Obj) : Bool := match g sysModules with
  | some ⟨_, _, .dict _ _, _⟩ => true
  | _ => false
theorem smB_ok {h : Heap} (e : smB h.get? = true) : SmOk h := by
  unfold smB at e
  cases q : h.get? sysModules with
  | none => rw [q] at e; cases e
  | some o =>
    obtain ⟨oc, od, da, sl⟩ := o
    rw [q] at e
    cases da <;> first | (cases e; done) | skip
    exact ⟨_, _, _, q, rfl⟩
/-- the head's facts, read by a Hook -/
abbrev AlP : Type := He.AlD × (Bool × Bool) × IniV
def frP (n : Nat) (g : Addr → Option Obj) : PySem.W.Frag := He.frG g (cStatics :: He.asD g n)
def obsP (n : Nat) (fa : List He.Fa) (fn : List He.DefD) (file : Str) (eb : Option EbD) (ex : List (Str × Nat)) (g : Addr → Option Obj) : AlP := (He.obsD fa fn (frP n g), (errOk file ex (frP n g), smB g), iniV eb (frP n g))
def hookP (n : Nat) (fa : List He.Fa) (fn : List He.DefD) (file : Str) (eb : Option EbD) (ex : List (Str × Nat)) : PySem.W.Hook where
  α := AlP
  obs := fun s => obsP n fa fn file eb ex s.heap.get?
  val := fun _ => (He.valD fn, (true, true), valI eb)
  says := fun _ h => ∃ K : PySem.W.Frag, K.In h ∧ He.SaysD fa fn K ∧ SaysE file eb ex K ∧ SmOk h
  of := fun _ s e => ⟨frP n s.heap.get?, He.frG_in, congrArg (fun z : AlP => z.1) e, ⟨congrArg (fun z : AlP => z.2.1.1) e, congrArg (fun z : AlP => z.2.2) e⟩, smB_ok (congrArg (fun z : AlP => z.2.1.2) e)⟩
  keeps := fun _ _ _ ⟨K, hK, c1, c2, o, es, n, e1, e2⟩ k => ⟨K, PySem.W.Frag.In.keeps hK k, c1, c2, o, es, n, k _ _ e1, e2⟩
theorem obsP_eq {n : Nat} {fa : List He.Fa} {fn : List He.DefD} {file : Str} {eb : Option EbD} {ex : List (Str × Nat)} {g : Addr → Option Obj} {s : Shared} (h : ∀ a, g a = s.heap.get? a) : obsP n fa fn file eb ex g = (hookP n fa fn file eb ex).obs s := by
  have e : g = s.heap.get? := funext h
  rw [e] <;> rfl
end Pz
end
section
set_option Elab.async false
set_option linter.all false
/-! The head's facts, for any list of defs; the law's end. -/
namespace Pz
open PySem PySem.Spec PyProof.Rows L2

def DfI.de (d : DfI) : He.DefD := ⟨(d.x, none), d.x, d.x, d.params, d.body, d.scope, [], []⟩
/-- a constant's fact -/
def glFa : Str × Nat × D → Option He.Fa
  | (x, _, .int i) => some (.int x i)
  | (x, _, .str s) => some (.str x ⟨s.toArray⟩)
  | _ => none
def faOf (ds : List DfI) (t : Tb) : List He.Fa := (ds.map fun d => .glo d.x) ++ (t.bl.map .free ++ (t.gl.filterMap glFa ++ [.free "super"]))
def fnOf (ds : List DfI) : List He.DefD := ds.map DfI.de
/-- all parameters are plain -/
def BindOk (d : DfI) : Prop := ∀ (kV doc pm : Value) (an : Option Addr) (cdv ct : Value) (us : List Value), us.length = d.ps.length → bindArgs (PySem.W.fnOf d.x d.x d.params d.body d.scope .none kV doc pm an cdv ct) ⟨us, []⟩ = pure (d.ps.zip us)
/-- how a call with keywords binds -/
def KwOk (d : DfI) (n : Nat) (ks : List Str) (pl : List Nat) : Prop := ∀ (kV doc pm : Value) (an : Option Addr) (cdv ct : Value) (us ws : List Value), us.length = n → ws.length = ks.length →
  bindArgs (PySem.W.fnOf d.x d.x d.params d.body d.scope .none kV doc pm an cdv ct) ⟨us, ks.zip ws⟩ = pure (d.ps.zip (permL pl (us ++ ws)))
/-- what the law's text must show of its tables -/
structure TbOk (ds : List DfI) (t : Tb) (Pg : Prog) : Prop where
  bind : ∀ d ∈ ds, BindOk d
  kw : ∀ d ∈ ds, ∀ q ∈ t.kwl, q.1 = d.x → KwOk d q.2.1 q.2.2.1 q.2.2.2
  chk : ∀ d ∈ ds, d.ok t = true
  fn : ∀ d ∈ ds, Pg.fn d.fi.id = some d.f
  fns : ∀ x fi, t.fns.lookup x = some fi → ∃ d ∈ ds, d.x = x ∧ d.fi = fi
  gl : ∀ q ∈ t.gl, Pg.glob q.2.1 = q.2.2 ∧ (glFa q).isSome = true
  nd : (ds.map (·.fi.id)).Nodup
  ndx : (t.ex.map (·.2)).Nodup
theorem stands {K : PySem.W.Frag} {h : Heap} {mg : Str → Option Value} {ds : List DfI} {t : Tb} {c : Cf} {Pg : Prog} (hK : c.X.K = K) (X : K.In h) (G : h.Ns mainGlobals mg) (s : He.SaysD (faOf ds t) (fnOf ds) K) (ok : TbOk ds t Pg) :
    (∀ d ∈ ds, ∃ fd, Stands c t.kwl mg d (He.ga K d.x) fd) ∧ (∀ x ∈ t.bl, mg x = none) ∧ mg "super" = none ∧
      ∀ x g d, (x, g, d) ∈ t.gl → Pg.glob g = d ∧ ((∃ i tk, d = .int i ∧ mg x = some (.int i tk)) ∨ ∃ z tk, d = .str z ∧ mg x = some (.str ⟨z.toArray⟩ tk)) := by
  subst hK
  refine ⟨fun d hd => ?_, fun x hx => He.free_ok X G (s.facts (List.mem_append_right _ (List.mem_append_left _ (List.mem_map.mpr ⟨x, hx, rfl⟩)))), He.free_ok X G (s.facts (List.mem_append_right _ (List.mem_append_right _ (List.mem_append_right _ List.mem_cons_self)))), fun x g d hm => ?_⟩
  · obtain ⟨fd, F⟩ := s.defs (d := d.de) (List.mem_map.mpr ⟨d, hd, rfl⟩)
    have g := He.glo_ok X G (s.facts (f := .glo d.x) (List.mem_append_left _ (List.mem_map.mpr ⟨d, hd, rfl⟩)))
    have F' : FunD c.X.K d.x d.x d.params d.body d.scope [] [] (He.fAd c.X.K (d.x, none)) fd := F
    refine ⟨fd, F', g, F'.bindsN (ok.bind d hd), fun n ks pm hm s us ws l1 l2 => ?_⟩
    obtain ⟨oc, od, dV, kV, doc, pm', an, cdv, ct, osl, rfl, lk, hcd, hD, hK⟩ := F'.ex
    rcases hD with ⟨_, rfl⟩ | ⟨e, _⟩
    · exact .of_eq (ok.kw d hd _ hm rfl kV doc pm' an cdv ct us ws l1 l2)
    · exact absurd rfl e
  · obtain ⟨h1, h2⟩ := ok.gl _ hm
    refine ⟨h1, ?_⟩
    have fact : ∀ f, glFa (x, g, d) = some f → f.ok c.X.K = true := fun f hf => s.facts (List.mem_append_right _ (List.mem_append_right _ (List.mem_append_left _ (List.mem_filterMap.mpr ⟨_, hm, hf⟩))))
    cases d <;> first | (cases h2; done) | skip
    · rename_i i
      obtain ⟨tk, e⟩ := He.int_ok X G (fact _ rfl)
      exact .inl ⟨i, tk, rfl, e⟩
    · rename_i z
      obtain ⟨tk, e⟩ := He.str_ok X G (fact _ rfl)
      exact .inr ⟨z, tk, rfl, e⟩
theorem lookup_mem {β : Type} {x : Str} {b : β} : ∀ {l : List (Str × β)}, l.lookup x = some b → (x, b) ∈ l
  | [], h => by cases h
  | (y, c) :: l, h => by
    rw [List.lookup_cons] at h
    split at h
    · rename_i e
      cases h
      rw [eq_of_beq e]; exact List.mem_cons_self
    · exact List.mem_cons_of_mem _ (lookup_mem h)

/-! ### the law's call at the caller: no guard stands there -/
section
variable {P : Program} {w : World} {K : PySem.W.Frag} {mg mb : Str → Option Value} {k : Nat} {fa a : Addr} {fd : FuncData} {x : Str} {sp : Sp} {s : Shared} {vs : List Value} {ns : List Int}
/-- what the call ends with -/
def EndOk (s : Shared) : Result → Shared → Prop := fun r s' => r = .ok (.ret (.bool true)) ∧ OldK s.heap s'.heap ∧ s'.os = s.os ∧ AllBare s'.gens
/-- with an abstract heap that holds nothing but the script -/
theorem callG_at {H : Hp} (inK : K.In s.heap) (n1 : s.heap.Ns mainGlobals mg) (n2 : s.heap.Ns builtinsNs mb) (bb : ∀ y : Str, y ≠ "__name__" → mb y = bootBuiltins y) (nol : s.heap.NoLimit) (nod : s.heap.NoDigits) (smo : SmOk s.heap) (gn : s.gens = #[])
    (scr : s.heap.get? a = some { cls := .type "list", data := .seq vs.toArray }) (rm : Room k callerA) (F : ∀ base : Heap, K.In base → base.Ns mainGlobals mg → base.NoDigits → SmOk base → FnG P w K mg base (L2.CX P w) k fa fd [x] sp)
    (bi : ∀ (s : Shared) (u : Value), BindsTo s fd ⟨[u], []⟩ [(x, u)]) (hO : Only H) (ok : HOk P w H s.heap) (hA : ∀ b, H b ≠ none → b = a) (hK : H a ≠ none → K.lookup a = none) (z : sp [.ref a] H (fun v _ => v = .bl true) fun _ _ _ => False) :
    codeAny (model P w) callerA (.call (.ref fa) ⟨[.ref a], []⟩) (EndOk s) s := by
  have hid : ∀ {b : Addr} {o : Obj}, s.heap.get? b = some o → H b = none → (hidT s.heap H).get? b = some o := fun e n => hidT_get e n
  have at_a : ∀ {b : Addr}, H b ≠ none → b = a := fun {b} h => hA b h
  have dict_free : ∀ {b : Addr} {o : Obj} {es : Array DictEntry} {ep : Nat}, s.heap.get? b = some o → o.data = .dict es ep → H b = none := by
    intro b o es ep e d
    apply Classical.byContradiction
    intro h
    have := at_a h
    subst this
    rw [scr] at e
    have e' := Option.some.inj e
    rw [← e'] at d
    cases d
  have ns_hid : ∀ {b : Addr} {m : Str → Option Value}, s.heap.Ns b m → (hidT s.heap H).Ns b m := by
    rintro b m ⟨o, es, ep, e, d, r⟩
    exact ⟨o, es, ep, hid e (dict_free e d), d, r⟩
  have k_hid : K.In (hidT s.heap H) := by
    intro b o e
    refine hid (inK b o e) (Classical.byContradiction fun h => ?_)
    have := at_a h
    subst this
    rw [hK h] at e
    cases e
  have md : Mod K mg (hidT s.heap H) := ⟨k_hid, ns_hid n1, ⟨mb, ns_hid n2, bb⟩, by
    obtain ⟨mc, m1, m2⟩ := nol
    exact ⟨mc, ns_hid m1, m2⟩⟩
  have ndh : (hidT s.heap H).NoDigits := by
    obtain ⟨mc, m1, m2⟩ := nod
    exact ⟨mc, ns_hid m1, m2⟩
  have smh : SmOk (hidT s.heap H) := by
    obtain ⟨o, es, n, e, e2⟩ := smo
    exact ⟨o, es, n, hid e (dict_free e e2), e2⟩
  have en : Env0 P w K mg (hidT s.heap H) callerA [] s H :=
    { frames := rfl, mod := md, bs := fun b o e => of_hidT e, bsz := Nat.le_of_eq (hidT_size _ _), funs := trivial, frf := fun b hb => (by cases hb), hok := ok, bare := .of_eq gn }
  have run := (F _ k_hid (ns_hid n1) ndh smh).run callerA [] s H ⟨[.ref a], []⟩ [.ref a] [.ref a] _ _ ⟨rm, rfl⟩ en (bi s (.ref a)) (.cons rfl .nil) z
  apply codeAny_mono run
  intro r s2 h
  match r, h with
  | .error e, h =>
    obtain ⟨_, _, _, _, _, _, _, _, _, _, _, _, y⟩ := h
    exact y.elim
  | .ok .next, h => exact h.elim
  | .ok .brk, h => exact h.elim
  | .ok .cont, h => exact h.elim
  | .ok (.ret u), ⟨v, H2, o2, b2, un, ok2, rl, q⟩ =>
    replace q : v = .bl true := q
    subst q
    obtain rfl : u = Value.bool true := rl
    refine ⟨rfl, OldK.of_keep fun b o e => ?_, o2, b2⟩
    cases h : H b with
    | none => exact un.keep b o e h (fun y => by cases y) (fun y => by cases y)
    | some ho =>
      rcases hO b with y | ⟨ob, xs, y⟩
      · rw [h] at y; cases y
      · obtain ⟨e1, _⟩ := ok b _ y
        obtain ⟨e2, _⟩ := ok2 b _ (un.frzs b ob _ y)
        rw [e] at e1
        cases e1
        exact e2
theorem callG (inK : K.In s.heap) (n1 : s.heap.Ns mainGlobals mg) (n2 : s.heap.Ns builtinsNs mb) (bb : ∀ y : Str, y ≠ "__name__" → mb y = bootBuiltins y) (nol : s.heap.NoLimit) (nod : s.heap.NoDigits) (smo : SmOk s.heap) (gn : s.gens = #[])
    (scr : s.heap.get? a = some { cls := .type "list", data := .seq vs.toArray }) (hi : IntsAre vs ns) (hl : ns.length ≤ sizeLine) (rm : Room k callerA) (F : ∀ base : Heap, K.In base → base.Ns mainGlobals mg → base.NoDigits → SmOk base → FnG P w K mg base (L2.CX P w) k fa fd [x] sp)
    (bi : ∀ (s : Shared) (u : Value), BindsTo s fd ⟨[u], []⟩ [(x, u)]) (hsp : ∀ H : Hp, Only H → SqL K H a (ns.map V.int) → sp [.ref a] H (fun v _ => v = .bl true) fun _ _ _ => False) :
    codeAny (model P w) callerA (.call (.ref fa) ⟨[.ref a], []⟩) (EndOk s) s := by
  have rv := vals_ints hi
  cases hk : K.lookup a with
  | some o =>
    have e := inK a o hk
    rw [scr] at e
    cases e
    have S : SqL K (fun _ => none) a (ns.map V.int) := .inr ⟨_, vs.toArray, _, hk, rfl, rfl, rfl, by rw [List.size_toArray, hi.length]; exact hl, by simpa using rv⟩
    have O : Only fun _ => none := fun _ => .inl rfl
    exact callG_at (H := fun _ => none) inK n1 n2 bb nol nod smo gn scr rm F bi O (fun b o e => by cases e) (fun b h => absurd rfl h) (fun h => absurd rfl h) (hsp _ O S)
  | none =>
    let L : HO := .frz { cls := .type "list", data := .seq vs.toArray } (.lst (ns.map V.int))
    let H : Hp := fun b => if b = a then some L else none
    have ha : H a = some L := if_pos rfl
    have hb : ∀ b, b ≠ a → H b = none := fun b n => if_neg n
    have O : Only H := fun b => by
      by_cases e : b = a
      · subst e; exact .inr ⟨_, _, ha⟩
      · exact .inl (hb b e)
    have S : SqL K H a (ns.map V.int) := .inl (.inr ⟨_, ha⟩)
    refine callG_at (H := H) inK n1 n2 bb nol nod smo gn scr rm F bi O (fun b o e => ?_) (fun b h => Classical.byContradiction fun n => h (hb b n)) (fun _ => hk) (hsp _ O S)
    by_cases eb : b = a
    · subst eb
      rw [ha] at e
      cases e
      exact ⟨scr, by rw [List.length_map]; exact hl, vs, _, rv, scr⟩
    · rw [hb b eb] at e; cases e
end
section
variable {ds : List DfI} {t : Tb} {Pg : Prog} {dl : DfI} {n : Nat}
/-- the defs that may be values -/
def faM (ds : List DfI) (K : PySem.W.Frag) : Nat → Option Addr := fun f => (ds.find? fun d => d.fi.id == f && pl0 d.fi).map fun d => He.ga K d.x
def cfOf (ds : List DfI) (t : Tb) (K : PySem.W.Frag) : Cf := ⟨⟨K, faM ds K, caOf t.ex K⟩⟩
/-- the law holds: from its run over data -/
theorem walkG {l : PySem.W.OpenLaw} {m : Nat} {q : Program} {loose : List Str} {XP : (Str → Option Value) → Heap → Prop} {YP : World → Heap → Prop} {d : DefRec} {file : Str} {eb : Option EbD}
    (hm : l.most = some m) (hm2 : m ≤ 63) (hdf : d.params.defaults = []) (rm : Room n callerA) (hdn : d.name = ("law" : Str))
    (Y : ∀ (w : World) (h : Heap) (mg : Str → Option Value), YP w h → h.Ns mainGlobals mg → ∃ K : PySem.W.Frag, K.In h ∧ He.SaysD (faOf ds t) (fnOf ds) K ∧ SaysE file eb t.ex K ∧ SmOk h)
    (ok : TbOk ds t Pg) (hd : dl ∈ ds) (hx : dl.x = "law") (hps : dl.ps = [("script" : Str)]) (hnp : dl.f.np = 1) (hio : dl.f.io = []) (hpl : dl.fi.sg.pl.getD 0 0 = 0)
    (heb : (eb = none ∧ t.ex = []) ∨ ∃ b, eb = some b ∧ (b.l = 5 ∨ b.l = 8)) (hfl : l.prog.main.file = file) (htop : (l.prog.main.scope.names.lookup ("super" : Str)).isSome = false)
    (ht : ∀ ns : List Int, ns.length ≤ 63 → run Pg n dl.fi.id [.lst (ns.map D.int)] = .ok (.bl true, [])) :
    PySem.W.WalkO q loose XP YP l.row.toRowW d [] (fun f vs => PySem.call f vs) := by
  refine Att.attach_call hm hdf ?_
  intro w s₀ s₁ mg mb fa o pm cd doc a vs ns G y ho hdd hcd hmg hobj hints hlen hg
  obtain ⟨K, inK, says, saysE, smo⟩ := Y w _ mg y G.T.g
  obtain ⟨h1, h2, hsup, h3⟩ := stands (c := cfOf ds t K) rfl inK G.T.g says ok
  obtain ⟨fd, hs⟩ := h1 dl hd
  have e : He.ga K dl.x = fa := by
    have := hs.2.1
    rw [hx, ← hdn, hmg] at this
    rw [hx, ← hdn]
    cases this; rfl
  have hs : Stands (cfOf ds t K) t.kwl mg dl fa fd := e ▸ hs
  have hex : ErrT (cfOf ds t K) l.prog mg t.ex := by
    rcases heb with ⟨_, e2⟩ | ⟨b, rfl, hb⟩
    · have : ErrT (cfOf ds t K) l.prog mg [] := errT_none fun k => by
        show caOf t.ex K k = none
        rw [e2]; rfl
      rw [e2]; exact this
    · exact errT_of rfl rfl inK G.T.g saysE hb hfl htop hsup ok.ndx
  have hfa : ∀ f ad, (cfOf ds t K).X.fa f = some ad → ∃ d ∈ ds, d.fi.id = f ∧ pl0 d.fi = true ∧ ∃ fd, Stands (cfOf ds t K) t.kwl mg d ad fd := fun f ad hf => by
    obtain ⟨d, e1, rfl⟩ := Option.map_eq_some_iff.mp (show (ds.find? fun d => d.fi.id == f && pl0 d.fi).map (fun d => He.ga K d.x) = some ad from hf)
    have e2 := List.find?_some e1
    simp only [Bool.and_eq_true, beq_iff_eq] at e2
    exact ⟨d, List.mem_of_find?_eq_some e1, e2.1, e2.2, h1 d (List.mem_of_find?_eq_some e1)⟩
  have hfb : ∀ d ∈ ds, pl0 d.fi = true → ∃ ad, (cfOf ds t K).X.fa d.fi.id = some ad ∧ mg d.x = some (.ref ad) := fun d hd hp => by
    refine ⟨He.ga K d.x, ?_, (h1 d hd).choose_spec.2.1⟩
    show (ds.find? _).map _ = _
    cases e : ds.find? (fun d' => d'.fi.id == d.fi.id && pl0 d'.fi) with
    | none => exact absurd (List.find?_eq_none.mp e d hd) (by simp [hp])
    | some d' =>
      have e2 := List.find?_some e
      simp only [Bool.and_eq_true, beq_iff_eq] at e2
      have : d' = d := by
        obtain ⟨i, hi, rfl⟩ := List.getElem_of_mem (List.mem_of_find?_eq_some e)
        obtain ⟨j, hj, rfl⟩ := List.getElem_of_mem hd
        have := (List.getElem_inj (xs := ds.map (·.fi.id)) (h₀ := by simpa using hi) (h₁ := by simpa using hj) ok.nd).mp (by rw [List.getElem_map, List.getElem_map, e2.1])
        subst this; rfl
      rw [this]; rfl
  have F := fun base nd sm => all_ok (P := l.prog) (w := w) (base := base) nd sm hex hfa hfb (fun d hd => ⟨_, h1 d hd⟩) ok.chk ok.fn ok.fns h2 h3 n dl hd fa fd hs
  rw [hps] at F
  have hb : ∀ (s : Shared) (u : Value), BindsTo s fd ⟨[u], []⟩ [(("script" : Str), u)] := fun s u => by
    have := FunD.bindsA (ps := dl.ps) hs.1 (fun kV doc pm an cdv ct us hl => ok.bind dl hd kV doc pm an cdv ct us hl) s [u] (by rw [hps]; rfl)
    rw [hps] at this
    exact this
  refine callG (ns := ns) (mb := mb) inK G.T.g G.T.b G.T.builtins G.T.nolimit G.T.nodigits smo hg hobj hints (Nat.le_trans hlen (Nat.le_trans hm2 (by rw [sizeLine_eq]; omega))) rm (fun base _ _ nd sm => F base nd sm) hb fun H _ S => ?_
  show spF (cfOf ds t K) dl.f.np dl.f.io dl.fi.sg (run Pg n dl.fi.id) [.ref a] H _ _
  rw [hnp, hio]
  exact law_sp (call := fun _ _ => bad) hpl S (ht ns (Nat.le_trans hlen hm2))
end
end Pz
end
section
set_option Elab.async false
set_option linter.all false
set_option maxRecDepth 100000
namespace Pz.K74
open Pz
/-- is_whole -/
def fn_1 : Fn := { np := 1, io := [], ns := 1, body := (.cons (.ret (.and (.isi (.v 0) [.int]) (.not (.isi (.v 0) [.bool])))) .nil) }
/-- is_count -/
def fn_2 : Fn := { np := 1, io := [], ns := 1, body := (.cons (.ret (.and (.call 1 (.cons (.v 0) .nil) []) (.cmp .ge (.v 0) (.int 0)))) .nil) }
/-- is_table -/
def fn_24 : Fn := { np := 2, io := [], ns := 2, body := (.cons (.ret (.and (.call 1 (.cons (.v 0) .nil) []) (.and (.cmp .ge (.v 0) (.int 1)) (.and (.call 1 (.cons (.v 1) .nil) []) (.cmp .ge (.v 1) (.int 1)))))) .nil) }
/-- check_table -/
def fn_25 : Fn := { np := 2, io := [], ns := 2, body := (.cons (.sif (.not (.call 24 (.cons (.v 0) (.cons (.v 1) .nil)) [])) (.cons (.rai 7 (.cons (.tup (.cons (.v 0) (.cons (.v 1) .nil))) .nil)) .nil) .nil) .nil) }
/-- places_of_table -/
def fn_496 : Fn := { np := 2, io := [], ns := 4, body := (.cons (.ret (.lc2 (.tup (.cons (.v 2) (.cons (.v 3) .nil))) (.v 2) (.rng (.cons (.v 0) .nil)) .nil (.v 3) (.rng (.cons (.v 1) .nil)) .nil [3, 2] [3])) .nil) }
/-- beside_place -/
def fn_497 : Fn := { np := 3, io := [], ns := 8, body := (.cons (.asg (.tup (.cons (.v 6) (.cons (.v 7) .nil))) (.v 2)) (.cons (.asg (.v 3) (.lst 1 (.cons (.tup (.cons (.bin .sub (.v 6) (.int 1)) (.cons (.v 7) .nil))) (.cons (.tup (.cons (.v 6) (.cons (.bin .sub (.v 7) (.int 1)) .nil))) (.cons (.tup (.cons (.v 6) (.cons (.bin .add (.v 7) (.int 1)) .nil))) (.cons (.tup (.cons (.bin .add (.v 6) (.int 1)) (.cons (.v 7) .nil))) .nil)))))) (.cons (.ret (.lc (.tup (.cons (.v 4) (.cons (.v 5) .nil))) (.tup (.cons (.v 4) (.cons (.v 5) .nil))) (.wlk (.v 3)) (.cons (.and (.chain .le .lt (.int 0) (.v 4) (.v 0)) (.chain .le .lt (.int 0) (.v 5) (.v 1))) .nil) [4, 5])) .nil))) }
/-- is_spot -/
def fn_971 : Fn := { np := 3, io := [], ns := 3, body := (.cons (.sif (.or (.not (.isi (.v 2) [.tuple])) (.or (.cmp .ne (.bi .len (.cons (.v 2) .nil)) (.int 2)) (.or (.not (.call 2 (.cons (.idx (.v 2) (.int 0)) .nil) [])) (.not (.call 2 (.cons (.idx (.v 2) (.int 1)) .nil) []))))) (.cons (.ret .ff) .nil) .nil) (.cons (.ret (.and (.cmp .lt (.idx (.v 2) (.int 0)) (.v 0)) (.cmp .lt (.idx (.v 2) (.int 1)) (.v 1)))) .nil)) }
/-- order_there -/
def fn_972 : Fn := { np := 3, io := [], ns := 4, body := (.cons (.sif (.or (.not (.isi (.v 2) [.list])) (.not (.bi .all (.cons (.lc (.call 971 (.cons (.v 0) (.cons (.v 1) (.cons (.v 3) .nil))) []) (.v 3) (.wlk (.v 2)) .nil [3]) .nil)))) (.cons (.ret .ff) .nil) .nil) (.cons (.ret (.and (.cmp .eq (.bi .len (.cons (.v 2) .nil)) (.bin .mul (.v 0) (.v 1))) (.cmp .eq (.bi .sorted (.cons (.v 2) .nil)) (.call 496 (.cons (.v 0) (.cons (.v 1) .nil)) [])))) .nil)) }
/-- is_place_order -/
def fn_973 : Fn := { np := 3, io := [], ns := 3, body := (.cons (.exp (.call 25 (.cons (.v 0) (.cons (.v 1) .nil)) [])) (.cons (.ret (.call 972 (.cons (.v 0) (.cons (.v 1) (.cons (.v 2) .nil))) [])) .nil)) }
/-- check_order -/
def fn_974 : Fn := { np := 3, io := [], ns := 3, body := (.cons (.exp (.call 25 (.cons (.v 0) (.cons (.v 1) .nil)) [])) (.cons (.sif (.not (.call 972 (.cons (.v 0) (.cons (.v 1) (.cons (.v 2) .nil))) [])) (.cons (.rai 11 (.cons (.v 2) .nil)) .nil) .nil) .nil)) }
/-- fits_there -/
def fn_975 : Fn := { np := 3, io := [], ns := 7, body := (.cons (.asg (.v 3) (.lst 1 .nil)) (.cons (.for (.tup (.cons (.v 6) (.cons (.v 4) .nil))) (.enum (.v 2)) (.cons (.app (.v 3) (.bi .len (.cons (.lc (.v 5) (.v 5) (.wlk (.call 497 (.cons (.v 0) (.cons (.v 1) (.cons (.v 4) .nil))) [])) (.cons (.cmp .isin (.v 5) (.slc (.v 2) .non (.v 6))) .nil) [5]) .nil))) .nil) [6, 4]) (.cons (.retv 3) .nil))) }
/-- fits_along -/
def fn_976 : Fn := { np := 3, io := [], ns := 3, body := (.cons (.exp (.call 974 (.cons (.v 0) (.cons (.v 1) (.cons (.v 2) .nil))) [])) (.cons (.ret (.call 975 (.cons (.v 0) (.cons (.v 1) (.cons (.v 2) .nil))) [])) .nil)) }
/-- heap_with -/
def fn_977 : Fn := { np := 4, io := [], ns := 7, body := (.cons (.par (.cons (.v 4) (.cons (.v 5) .nil)) (.cons (.lst 1 (.cons (.v 3) .nil)) (.cons (.lst 1 (.cons (.v 3) .nil)) .nil))) (.cons (.whl (.cmp .ne (.v 5) (.lst 1 .nil)) (.cons (.for (.v 6) (.wlk (.call 497 (.cons (.v 0) (.cons (.v 1) (.cons (.pop 5 (.int (-1))) .nil))) [])) (.cons (.sif (.and (.cmp .isin (.v 6) (.v 2)) (.cmp .notin (.v 6) (.v 4))) (.cons (.app (.v 4) (.v 6)) (.cons (.app (.v 5) (.v 6)) .nil)) .nil) .nil) [6]) .nil) [6]) (.cons (.retv 4) .nil))) }
/-- heaps_in -/
def fn_978 : Fn := { np := 3, io := [], ns := 6, body := (.cons (.par (.cons (.v 3) (.cons (.v 4) .nil)) (.cons (.int 0) (.cons (.lst 1 .nil) .nil))) (.cons (.for (.v 5) (.wlk (.v 2)) (.cons (.sif (.cmp .notin (.v 5) (.v 4)) (.cons (.asg (.v 4) (.bin .add (.v 4) (.call 977 (.cons (.v 0) (.cons (.v 1) (.cons (.v 2) (.cons (.v 5) .nil)))) []))) (.cons (.asg (.v 3) (.bin .add (.v 3) (.int 1))) .nil)) .nil) .nil) [5]) (.cons (.retv 3) .nil))) }
/-- heaps_along -/
def fn_979 : Fn := { np := 3, io := [], ns := 4, body := (.cons (.exp (.call 974 (.cons (.v 0) (.cons (.v 1) (.cons (.v 2) .nil))) [])) (.cons (.ret (.lc (.call 978 (.cons (.v 0) (.cons (.v 1) (.cons (.slc (.v 2) .non (.bin .add (.v 3) (.int 1))) .nil))) []) (.v 3) (.rng (.cons (.bi .len (.cons (.v 2) .nil)) .nil)) .nil [3])) .nil)) }
/-- rims_along -/
def fn_980 : Fn := { np := 3, io := [], ns := 6, body := (.cons (.exp (.call 974 (.cons (.v 0) (.cons (.v 1) (.cons (.v 2) .nil))) [])) (.cons (.par (.cons (.v 3) (.cons (.v 4) .nil)) (.cons (.lst 1 .nil) (.cons (.int 0) .nil))) (.cons (.for (.v 5) (.wlk (.call 975 (.cons (.v 0) (.cons (.v 1) (.cons (.v 2) .nil))) [])) (.cons (.asg (.v 4) (.bin .sub (.bin .add (.v 4) (.int 4)) (.bin .mul (.int 2) (.v 5)))) (.cons (.app (.v 3) (.v 4)) .nil)) [5]) (.cons (.retv 3) .nil)))) }
/-- bare_steps -/
def fn_981 : Fn := { np := 3, io := [], ns := 4, body := (.cons (.exp (.call 974 (.cons (.v 0) (.cons (.v 1) (.cons (.v 2) .nil))) [])) (.cons (.ret (.bi .len (.cons (.lc (.v 3) (.v 3) (.wlk (.call 975 (.cons (.v 0) (.cons (.v 1) (.cons (.v 2) .nil))) [])) (.cons (.cmp .eq (.v 3) (.int 0)) .nil) [3]) .nil))) .nil)) }
/-- hard_steps -/
def fn_982 : Fn := { np := 3, io := [], ns := 4, body := (.cons (.exp (.call 974 (.cons (.v 0) (.cons (.v 1) (.cons (.v 2) .nil))) [])) (.cons (.ret (.bi .len (.cons (.lc (.v 3) (.v 3) (.wlk (.call 975 (.cons (.v 0) (.cons (.v 1) (.cons (.v 2) .nil))) [])) (.cons (.cmp .lt (.v 3) (.int 2)) .nil) [3]) .nil))) .nil)) }
/-- least_hard -/
def fn_993 : Fn := { np := 2, io := [], ns := 2, body := (.cons (.exp (.call 25 (.cons (.v 0) (.cons (.v 1) .nil)) [])) (.cons (.ret (.bin .fdiv (.bin .add (.bin .add (.v 0) (.v 1)) (.int 1)) (.int 2))) .nil)) }
/-- easy_order -/
def fn_994 : Fn := { np := 2, io := [], ns := 2, body := (.cons (.exp (.call 25 (.cons (.v 0) (.cons (.v 1) .nil)) [])) (.cons (.rai 0 .nil) (.cons (.rai 0 .nil) (.cons (.rai 0 .nil) .nil)))) }
/-- touches -/
def fn_995 : Fn := { np := 3, io := [], ns := 4, body := (.cons (.ret (.bi .all (.cons (.lc (.cmp .gt (.v 3) (.int 0)) (.v 3) (.wlk (.slc (.call 975 (.cons (.v 0) (.cons (.v 1) (.cons (.v 2) .nil))) []) (.int 1) .non)) .nil [3]) .nil))) .nil) }
/-- is_touching -/
def fn_996 : Fn := { np := 3, io := [], ns := 3, body := (.cons (.exp (.call 25 (.cons (.v 0) (.cons (.v 1) .nil)) [])) (.cons (.ret (.and (.call 972 (.cons (.v 0) (.cons (.v 1) (.cons (.v 2) .nil))) []) (.call 995 (.cons (.v 0) (.cons (.v 1) (.cons (.v 2) .nil))) []))) .nil)) }
/-- touching_number -/
def fn_1002 : Fn := { np := 3, io := [], ns := 3, body := (.cons (.exp (.call 25 (.cons (.v 0) (.cons (.v 1) .nil)) [])) (.cons (.sif (.or (.not (.call 972 (.cons (.v 0) (.cons (.v 1) (.cons (.v 2) .nil))) [])) (.not (.call 995 (.cons (.v 0) (.cons (.v 1) (.cons (.v 2) .nil))) []))) (.cons (.rai 11 (.cons (.v 2) .nil)) .nil) .nil) (.cons (.rai 0 .nil) (.cons (.rai 0 .nil) (.cons (.rai 0 .nil) .nil))))) }
/-- _law_hash -/
def fn_161 : Fn := { np := 2, io := [], ns := 3, body := (.cons (.asg (.v 2) (.bin .mod (.bi .int (.cons (.bin .add (.bin .add (.bin .add (.bin .mul (.v 0) (.int 1140671)) (.bin .mul (.bin .mul (.int 27644437) (.v 1)) (.v 1))) (.bin .mul (.int 131) (.v 1))) (.int 19)) .nil)) (.int 2147483629))) (.cons (.asg (.v 2) (.bin .mod (.bi .int (.cons (.bin .add (.bin .add (.bin .mul (.v 2) (.v 2)) (.bin .mul (.int 62089) (.v 1))) (.int 32416187)) .nil)) (.int 2147483587))) (.cons (.ret (.bin .mod (.bi .int (.cons (.bin .mul (.v 2) (.int 48271)) .nil)) (.int 2147483647))) .nil))) }
/-- _law_random -/
def fn_162 : Fn := { np := 2, io := [0], ns := 4, body := (.cons (.sif (.cmp .gt (.idx (.v 0) (.int 0)) (.int 0)) (.cons (.asg (.v 2) (.bin .mod (.bi .int (.cons (.idx (.v 0) (.int 0)) .nil)) (.v 1))) (.cons (.asg (.idx (.v 0) (.int 0)) (.bin .fdiv (.idx (.v 0) (.int 0)) (.v 1))) (.cons (.retv 2) .nil))) .nil) (.cons (.asg (.v 2) (.int 0)) (.cons (.for (.v 3) (.rng (.cons (.bin .add (.int 1) (.bin .fdiv (.me .bitlen (.v 1) .nil) (.int 30))) .nil)) (.cons (.asg (.idx (.v 0) (.int 2)) (.bin .add (.idx (.v 0) (.int 2)) (.int 1))) (.cons (.asg (.v 2) (.bin .add (.bin .mul (.v 2) (.int 2147483587)) (.call 161 (.cons (.idx (.v 0) (.int 1)) (.cons (.idx (.v 0) (.int 2)) .nil)) []))) .nil)) [3]) (.cons (.ret (.bin .mod (.bi .int (.cons (.v 2) .nil)) (.v 1))) .nil)))) }
/-- _law_cell -/
def fn_163 : Fn := { np := 2, io := [], ns := 2, body := (.cons (.sif (.cmp .lt (.v 1) (.bi .len (.cons (.v 0) .nil))) (.cons (.ret (.idx (.v 0) (.v 1))) .nil) .nil) (.cons (.ret (.bin .mod (.bi .sum (.cons (.slc (.v 0) .non (.int 1)) .nil)) (.int 1000003))) .nil)) }
/-- _law_generator -/
def fn_164 : Fn := { np := 2, io := [], ns := 3, body := (.cons (.asg (.v 2) (.call 163 (.cons (.v 0) (.cons (.v 1) .nil)) [])) (.cons (.ret (.lst 1 (.cons (.bin .mod (.bi .int (.cons (.bi .max2 (.cons (.bin .sub (.v 2) (.bin .pow (.int 10) (.int 18))) (.cons (.int 0) .nil))) .nil)) (.bin .pow (.bin .pow (.int 10) (.int 60)) (.int 10))) (.cons (.bin .mod (.bi .int (.cons (.v 2) .nil)) (.int 2147483647)) (.cons (.bin .mul (.int 1000) (.v 1)) .nil))))) .nil)) }
/-- _law_pick -/
def fn_165 : Fn := { np := 2, io := [0], ns := 2, body := (.cons (.ret (.idx (.v 1) (.call 162 (.cons (.v 0) (.cons (.bi .len (.cons (.v 1) .nil)) .nil)) [(0, 0)]))) .nil) }
/-- _law_same -/
def fn_166 : Fn := { np := 2, io := [], ns := 5, body := (.cons (.sif (.isi (.v 1) [.list, .tuple]) (.cons (.sif (.or (.cmp .ne (.isi (.v 0) [.list]) (.isi (.v 1) [.list])) (.cmp .ne (.isi (.v 0) [.tuple]) (.isi (.v 1) [.tuple]))) (.cons (.ret .ff) .nil) .nil) (.cons (.ret (.and (.cmp .eq (.bi .len (.cons (.v 0) .nil)) (.bi .len (.cons (.v 1) .nil))) (.bi .all (.cons (.lc (.call 166 (.cons (.v 3) (.cons (.v 4) .nil)) []) (.tup (.cons (.v 3) (.cons (.v 4) .nil))) (.zip (.v 0) (.v 1)) .nil [3, 4]) .nil)))) .nil)) .nil) (.cons (.sif (.isi (.v 1) [.dict]) (.cons (.sif (.or (.not (.isi (.v 0) [.dict])) (.cmp .ne (.bi .len (.cons (.v 0) .nil)) (.bi .len (.cons (.v 1) .nil)))) (.cons (.ret .ff) .nil) .nil) (.cons (.ret (.bi .all (.cons (.lc (.and (.cmp .isin (.v 2) (.v 0)) (.call 166 (.cons (.idx (.v 0) (.v 2)) (.cons (.idx (.v 1) (.v 2)) .nil)) [])) (.v 2) (.wlk (.v 1)) .nil [2]) .nil))) .nil)) .nil) (.cons (.sif (.isi (.v 1) [.str]) (.cons (.ret (.and (.isi (.v 0) [.str]) (.cmp .eq (.v 0) (.v 1)))) .nil) .nil) (.cons (.sif (.cmp .is (.v 1) .non) (.cons (.ret (.cmp .is (.v 0) .non)) .nil) .nil) (.cons (.ret (.and (.isi (.v 0) [.int]) (.and (.cmp .eq (.isi (.v 0) [.bool]) (.isi (.v 1) [.bool])) (.cmp .eq (.v 0) (.v 1))))) .nil))))) }
/-- _law_shuffled -/
def fn_167 : Fn := { np := 2, io := [0], ns := 4, body := (.cons (.par (.cons (.v 3) (.cons (.v 2) .nil)) (.cons (.bi .list (.cons (.v 1) .nil)) (.cons (.lst 1 .nil) .nil))) (.cons (.whl (.cmp .ne (.v 3) (.lst 1 .nil)) (.cons (.app (.v 2) (.pop 3 (.call 162 (.cons (.v 0) (.cons (.bi .len (.cons (.v 3) .nil)) .nil)) [(0, 0)]))) .nil) []) (.cons (.retv 2) .nil))) }
/-- _law_places -/
def fn_983 : Fn := { np := 2, io := [], ns := 5, body := (.cons (.asg (.v 2) (.lst 1 .nil)) (.cons (.for (.v 4) (.rng (.cons (.v 0) .nil)) (.cons (.asg (.v 2) (.bin .add (.v 2) (.lc (.tup (.cons (.v 4) (.cons (.v 3) .nil))) (.v 3) (.rng (.cons (.v 1) .nil)) .nil [3]))) .nil) [4]) (.cons (.retv 2) .nil))) }
/-- _law_near -/
def fn_984 : Fn := { np := 3, io := [], ns := 8, body := (.cons (.asg (.tup (.cons (.v 6) (.cons (.v 7) .nil))) (.v 2)) (.cons (.asg (.v 3) (.lst 1 (.cons (.tup (.cons (.bin .sub (.v 6) (.int 1)) (.cons (.v 7) .nil))) (.cons (.tup (.cons (.v 6) (.cons (.bin .sub (.v 7) (.int 1)) .nil))) (.cons (.tup (.cons (.v 6) (.cons (.bin .add (.v 7) (.int 1)) .nil))) (.cons (.tup (.cons (.bin .add (.v 6) (.int 1)) (.cons (.v 7) .nil))) .nil)))))) (.cons (.ret (.lc (.tup (.cons (.v 4) (.cons (.v 5) .nil))) (.tup (.cons (.v 4) (.cons (.v 5) .nil))) (.wlk (.v 3)) (.cons (.and (.chain .le .lt (.int 0) (.v 4) (.v 0)) (.chain .le .lt (.int 0) (.v 5) (.v 1))) .nil) [5, 4])) .nil))) }
/-- _law_fits -/
def fn_985 : Fn := { np := 3, io := [], ns := 6, body := (.cons (.ret (.lc (.bi .len (.cons (.lc (.v 5) (.v 5) (.wlk (.call 984 (.cons (.v 0) (.cons (.v 1) (.cons (.v 4) .nil))) [])) (.cons (.cmp .isin (.v 5) (.slc (.v 2) .non (.v 3))) .nil) [5]) .nil)) (.tup (.cons (.v 3) (.cons (.v 4) .nil))) (.enum (.v 2)) .nil [3, 4])) .nil) }
/-- _law_heaps -/
def fn_986 : Fn := { np := 3, io := [], ns := 3, body := (.cons (.rai 0 .nil) (.cons (.rai 0 .nil) (.cons (.rai 0 .nil) .nil))) }
/-- _law_is_order -/
def fn_987 : Fn := { np := 3, io := [], ns := 6, body := (.cons (.asg (.v 3) (.call 983 (.cons (.v 0) (.cons (.v 1) .nil)) [])) (.cons (.sif (.or (.not (.isi (.v 2) [.list])) (.cmp .ne (.bi .len (.cons (.v 2) .nil)) (.bi .len (.cons (.v 3) .nil)))) (.cons (.ret .ff) .nil) .nil) (.cons (.for (.v 4) (.wlk (.v 2)) (.cons (.sif (.or (.not (.isi (.v 4) [.tuple])) (.or (.cmp .ne (.bi .len (.cons (.v 4) .nil)) (.int 2)) (.cmp .ne (.lc (.v 5) (.v 5) (.wlk (.v 4)) (.cons (.or (.not (.isi (.v 5) [.int])) (.isi (.v 5) [.bool])) .nil) [5]) (.lst 1 .nil)))) (.cons (.ret .ff) .nil) .nil) .nil) [4]) (.cons (.ret (.cmp .eq (.bi .sorted (.cons (.v 2) .nil)) (.v 3))) .nil)))) }
/-- _law_no_tables -/
def fn_988 : Fn := { np := 0, io := [], ns := 0, body := (.cons (.ret (.lst 1 (.cons (.tup (.cons (.int 0) (.cons (.int 2) .nil))) (.cons (.tup (.cons (.int 2) (.cons (.int 0) .nil))) (.cons (.tup (.cons (.bin .sub (.int 0) (.int 1)) (.cons (.int 3) .nil))) (.cons (.tup (.cons .non (.cons (.int 2) .nil))) (.cons (.tup (.cons (.int 2) (.cons .non .nil))) (.cons (.tup (.cons (.str [50]) (.cons (.int 2) .nil))) (.cons (.tup (.cons (.int 2) (.cons (.lst 1 (.cons (.int 2) .nil)) .nil))) (.cons (.tup (.cons .tt (.cons (.int 2) .nil))) (.cons (.tup (.cons (.int 2) (.cons .tt .nil))) (.cons (.tup (.cons (.tup (.cons (.int 2) .nil)) (.cons (.int 2) .nil))) (.cons (.tup (.cons (.int 2) (.cons (.dct .nil .nil) .nil))) .nil))))))))))))) .nil) }
/-- _law_caught -/
def fn_1031 : Fn := { np := 2, io := [], ns := 9, body := (.cons (.par (.cons (.v 2) (.cons (.v 7) .nil)) (.cons .non (.cons (.bi .repr (.cons (.v 1) .nil)) .nil))) (.cons (.try (.cons (.sif (.cmp .eq (.bi .len (.cons (.v 1) .nil)) (.int 1)) (.cons (.exp (.callv 0 (.cons (.idx (.v 1) (.int 0)) .nil))) .nil) (.cons (.sif (.cmp .eq (.bi .len (.cons (.v 1) .nil)) (.int 2)) (.cons (.exp (.callv 0 (.cons (.idx (.v 1) (.int 0)) (.cons (.idx (.v 1) (.int 1)) .nil)))) .nil) (.cons (.sif (.cmp .eq (.bi .len (.cons (.v 1) .nil)) (.int 3)) (.cons (.exp (.callv 0 (.cons (.idx (.v 1) (.int 0)) (.cons (.idx (.v 1) (.int 1)) (.cons (.idx (.v 1) (.int 2)) .nil))))) .nil) (.cons (.sif (.cmp .eq (.bi .len (.cons (.v 1) .nil)) (.int 4)) (.cons (.exp (.callv 0 (.cons (.idx (.v 1) (.int 0)) (.cons (.idx (.v 1) (.int 1)) (.cons (.idx (.v 1) (.int 2)) (.cons (.idx (.v 1) (.int 3)) .nil)))))) .nil) (.cons (.exp (.callv 0 (.cons (.idx (.v 1) (.int 0)) (.cons (.idx (.v 1) (.int 1)) (.cons (.idx (.v 1) (.int 2)) (.cons (.idx (.v 1) (.int 3)) (.cons (.idx (.v 1) (.int 4)) .nil))))))) .nil)) .nil)) .nil)) .nil)) .nil) 0 8 (.cons (.asg (.v 2) (.v 8)) .nil) []) (.cons (.sif (.cmp .ne (.bi .repr (.cons (.v 1) .nil)) (.v 7)) (.cons (.ret (.lst 1 (.cons (.str [99, 104, 97, 110, 103, 101, 100]) .nil))) .nil) .nil) (.cons (.par (.cons (.v 3) (.cons (.v 4) .nil)) (.cons (.lst 1 (.cons (.str [73, 110, 118, 97, 108, 105, 100, 79, 114, 100, 101, 114]) (.cons (.str [73, 110, 118, 97, 108, 105, 100, 84, 97, 98, 108, 101]) .nil))) (.cons (.lst 1 (.cons (.isi (.v 2) [.cls 11]) (.cons (.isi (.v 2) [.cls 7]) .nil))) .nil))) (.cons (.ret (.ite (.cmp .is (.v 2) .non) .non (.lst 1 (.cons (.lc (.v 5) (.tup (.cons (.v 5) (.cons (.v 6) .nil))) (.zip (.v 3) (.v 4)) (.cons (.v 6) .nil) [6, 5]) (.cons (.bi .repr (.cons (.attr (.v 2) 0) .nil)) .nil))))) .nil))))) }
/-- law -/
def fn_1032 : Fn := { np := 1, io := [], ns := 12, body := (.cons (.asg (.v 11) (.call 164 (.cons (.v 0) (.cons (.int 0) .nil)) [])) (.cons (.par (.cons (.v 3) (.cons (.v 4) .nil)) (.cons (.bin .add (.int 2) (.call 162 (.cons (.v 11) (.cons (.int 2) .nil)) [(0, 11)])) (.cons (.bin .add (.int 2) (.call 162 (.cons (.v 11) (.cons (.int 2) .nil)) [(0, 11)])) .nil))) (.cons (.par (.cons (.v 1) (.cons (.v 5) .nil)) (.cons (.call 167 (.cons (.v 11) (.cons (.call 983 (.cons (.v 3) (.cons (.v 4) .nil)) []) .nil)) [(0, 11)]) (.cons (.lst 1 (.cons (.fnv 976) (.cons (.fnv 979) (.cons (.fnv 980) (.cons (.fnv 981) (.cons (.fnv 982) .nil)))))) .nil))) (.cons (.asg (.v 2) (.bi .repr (.cons (.v 1) .nil))) (.cons (.for (.v 7) (.wlk (.call 988 .nil [])) (.cons (.sif (.cmp .ne (.lc (.int 1) (.v 6) (.wlk (.bin .add (.v 5) (.lst 1 (.cons (.fnv 973) (.cons (.fnv 996) (.cons (.fnv 1002) .nil)))))) (.cons (.cmp .ne (.call 1031 (.cons (.v 6) (.cons (.lst 1 (.cons (.idx (.v 7) (.int 0)) (.cons (.idx (.v 7) (.int 1)) (.cons (.call 165 (.cons (.v 11) (.cons (.lst 1 (.cons .non (.cons (.v 1) .nil))) .nil)) [(0, 11)]) .nil)))) .nil)) []) (.lst 1 (.cons (.lst 1 (.cons (.str [73, 110, 118, 97, 108, 105, 100, 84, 97, 98, 108, 101]) .nil)) (.cons (.bi .repr (.cons (.v 7) .nil)) .nil)))) .nil) [6]) (.lst 1 .nil)) (.cons (.ret .ff) .nil) .nil) (.cons (.sif (.cmp .ne (.lc (.int 1) (.v 6) (.wlk (.lst 1 (.cons (.fnv 993) (.cons (.fnv 994) .nil)))) (.cons (.cmp .ne (.call 1031 (.cons (.v 6) (.cons (.lst 1 (.cons (.idx (.v 7) (.int 0)) (.cons (.idx (.v 7) (.int 1)) .nil))) .nil)) []) (.lst 1 (.cons (.lst 1 (.cons (.str [73, 110, 118, 97, 108, 105, 100, 84, 97, 98, 108, 101]) .nil)) (.cons (.bi .repr (.cons (.v 7) .nil)) .nil)))) .nil) [6]) (.lst 1 .nil)) (.cons (.ret .ff) .nil) .nil) .nil)) [7]) (.cons (.asg (.v 8) (.lst 1 (.cons .non (.cons (.lst 1 .nil) (.cons (.tup .nil) (.cons (.dct .nil .nil) (.cons (.str [111, 114, 100, 101, 114]) (.cons (.int 7) (.cons (.bi .tuple (.cons (.v 1) .nil)) (.cons (.slc (.v 1) (.int 1) .non) (.cons (.bin .add (.v 1) (.slc (.v 1) .non (.int 1))) (.cons (.bin .add (.slc (.v 1) .non (.neg (.int 1))) (.slc (.v 1) .non (.int 1))) (.cons (.lc (.bi .list (.cons (.v 10) .nil)) (.v 10) (.wlk (.v 1)) .nil [10]) .nil))))))))))))) (.cons (.for (.v 9) (.wlk (.lst 1 (.cons .non (.cons (.tup .nil) (.cons (.tup (.cons (.int 0) .nil)) (.cons (.tup (.cons (.int 0) (.cons (.int 0) (.cons (.int 0) .nil)))) (.cons (.tup (.cons (.v 3) (.cons (.int 0) .nil))) (.cons (.tup (.cons (.int 0) (.cons (.v 4) .nil))) (.cons (.tup (.cons (.bin .sub (.int 0) (.int 1)) (.cons (.int 0) .nil))) (.cons (.tup (.cons .ff (.cons (.int 0) .nil))) (.cons (.tup (.cons (.int 0) (.cons .non .nil))) (.cons (.tup (.cons (.str [48]) (.cons (.str [48]) .nil))) (.cons (.tup (.cons (.int 0) (.cons (.lst 1 (.cons (.int 0) .nil)) .nil))) .nil))))))))))))) (.cons (.asg (.v 8) (.bin .add (.v 8) (.lst 1 (.cons (.bin .add (.slc (.v 1) .non (.neg (.int 1))) (.lst 1 (.cons (.v 9) .nil))) (.cons (.bin .add (.lst 1 (.cons (.v 9) .nil)) (.slc (.v 1) (.int 1) .non)) .nil))))) .nil) [9]) (.cons (.for (.v 7) (.wlk (.v 8)) (.cons (.sif (.cmp .ne (.lc (.int 1) (.v 6) (.wlk (.v 5)) (.cons (.cmp .ne (.call 1031 (.cons (.v 6) (.cons (.lst 1 (.cons (.v 3) (.cons (.v 4) (.cons (.v 7) .nil)))) .nil)) []) (.lst 1 (.cons (.lst 1 (.cons (.str [73, 110, 118, 97, 108, 105, 100, 79, 114, 100, 101, 114]) .nil)) (.cons (.bi .repr (.cons (.v 7) .nil)) .nil)))) .nil) [6]) (.lst 1 .nil)) (.cons (.ret .ff) .nil) .nil) .nil) [7]) (.cons (.sif (.or (.cmp .ne (.lc (.int 1) (.v 6) (.wlk (.v 5)) (.cons (.cmp .isnot (.call 1031 (.cons (.v 6) (.cons (.lst 1 (.cons (.v 3) (.cons (.v 4) (.cons (.v 1) .nil)))) .nil)) []) .non) .nil) [6]) (.lst 1 .nil)) (.cmp .isnot (.call 1031 (.cons (.fnv 973) (.cons (.lst 1 (.cons (.v 3) (.cons (.v 4) (.cons .non .nil)))) .nil)) []) .non)) (.cons (.ret .ff) .nil) .nil) (.cons (.ret (.cmp .eq (.bi .repr (.cons (.v 1) .nil)) (.v 2))) .nil)))))))))) }
def progFn : Nat → Option Fn
  | 1 => some fn_1
  | 2 => some fn_2
  | 24 => some fn_24
  | 25 => some fn_25
  | 161 => some fn_161
  | 162 => some fn_162
  | 163 => some fn_163
  | 164 => some fn_164
  | 165 => some fn_165
  | 166 => some fn_166
  | 167 => some fn_167
  | 496 => some fn_496
  | 497 => some fn_497
  | 971 => some fn_971
  | 972 => some fn_972
  | 973 => some fn_973
  | 974 => some fn_974
  | 975 => some fn_975
  | 976 => some fn_976
  | 977 => some fn_977
  | 978 => some fn_978
  | 979 => some fn_979
  | 980 => some fn_980
  | 981 => some fn_981
  | 982 => some fn_982
  | 983 => some fn_983
  | 984 => some fn_984
  | 985 => some fn_985
  | 986 => some fn_986
  | 987 => some fn_987
  | 988 => some fn_988
  | 993 => some fn_993
  | 994 => some fn_994
  | 995 => some fn_995
  | 996 => some fn_996
  | 1002 => some fn_1002
  | 1031 => some fn_1031
  | 1032 => some fn_1032
  | _ => none
def progGlob : Nat → D
  | _ => .non
def prog : Prog := { fn := progFn, glob := progGlob }
end Pz.K74
end
section
set_option Elab.async false
set_option linter.all false
set_option maxRecDepth 100000
set_option maxHeartbeats 0
namespace Pz.K74
open Pz PySem PySem.Spec PyProof.Rows L2
def fi_1 : Fi := ⟨1, 1, [], ⟨[0], 0⟩⟩
abbrev st_1 : Stmt := PySem.Challenge.pw_puzzlebox_k74_orders_refused.main.body.getD 5 (.Pass ⟨0, 0, 0, 0⟩)
def df_1 : DfI := ⟨"is_whole", defArgs st_1, defBody st_1, defScope st_1, fi_1, fn_1, [("value" : Str)], [("value" : Str)], []⟩
def fi_2 : Fi := ⟨2, 1, [], ⟨[0], 0⟩⟩
abbrev st_2 : Stmt := PySem.Challenge.pw_puzzlebox_k74_orders_refused.main.body.getD 6 (.Pass ⟨0, 0, 0, 0⟩)
def df_2 : DfI := ⟨"is_count", defArgs st_2, defBody st_2, defScope st_2, fi_2, fn_2, [("value" : Str)], [("value" : Str)], []⟩
def fi_24 : Fi := ⟨24, 2, [], ⟨[0, 0], 0⟩⟩
abbrev st_24 : Stmt := PySem.Challenge.pw_puzzlebox_k74_orders_refused.main.body.getD 8 (.Pass ⟨0, 0, 0, 0⟩)
def df_24 : DfI := ⟨"is_table", defArgs st_24, defBody st_24, defScope st_24, fi_24, fn_24, [("rows" : Str), ("columns" : Str)], [("rows" : Str), ("columns" : Str)], []⟩
def fi_25 : Fi := ⟨25, 2, [], ⟨[0, 0], 0⟩⟩
abbrev st_25 : Stmt := PySem.Challenge.pw_puzzlebox_k74_orders_refused.main.body.getD 9 (.Pass ⟨0, 0, 0, 0⟩)
def df_25 : DfI := ⟨"check_table", defArgs st_25, defBody st_25, defScope st_25, fi_25, fn_25, [("rows" : Str), ("columns" : Str)], [("rows" : Str), ("columns" : Str)], []⟩
def fi_496 : Fi := ⟨496, 2, [], ⟨[0, 0], 1⟩⟩
abbrev st_496 : Stmt := PySem.Challenge.pw_puzzlebox_k74_orders_refused.main.body.getD 11 (.Pass ⟨0, 0, 0, 0⟩)
def df_496 : DfI := ⟨"places_of_table", defArgs st_496, defBody st_496, defScope st_496, fi_496, fn_496, [("rows" : Str), ("columns" : Str), ("row" : Str), ("column" : Str)], [("rows" : Str), ("columns" : Str)], []⟩
def fi_497 : Fi := ⟨497, 3, [], ⟨[0, 0, 0], 1⟩⟩
abbrev st_497 : Stmt := PySem.Challenge.pw_puzzlebox_k74_orders_refused.main.body.getD 12 (.Pass ⟨0, 0, 0, 0⟩)
def df_497 : DfI := ⟨"beside_place", defArgs st_497, defBody st_497, defScope st_497, fi_497, fn_497, [("rows" : Str), ("columns" : Str), ("place" : Str), ("near" : Str), ("one" : Str), ("other" : Str), ("row" : Str), ("column" : Str)], [("rows" : Str), ("columns" : Str), ("place" : Str)], []⟩
def fi_971 : Fi := ⟨971, 3, [], ⟨[0, 0, 0], 0⟩⟩
abbrev st_971 : Stmt := PySem.Challenge.pw_puzzlebox_k74_orders_refused.main.body.getD 13 (.Pass ⟨0, 0, 0, 0⟩)
def df_971 : DfI := ⟨"is_spot", defArgs st_971, defBody st_971, defScope st_971, fi_971, fn_971, [("rows" : Str), ("columns" : Str), ("value" : Str)], [("rows" : Str), ("columns" : Str), ("value" : Str)], []⟩
def fi_972 : Fi := ⟨972, 3, [], ⟨[0, 0, 0], 0⟩⟩
abbrev st_972 : Stmt := PySem.Challenge.pw_puzzlebox_k74_orders_refused.main.body.getD 14 (.Pass ⟨0, 0, 0, 0⟩)
def df_972 : DfI := ⟨"order_there", defArgs st_972, defBody st_972, defScope st_972, fi_972, fn_972, [("rows" : Str), ("columns" : Str), ("value" : Str), ("place" : Str)], [("rows" : Str), ("columns" : Str), ("value" : Str)], []⟩
def fi_973 : Fi := ⟨973, 3, [], ⟨[0, 0, 0], 0⟩⟩
abbrev st_973 : Stmt := PySem.Challenge.pw_puzzlebox_k74_orders_refused.main.body.getD 15 (.Pass ⟨0, 0, 0, 0⟩)
def df_973 : DfI := ⟨"is_place_order", defArgs st_973, defBody st_973, defScope st_973, fi_973, fn_973, [("rows" : Str), ("columns" : Str), ("value" : Str)], [("rows" : Str), ("columns" : Str), ("value" : Str)], []⟩
def fi_974 : Fi := ⟨974, 3, [], ⟨[0, 0, 0], 0⟩⟩
abbrev st_974 : Stmt := PySem.Challenge.pw_puzzlebox_k74_orders_refused.main.body.getD 16 (.Pass ⟨0, 0, 0, 0⟩)
def df_974 : DfI := ⟨"check_order", defArgs st_974, defBody st_974, defScope st_974, fi_974, fn_974, [("rows" : Str), ("columns" : Str), ("order" : Str)], [("rows" : Str), ("columns" : Str), ("order" : Str)], []⟩
def fi_975 : Fi := ⟨975, 3, [], ⟨[0, 0, 0], 1⟩⟩
abbrev st_975 : Stmt := PySem.Challenge.pw_puzzlebox_k74_orders_refused.main.body.getD 17 (.Pass ⟨0, 0, 0, 0⟩)
def df_975 : DfI := ⟨"fits_there", defArgs st_975, defBody st_975, defScope st_975, fi_975, fn_975, [("rows" : Str), ("columns" : Str), ("order" : Str), ("found" : Str), ("place" : Str), ("other" : Str), ("at" : Str)], [("rows" : Str), ("columns" : Str), ("order" : Str)], [3]⟩
def fi_976 : Fi := ⟨976, 3, [], ⟨[0, 0, 0], 1⟩⟩
abbrev st_976 : Stmt := PySem.Challenge.pw_puzzlebox_k74_orders_refused.main.body.getD 18 (.Pass ⟨0, 0, 0, 0⟩)
def df_976 : DfI := ⟨"fits_along", defArgs st_976, defBody st_976, defScope st_976, fi_976, fn_976, [("rows" : Str), ("columns" : Str), ("order" : Str)], [("rows" : Str), ("columns" : Str), ("order" : Str)], []⟩
def fi_977 : Fi := ⟨977, 4, [], ⟨[0, 0, 0, 0], 1⟩⟩
abbrev st_977 : Stmt := PySem.Challenge.pw_puzzlebox_k74_orders_refused.main.body.getD 19 (.Pass ⟨0, 0, 0, 0⟩)
def df_977 : DfI := ⟨"heap_with", defArgs st_977, defBody st_977, defScope st_977, fi_977, fn_977, [("rows" : Str), ("columns" : Str), ("places" : Str), ("first" : Str), ("found" : Str), ("line" : Str), ("place" : Str)], [("rows" : Str), ("columns" : Str), ("places" : Str), ("first" : Str)], [4, 5]⟩
def fi_978 : Fi := ⟨978, 3, [], ⟨[0, 0, 0], 0⟩⟩
abbrev st_978 : Stmt := PySem.Challenge.pw_puzzlebox_k74_orders_refused.main.body.getD 20 (.Pass ⟨0, 0, 0, 0⟩)
def df_978 : DfI := ⟨"heaps_in", defArgs st_978, defBody st_978, defScope st_978, fi_978, fn_978, [("rows" : Str), ("columns" : Str), ("places" : Str), ("found" : Str), ("seen" : Str), ("place" : Str)], [("rows" : Str), ("columns" : Str), ("places" : Str)], []⟩
def fi_979 : Fi := ⟨979, 3, [], ⟨[0, 0, 0], 1⟩⟩
abbrev st_979 : Stmt := PySem.Challenge.pw_puzzlebox_k74_orders_refused.main.body.getD 21 (.Pass ⟨0, 0, 0, 0⟩)
def df_979 : DfI := ⟨"heaps_along", defArgs st_979, defBody st_979, defScope st_979, fi_979, fn_979, [("rows" : Str), ("columns" : Str), ("order" : Str), ("at" : Str)], [("rows" : Str), ("columns" : Str), ("order" : Str)], []⟩
def fi_980 : Fi := ⟨980, 3, [], ⟨[0, 0, 0], 1⟩⟩
abbrev st_980 : Stmt := PySem.Challenge.pw_puzzlebox_k74_orders_refused.main.body.getD 22 (.Pass ⟨0, 0, 0, 0⟩)
def df_980 : DfI := ⟨"rims_along", defArgs st_980, defBody st_980, defScope st_980, fi_980, fn_980, [("rows" : Str), ("columns" : Str), ("order" : Str), ("found" : Str), ("rim" : Str), ("many" : Str)], [("rows" : Str), ("columns" : Str), ("order" : Str)], [3]⟩
def fi_981 : Fi := ⟨981, 3, [], ⟨[0, 0, 0], 0⟩⟩
abbrev st_981 : Stmt := PySem.Challenge.pw_puzzlebox_k74_orders_refused.main.body.getD 23 (.Pass ⟨0, 0, 0, 0⟩)
def df_981 : DfI := ⟨"bare_steps", defArgs st_981, defBody st_981, defScope st_981, fi_981, fn_981, [("rows" : Str), ("columns" : Str), ("order" : Str), ("many" : Str)], [("rows" : Str), ("columns" : Str), ("order" : Str)], []⟩
def fi_982 : Fi := ⟨982, 3, [], ⟨[0, 0, 0], 0⟩⟩
abbrev st_982 : Stmt := PySem.Challenge.pw_puzzlebox_k74_orders_refused.main.body.getD 24 (.Pass ⟨0, 0, 0, 0⟩)
def df_982 : DfI := ⟨"hard_steps", defArgs st_982, defBody st_982, defScope st_982, fi_982, fn_982, [("rows" : Str), ("columns" : Str), ("order" : Str), ("many" : Str)], [("rows" : Str), ("columns" : Str), ("order" : Str)], []⟩
def fi_993 : Fi := ⟨993, 2, [], ⟨[0, 0], 0⟩⟩
abbrev st_993 : Stmt := PySem.Challenge.pw_puzzlebox_k74_orders_refused.main.body.getD 25 (.Pass ⟨0, 0, 0, 0⟩)
def df_993 : DfI := ⟨"least_hard", defArgs st_993, defBody st_993, defScope st_993, fi_993, fn_993, [("rows" : Str), ("columns" : Str)], [("rows" : Str), ("columns" : Str)], []⟩
def fi_994 : Fi := ⟨994, 2, [], ⟨[0, 0], 1⟩⟩
abbrev st_994 : Stmt := PySem.Challenge.pw_puzzlebox_k74_orders_refused.main.body.getD 27 (.Pass ⟨0, 0, 0, 0⟩)
def df_994 : DfI := ⟨"easy_order", defArgs st_994, defBody st_994, defScope st_994, fi_994, fn_994, [("rows" : Str), ("columns" : Str)], [("rows" : Str), ("columns" : Str)], []⟩
def fi_995 : Fi := ⟨995, 3, [], ⟨[0, 0, 0], 0⟩⟩
abbrev st_995 : Stmt := PySem.Challenge.pw_puzzlebox_k74_orders_refused.main.body.getD 30 (.Pass ⟨0, 0, 0, 0⟩)
def df_995 : DfI := ⟨"touches", defArgs st_995, defBody st_995, defScope st_995, fi_995, fn_995, [("rows" : Str), ("columns" : Str), ("order" : Str), ("many" : Str)], [("rows" : Str), ("columns" : Str), ("order" : Str)], []⟩
def fi_996 : Fi := ⟨996, 3, [], ⟨[0, 0, 0], 0⟩⟩
abbrev st_996 : Stmt := PySem.Challenge.pw_puzzlebox_k74_orders_refused.main.body.getD 31 (.Pass ⟨0, 0, 0, 0⟩)
def df_996 : DfI := ⟨"is_touching", defArgs st_996, defBody st_996, defScope st_996, fi_996, fn_996, [("rows" : Str), ("columns" : Str), ("value" : Str)], [("rows" : Str), ("columns" : Str), ("value" : Str)], []⟩
def fi_1002 : Fi := ⟨1002, 3, [], ⟨[0, 0, 0], 0⟩⟩
abbrev st_1002 : Stmt := PySem.Challenge.pw_puzzlebox_k74_orders_refused.main.body.getD 32 (.Pass ⟨0, 0, 0, 0⟩)
def df_1002 : DfI := ⟨"touching_number", defArgs st_1002, defBody st_1002, defScope st_1002, fi_1002, fn_1002, [("rows" : Str), ("columns" : Str), ("order" : Str)], [("rows" : Str), ("columns" : Str), ("order" : Str)], []⟩
def fi_161 : Fi := ⟨161, 2, [], ⟨[0, 0], 0⟩⟩
abbrev st_161 : Stmt := PySem.Challenge.pw_puzzlebox_k74_orders_refused.main.body.getD 34 (.Pass ⟨0, 0, 0, 0⟩)
def df_161 : DfI := ⟨"_law_hash", defArgs st_161, defBody st_161, defScope st_161, fi_161, fn_161, [("seed" : Str), ("index" : Str), ("mixed" : Str)], [("seed" : Str), ("index" : Str)], []⟩
def fi_162 : Fi := ⟨162, 2, [0], ⟨[1, 0], 0⟩⟩
abbrev st_162 : Stmt := PySem.Challenge.pw_puzzlebox_k74_orders_refused.main.body.getD 35 (.Pass ⟨0, 0, 0, 0⟩)
def df_162 : DfI := ⟨"_law_random", defArgs st_162, defBody st_162, defScope st_162, fi_162, fn_162, [("generator" : Str), ("bound" : Str), ("drawn" : Str), ("turn" : Str)], [("generator" : Str), ("bound" : Str)], [0]⟩
def fi_163 : Fi := ⟨163, 2, [], ⟨[0, 0], 0⟩⟩
abbrev st_163 : Stmt := PySem.Challenge.pw_puzzlebox_k74_orders_refused.main.body.getD 36 (.Pass ⟨0, 0, 0, 0⟩)
def df_163 : DfI := ⟨"_law_cell", defArgs st_163, defBody st_163, defScope st_163, fi_163, fn_163, [("script" : Str), ("index" : Str)], [("script" : Str), ("index" : Str)], []⟩
def fi_164 : Fi := ⟨164, 2, [], ⟨[0, 0], 1⟩⟩
abbrev st_164 : Stmt := PySem.Challenge.pw_puzzlebox_k74_orders_refused.main.body.getD 37 (.Pass ⟨0, 0, 0, 0⟩)
def df_164 : DfI := ⟨"_law_generator", defArgs st_164, defBody st_164, defScope st_164, fi_164, fn_164, [("script" : Str), ("index" : Str), ("seed" : Str)], [("script" : Str), ("index" : Str)], []⟩
def fi_165 : Fi := ⟨165, 2, [0], ⟨[1, 0], 0⟩⟩
abbrev st_165 : Stmt := PySem.Challenge.pw_puzzlebox_k74_orders_refused.main.body.getD 38 (.Pass ⟨0, 0, 0, 0⟩)
def df_165 : DfI := ⟨"_law_pick", defArgs st_165, defBody st_165, defScope st_165, fi_165, fn_165, [("generator" : Str), ("things" : Str)], [("generator" : Str), ("things" : Str)], [0]⟩
def fi_166 : Fi := ⟨166, 2, [], ⟨[0, 0], 0⟩⟩
abbrev st_166 : Stmt := PySem.Challenge.pw_puzzlebox_k74_orders_refused.main.body.getD 39 (.Pass ⟨0, 0, 0, 0⟩)
def df_166 : DfI := ⟨"_law_same", defArgs st_166, defBody st_166, defScope st_166, fi_166, fn_166, [("found" : Str), ("due" : Str), ("name" : Str), ("one" : Str), ("other" : Str)], [("found" : Str), ("due" : Str)], []⟩
def fi_167 : Fi := ⟨167, 2, [0], ⟨[1, 0], 1⟩⟩
abbrev st_167 : Stmt := PySem.Challenge.pw_puzzlebox_k74_orders_refused.main.body.getD 40 (.Pass ⟨0, 0, 0, 0⟩)
def df_167 : DfI := ⟨"_law_shuffled", defArgs st_167, defBody st_167, defScope st_167, fi_167, fn_167, [("generator" : Str), ("things" : Str), ("found" : Str), ("left" : Str)], [("generator" : Str), ("things" : Str)], [0, 2, 3]⟩
def fi_983 : Fi := ⟨983, 2, [], ⟨[0, 0], 0⟩⟩
abbrev st_983 : Stmt := PySem.Challenge.pw_puzzlebox_k74_orders_refused.main.body.getD 41 (.Pass ⟨0, 0, 0, 0⟩)
def df_983 : DfI := ⟨"_law_places", defArgs st_983, defBody st_983, defScope st_983, fi_983, fn_983, [("rows" : Str), ("columns" : Str), ("found" : Str), ("column" : Str), ("row" : Str)], [("rows" : Str), ("columns" : Str)], []⟩
def fi_984 : Fi := ⟨984, 3, [], ⟨[0, 0, 0], 1⟩⟩
abbrev st_984 : Stmt := PySem.Challenge.pw_puzzlebox_k74_orders_refused.main.body.getD 42 (.Pass ⟨0, 0, 0, 0⟩)
def df_984 : DfI := ⟨"_law_near", defArgs st_984, defBody st_984, defScope st_984, fi_984, fn_984, [("rows" : Str), ("columns" : Str), ("place" : Str), ("some" : Str), ("down" : Str), ("across" : Str), ("row" : Str), ("column" : Str)], [("rows" : Str), ("columns" : Str), ("place" : Str)], []⟩
def fi_985 : Fi := ⟨985, 3, [], ⟨[0, 0, 0], 1⟩⟩
abbrev st_985 : Stmt := PySem.Challenge.pw_puzzlebox_k74_orders_refused.main.body.getD 43 (.Pass ⟨0, 0, 0, 0⟩)
def df_985 : DfI := ⟨"_law_fits", defArgs st_985, defBody st_985, defScope st_985, fi_985, fn_985, [("rows" : Str), ("columns" : Str), ("order" : Str), ("at" : Str), ("place" : Str), ("other" : Str)], [("rows" : Str), ("columns" : Str), ("order" : Str)], []⟩
def fi_986 : Fi := ⟨986, 3, [], ⟨[0, 0, 0], 0⟩⟩
abbrev st_986 : Stmt := PySem.Challenge.pw_puzzlebox_k74_orders_refused.main.body.getD 44 (.Pass ⟨0, 0, 0, 0⟩)
def df_986 : DfI := ⟨"_law_heaps", defArgs st_986, defBody st_986, defScope st_986, fi_986, fn_986, [("rows" : Str), ("columns" : Str), ("places" : Str)], [("rows" : Str), ("columns" : Str), ("places" : Str)], []⟩
def fi_987 : Fi := ⟨987, 3, [], ⟨[0, 0, 0], 0⟩⟩
abbrev st_987 : Stmt := PySem.Challenge.pw_puzzlebox_k74_orders_refused.main.body.getD 45 (.Pass ⟨0, 0, 0, 0⟩)
def df_987 : DfI := ⟨"_law_is_order", defArgs st_987, defBody st_987, defScope st_987, fi_987, fn_987, [("rows" : Str), ("columns" : Str), ("value" : Str), ("places" : Str), ("place" : Str), ("part" : Str)], [("rows" : Str), ("columns" : Str), ("value" : Str)], []⟩
def fi_988 : Fi := ⟨988, 0, [], ⟨[], 1⟩⟩
abbrev st_988 : Stmt := PySem.Challenge.pw_puzzlebox_k74_orders_refused.main.body.getD 46 (.Pass ⟨0, 0, 0, 0⟩)
def df_988 : DfI := ⟨"_law_no_tables", defArgs st_988, defBody st_988, defScope st_988, fi_988, fn_988, [], [], []⟩
def fi_1031 : Fi := ⟨1031, 2, [], ⟨[0, 0], 0⟩⟩
abbrev st_1031 : Stmt := PySem.Challenge.pw_puzzlebox_k74_orders_refused.main.body.getD 47 (.Pass ⟨0, 0, 0, 0⟩)
def df_1031 : DfI := ⟨"_law_caught", defArgs st_1031, defBody st_1031, defScope st_1031, fi_1031, fn_1031, [("call" : Str), ("parts" : Str), ("caught" : Str), ("words" : Str), ("truths" : Str), ("word" : Str), ("one" : Str), ("shown" : Str), ("error" : Str)], [("call" : Str), ("parts" : Str)], []⟩
def fi_1032 : Fi := ⟨1032, 1, [], ⟨[0], 0⟩⟩
abbrev st_1032 : Stmt := PySem.Challenge.pw_puzzlebox_k74_orders_refused.main.body.getD 48 (.Pass ⟨0, 0, 0, 0⟩)
def df_1032 : DfI := ⟨"law", defArgs st_1032, defBody st_1032, defScope st_1032, fi_1032, fn_1032, [("script" : Str), ("order" : Str), ("kept" : Str), ("rows" : Str), ("columns" : Str), ("three" : Str), ("call" : Str), ("bad" : Str), ("bads" : Str), ("odd" : Str), ("place" : Str), ("generator" : Str)], [("script" : Str)], [11]⟩
def fns : List (Str × Fi) := [(("is_whole" : Str), fi_1), (("is_count" : Str), fi_2), (("is_table" : Str), fi_24), (("check_table" : Str), fi_25), (("places_of_table" : Str), fi_496), (("beside_place" : Str), fi_497), (("is_spot" : Str), fi_971), (("order_there" : Str), fi_972), (("is_place_order" : Str), fi_973), (("check_order" : Str), fi_974), (("fits_there" : Str), fi_975), (("fits_along" : Str), fi_976), (("heap_with" : Str), fi_977), (("heaps_in" : Str), fi_978), (("heaps_along" : Str), fi_979), (("rims_along" : Str), fi_980), (("bare_steps" : Str), fi_981), (("hard_steps" : Str), fi_982), (("least_hard" : Str), fi_993), (("easy_order" : Str), fi_994), (("touches" : Str), fi_995), (("is_touching" : Str), fi_996), (("touching_number" : Str), fi_1002), (("_law_hash" : Str), fi_161), (("_law_random" : Str), fi_162), (("_law_cell" : Str), fi_163), (("_law_generator" : Str), fi_164), (("_law_pick" : Str), fi_165), (("_law_same" : Str), fi_166), (("_law_shuffled" : Str), fi_167), (("_law_places" : Str), fi_983), (("_law_near" : Str), fi_984), (("_law_fits" : Str), fi_985), (("_law_heaps" : Str), fi_986), (("_law_is_order" : Str), fi_987), (("_law_no_tables" : Str), fi_988), (("_law_caught" : Str), fi_1031), (("law" : Str), fi_1032)]
def bl : List Str := [("len" : Str), ("int" : Str), ("abs" : Str), ("repr" : Str), ("str" : Str), ("sum" : Str), ("min" : Str), ("max" : Str), ("list" : Str), ("tuple" : Str), ("dict" : Str), ("set" : Str), ("sorted" : Str), ("all" : Str), ("any" : Str), ("range" : Str), ("enumerate" : Str), ("zip" : Str), ("reversed" : Str), ("isinstance" : Str), ("bool" : Str)]
def kwl : KwL := []
def gl : List (Str × Nat × D) := []
def ex : List (Str × Nat) := [("PuzzleError", 0), ("InvalidTable", 7), ("InvalidOrder", 11)]
def tb : Tb := ⟨fns, bl, kwl, gl, ex⟩
def ds : List DfI := [df_1, df_2, df_24, df_25, df_496, df_497, df_971, df_972, df_973, df_974, df_975, df_976, df_977, df_978, df_979, df_980, df_981, df_982, df_993, df_994, df_995, df_996, df_1002, df_161, df_162, df_163, df_164, df_165, df_166, df_167, df_983, df_984, df_985, df_986, df_987, df_988, df_1031, df_1032]
theorem bd_1 : BindOk df_1 := fun _ _ _ _ _ _ us hl => match us, hl with | [_], _ => rfl
theorem bd_2 : BindOk df_2 := fun _ _ _ _ _ _ us hl => match us, hl with | [_], _ => rfl
theorem bd_24 : BindOk df_24 := fun _ _ _ _ _ _ us hl => match us, hl with | [_, _], _ => rfl
theorem bd_25 : BindOk df_25 := fun _ _ _ _ _ _ us hl => match us, hl with | [_, _], _ => rfl
theorem bd_496 : BindOk df_496 := fun _ _ _ _ _ _ us hl => match us, hl with | [_, _], _ => rfl
theorem bd_497 : BindOk df_497 := fun _ _ _ _ _ _ us hl => match us, hl with | [_, _, _], _ => rfl
theorem bd_971 : BindOk df_971 := fun _ _ _ _ _ _ us hl => match us, hl with | [_, _, _], _ => rfl
theorem bd_972 : BindOk df_972 := fun _ _ _ _ _ _ us hl => match us, hl with | [_, _, _], _ => rfl
theorem bd_973 : BindOk df_973 := fun _ _ _ _ _ _ us hl => match us, hl with | [_, _, _], _ => rfl
theorem bd_974 : BindOk df_974 := fun _ _ _ _ _ _ us hl => match us, hl with | [_, _, _], _ => rfl
theorem bd_975 : BindOk df_975 := fun _ _ _ _ _ _ us hl => match us, hl with | [_, _, _], _ => rfl
theorem bd_976 : BindOk df_976 := fun _ _ _ _ _ _ us hl => match us, hl with | [_, _, _], _ => rfl
theorem bd_977 : BindOk df_977 := fun _ _ _ _ _ _ us hl => match us, hl with | [_, _, _, _], _ => rfl
theorem bd_978 : BindOk df_978 := fun _ _ _ _ _ _ us hl => match us, hl with | [_, _, _], _ => rfl
theorem bd_979 : BindOk df_979 := fun _ _ _ _ _ _ us hl => match us, hl with | [_, _, _], _ => rfl
theorem bd_980 : BindOk df_980 := fun _ _ _ _ _ _ us hl => match us, hl with | [_, _, _], _ => rfl
theorem bd_981 : BindOk df_981 := fun _ _ _ _ _ _ us hl => match us, hl with | [_, _, _], _ => rfl
theorem bd_982 : BindOk df_982 := fun _ _ _ _ _ _ us hl => match us, hl with | [_, _, _], _ => rfl
theorem bd_993 : BindOk df_993 := fun _ _ _ _ _ _ us hl => match us, hl with | [_, _], _ => rfl
theorem bd_994 : BindOk df_994 := fun _ _ _ _ _ _ us hl => match us, hl with | [_, _], _ => rfl
theorem bd_995 : BindOk df_995 := fun _ _ _ _ _ _ us hl => match us, hl with | [_, _, _], _ => rfl
theorem bd_996 : BindOk df_996 := fun _ _ _ _ _ _ us hl => match us, hl with | [_, _, _], _ => rfl
theorem bd_1002 : BindOk df_1002 := fun _ _ _ _ _ _ us hl => match us, hl with | [_, _, _], _ => rfl
theorem bd_161 : BindOk df_161 := fun _ _ _ _ _ _ us hl => match us, hl with | [_, _], _ => rfl
theorem bd_162 : BindOk df_162 := fun _ _ _ _ _ _ us hl => match us, hl with | [_, _], _ => rfl
theorem bd_163 : BindOk df_163 := fun _ _ _ _ _ _ us hl => match us, hl with | [_, _], _ => rfl
theorem bd_164 : BindOk df_164 := fun _ _ _ _ _ _ us hl => match us, hl with | [_, _], _ => rfl
theorem bd_165 : BindOk df_165 := fun _ _ _ _ _ _ us hl => match us, hl with | [_, _], _ => rfl
theorem bd_166 : BindOk df_166 := fun _ _ _ _ _ _ us hl => match us, hl with | [_, _], _ => rfl
theorem bd_167 : BindOk df_167 := fun _ _ _ _ _ _ us hl => match us, hl with | [_, _], _ => rfl
theorem bd_983 : BindOk df_983 := fun _ _ _ _ _ _ us hl => match us, hl with | [_, _], _ => rfl
theorem bd_984 : BindOk df_984 := fun _ _ _ _ _ _ us hl => match us, hl with | [_, _, _], _ => rfl
theorem bd_985 : BindOk df_985 := fun _ _ _ _ _ _ us hl => match us, hl with | [_, _, _], _ => rfl
theorem bd_986 : BindOk df_986 := fun _ _ _ _ _ _ us hl => match us, hl with | [_, _, _], _ => rfl
theorem bd_987 : BindOk df_987 := fun _ _ _ _ _ _ us hl => match us, hl with | [_, _, _], _ => rfl
theorem bd_988 : BindOk df_988 := fun _ _ _ _ _ _ us hl => match us, hl with | [], _ => rfl
theorem bd_1031 : BindOk df_1031 := fun _ _ _ _ _ _ us hl => match us, hl with | [_, _], _ => rfl
theorem bd_1032 : BindOk df_1032 := fun _ _ _ _ _ _ us hl => match us, hl with | [_], _ => rfl
theorem chk_1 : DfI.ok df_1 tb = true := by decide +kernel
theorem chk_2 : DfI.ok df_2 tb = true := by decide +kernel
theorem chk_24 : DfI.ok df_24 tb = true := by decide +kernel
theorem chk_25 : DfI.ok df_25 tb = true := by decide +kernel
theorem chk_496 : DfI.ok df_496 tb = true := by decide +kernel
theorem chk_497 : DfI.ok df_497 tb = true := by decide +kernel
theorem chk_971 : DfI.ok df_971 tb = true := by decide +kernel
theorem chk_972 : DfI.ok df_972 tb = true := by decide +kernel
theorem chk_973 : DfI.ok df_973 tb = true := by decide +kernel
theorem chk_974 : DfI.ok df_974 tb = true := by decide +kernel
theorem chk_975 : DfI.ok df_975 tb = true := by decide +kernel
theorem chk_976 : DfI.ok df_976 tb = true := by decide +kernel
theorem chk_977 : DfI.ok df_977 tb = true := by decide +kernel
theorem chk_978 : DfI.ok df_978 tb = true := by decide +kernel
theorem chk_979 : DfI.ok df_979 tb = true := by decide +kernel
theorem chk_980 : DfI.ok df_980 tb = true := by decide +kernel
theorem chk_981 : DfI.ok df_981 tb = true := by decide +kernel
theorem chk_982 : DfI.ok df_982 tb = true := by decide +kernel
theorem chk_993 : DfI.ok df_993 tb = true := by decide +kernel
theorem chk_994 : DfI.ok df_994 tb = true := by decide +kernel
theorem chk_995 : DfI.ok df_995 tb = true := by decide +kernel
theorem chk_996 : DfI.ok df_996 tb = true := by decide +kernel
theorem chk_1002 : DfI.ok df_1002 tb = true := by decide +kernel
theorem chk_161 : DfI.ok df_161 tb = true := by decide +kernel
theorem chk_162 : DfI.ok df_162 tb = true := by decide +kernel
theorem chk_163 : DfI.ok df_163 tb = true := by decide +kernel
theorem chk_164 : DfI.ok df_164 tb = true := by decide +kernel
theorem chk_165 : DfI.ok df_165 tb = true := by decide +kernel
theorem chk_166 : DfI.ok df_166 tb = true := by decide +kernel
theorem chk_167 : DfI.ok df_167 tb = true := by decide +kernel
theorem chk_983 : DfI.ok df_983 tb = true := by decide +kernel
theorem chk_984 : DfI.ok df_984 tb = true := by decide +kernel
theorem chk_985 : DfI.ok df_985 tb = true := by decide +kernel
theorem chk_986 : DfI.ok df_986 tb = true := by decide +kernel
theorem chk_987 : DfI.ok df_987 tb = true := by decide +kernel
theorem chk_988 : DfI.ok df_988 tb = true := by decide +kernel
theorem chk_1031 : DfI.ok df_1031 tb = true := by decide +kernel
theorem chk_1032 : DfI.ok df_1032 tb = true := by decide +kernel
theorem tbOk : TbOk ds tb prog where
  bind := by
    intro d hd
    simp only [ds, List.mem_cons, List.not_mem_nil, or_false] at hd
    rcases hd with rfl | rfl | rfl | rfl | rfl | rfl | rfl | rfl | rfl | rfl | rfl | rfl | rfl | rfl | rfl | rfl | rfl | rfl | rfl | rfl | rfl | rfl | rfl | rfl | rfl | rfl | rfl | rfl | rfl | rfl | rfl | rfl | rfl | rfl | rfl | rfl | rfl | rfl
    · exact bd_1
    · exact bd_2
    · exact bd_24
    · exact bd_25
    · exact bd_496
    · exact bd_497
    · exact bd_971
    · exact bd_972
    · exact bd_973
    · exact bd_974
    · exact bd_975
    · exact bd_976
    · exact bd_977
    · exact bd_978
    · exact bd_979
    · exact bd_980
    · exact bd_981
    · exact bd_982
    · exact bd_993
    · exact bd_994
    · exact bd_995
    · exact bd_996
    · exact bd_1002
    · exact bd_161
    · exact bd_162
    · exact bd_163
    · exact bd_164
    · exact bd_165
    · exact bd_166
    · exact bd_167
    · exact bd_983
    · exact bd_984
    · exact bd_985
    · exact bd_986
    · exact bd_987
    · exact bd_988
    · exact bd_1031
    · exact bd_1032
  kw := by
    intro d hd q hq
    simp [tb, kwl] at hq
  chk := by
    intro d hd
    simp only [ds, List.mem_cons, List.not_mem_nil, or_false] at hd
    rcases hd with rfl | rfl | rfl | rfl | rfl | rfl | rfl | rfl | rfl | rfl | rfl | rfl | rfl | rfl | rfl | rfl | rfl | rfl | rfl | rfl | rfl | rfl | rfl | rfl | rfl | rfl | rfl | rfl | rfl | rfl | rfl | rfl | rfl | rfl | rfl | rfl | rfl | rfl
    · exact chk_1
    · exact chk_2
    · exact chk_24
    · exact chk_25
    · exact chk_496
    · exact chk_497
    · exact chk_971
    · exact chk_972
    · exact chk_973
    · exact chk_974
    · exact chk_975
    · exact chk_976
    · exact chk_977
    · exact chk_978
    · exact chk_979
    · exact chk_980
    · exact chk_981
    · exact chk_982
    · exact chk_993
    · exact chk_994
    · exact chk_995
    · exact chk_996
    · exact chk_1002
    · exact chk_161
    · exact chk_162
    · exact chk_163
    · exact chk_164
    · exact chk_165
    · exact chk_166
    · exact chk_167
    · exact chk_983
    · exact chk_984
    · exact chk_985
    · exact chk_986
    · exact chk_987
    · exact chk_988
    · exact chk_1031
    · exact chk_1032
  fn := by
    intro d hd
    simp only [ds, List.mem_cons, List.not_mem_nil, or_false] at hd
    rcases hd with rfl | rfl | rfl | rfl | rfl | rfl | rfl | rfl | rfl | rfl | rfl | rfl | rfl | rfl | rfl | rfl | rfl | rfl | rfl | rfl | rfl | rfl | rfl | rfl | rfl | rfl | rfl | rfl | rfl | rfl | rfl | rfl | rfl | rfl | rfl | rfl | rfl | rfl <;> rfl
  fns := by
    intro x fi h
    have := lookup_mem h
    have e : fns = ds.map fun d => (d.x, d.fi) := rfl
    rw [show tb.fns = fns from rfl, e] at this
    obtain ⟨d, hd, e2⟩ := List.mem_map.mp this
    exact ⟨d, hd, congrArg Prod.fst e2, congrArg Prod.snd e2⟩
  gl := by
    intro q hq
    simp only [tb, gl, List.mem_cons, List.not_mem_nil, or_false] at hq
  nd := by decide +kernel
  ndx := by decide +kernel
end Pz.K74
end
section
set_option Elab.async false
set_option linter.all false
/-! When the evaluator's repr tells: a bound of a text's size. -/
namespace Pz
open PySem

mutual
/-- a bound of the size of what is shown -/
def shB : D → Nat
  | .non => 4
  | .bl _ => 5
  | .int _ => 1921
  | .str s => 10 * s.length + 2
  | .lst l => shL l + 2
  | .tup l => shL l + 3
  | .dic ks vs => shL ks + shL vs + 2
  | .set _ | .fn _ | .exc _ _ => 4
def shL : List D → Nat
  | [] => 0
  | x :: l => shB x + 2 + shL l
end
mutual
/-- no sign, no int too great; no set, no function -/
def smD : D → Bool
  | .non | .bl _ => true
  | .int i => decide (i.natAbs.log2 < 1920)
  | .str s => s.all fun c => decide (c < 4294967296)
  | .lst l => smL l
  | .tup l => smL l
  | .dic ks vs => smL ks && smL vs && ks.length == vs.length
  | .set _ | .fn _ | .exc _ _ => false
def smL : List D → Bool
  | [] => true
  | x :: l => smD x && smL l
end
theorem shAll_eq : ∀ l : List PyData, PyData.shownAll l = l.map PyData.shown
  | [] => rfl
  | x :: l => by rw [PyData.shownAll, List.map_cons, shAll_eq l]
theorem join_le (ts : List Str) : (Str.join ", " ts).length ≤ (ts.map fun t => t.length + 2).sum := by
  have h := StrLaws.join_length_le ", " ts
  have e : ∀ ts : List Str, (ts.map (·.length)).sum + ts.length * 2 = (ts.map fun t => t.length + 2).sum := fun ts => by
    induction ts with
    | nil => rfl
    | cons t ts ih => simp only [List.map_cons, List.sum_cons, List.length_cons]; omega
  rw [← e]
  exact h
theorem kv_eq : ∀ (a b : List PyData), (PyData.shownKv (a.zip b)).map (fun t => t.length + 2) = (a.zip b).map fun p => p.1.shown.length + p.2.shown.length + 4
  | [], _ => rfl
  | _ :: _, [] => rfl
  | x :: a, y :: b => by
    rw [List.zip_cons_cons, PyData.shownKv, List.map_cons, List.map_cons, kv_eq a b, strLen_append, strLen_append]
    congr 1
    show x.shown.length + 2 + y.shown.length + 2 = x.shown.length + y.shown.length + 4
    omega
mutual
theorem shown_le : ∀ d : D, smD d = true → (toPy d).shown.length ≤ shB d
  | .non, _ => by decide
  | .bl b, _ => by cases b <;> decide
  | .int i, h => PyProof.Rows.int_text_len_1921 (of_decide_eq_true h)
  | .str s, h => by
    have := StrLaws.reprText_len ⟨s.toArray⟩ (fun c hc => by
      have := List.all_eq_true.mp h c (by simpa using hc)
      simpa using this)
    have e : (⟨s.toArray⟩ : Str).length = s.length := by simp [Str.length]
    rw [e] at this
    exact this
  | .lst l, h => by
    have := shown_leL l h
    show (PyData.list (toPyL l)).shown.length ≤ _
    rw [PyData.shown_list, strLen_append, strLen_append, shAll_eq]
    have j := join_le ((toPyL l).map PyData.shown)
    show 1 + _ + 1 ≤ shL l + 2
    omega
  | .tup l, h => by
    have := shown_leL l h
    show (PyData.tuple (toPyL l)).shown.length ≤ _
    rw [PyData.shown_tuple, strLen_append, strLen_append, shAll_eq]
    have j := join_le ((toPyL l).map PyData.shown)
    have k : ((if (toPyL l).length == 1 then ",)" else ")" : String) : Str).length ≤ 2 := by split <;> decide
    show 1 + _ + _ ≤ shL l + 3
    omega
  | .dic ks vs, h => by
    replace h : (smL ks && smL vs && ks.length == vs.length) = true := h
    simp only [Bool.and_eq_true, beq_iff_eq] at h
    have h1 := shown_leL ks h.1.1
    have h2 := shown_leL vs h.1.2
    show (PyData.dict ((toPyL ks).zip (toPyL vs))).shown.length ≤ _
    rw [PyData.shown_dict, strLen_append, strLen_append]
    have j := join_le (PyData.shownKv ((toPyL ks).zip (toPyL vs)))
    rw [kv_eq] at j
    have k : ∀ a b : List PyData, ((a.zip b).map fun p => p.1.shown.length + p.2.shown.length + 4).sum ≤ ((a.map PyData.shown).map fun t => t.length + 2).sum + ((b.map PyData.shown).map fun t => t.length + 2).sum := fun a => by
      induction a with
      | nil => intro b; simp
      | cons x a ih =>
        intro b
        cases b with
        | nil => simp
        | cons y b =>
          have := ih b
          simp only [List.zip_cons_cons, List.map_cons, List.sum_cons]
          omega
    have k' := k (toPyL ks) (toPyL vs)
    show 1 + _ + 1 ≤ shL ks + shL vs + 2
    omega
  | .set _, h => by cases h
  | .fn _, h => by cases h
  | .exc _ _, h => by cases h
theorem shown_leL : ∀ l : List D, smL l = true → (((toPyL l).map PyData.shown).map fun t => t.length + 2).sum ≤ shL l
  | [], _ => Nat.zero_le _
  | d :: l, h => by
    replace h : (smD d && smL l) = true := h
    rw [Bool.and_eq_true] at h
    have h1 := shown_le d h.1
    have h2 := shown_leL l h.2
    show (toPy d).shown.length + 2 + _ ≤ shB d + 2 + shL l
    exact Nat.add_le_add (Nat.add_le_add_right h1 2) h2
end
mutual
theorem showable_sm : ∀ d : D, smD d = true → (toPy d).showable = true
  | .non, _ => rfl
  | .bl _, _ => rfl
  | .int _, h => h
  | .str _, _ => rfl
  | .lst l, h => showable_smL l h
  | .tup l, h => showable_smL l h
  | .dic ks vs, h => by
    replace h : (smL ks && smL vs && ks.length == vs.length) = true := h
    simp only [Bool.and_eq_true, beq_iff_eq] at h
    have h1 := showable_smL ks h.1.1
    have h2 := showable_smL vs h.1.2
    show PyData.showableKv ((toPyL ks).zip (toPyL vs)) = true
    have k : ∀ a b : List PyData, PyData.showableAll a = true → PyData.showableAll b = true → PyData.showableKv (a.zip b) = true := fun a => by
      induction a with
      | nil => intro b _ _; simp [PyData.showableKv]
      | cons x a ih =>
        intro b h1 h2
        cases b with
        | nil => simp [PyData.showableKv]
        | cons y b =>
          replace h1 : (PyData.showable x && PyData.showableAll a) = true := h1
          replace h2 : (PyData.showable y && PyData.showableAll b) = true := h2
          rw [Bool.and_eq_true] at h1 h2
          show (PyData.showable x && PyData.showable y && PyData.showableKv (a.zip b)) = true
          rw [h1.1, h2.1, ih b h1.2 h2.2]; rfl
    exact k _ _ h1 h2
  | .set _, h => by cases h
  | .fn _, h => by cases h
  | .exc _ _, h => by cases h
theorem showable_smL : ∀ l : List D, smL l = true → PyData.showableAll (toPyL l) = true
  | [], _ => rfl
  | d :: l, h => by
    replace h : (smD d && smL l) = true := h
    rw [Bool.and_eq_true] at h
    show (PyData.showable (toPy d) && PyData.showableAll (toPyL l)) = true
    rw [showable_sm d h.1, showable_smL l h.2]; rfl
end
mutual
theorem depth_le : ∀ d : D, (toPy d).depth ≤ depthD d
  | .non => Nat.le_refl _
  | .bl _ => Nat.le_refl _
  | .int _ => Nat.le_refl _
  | .str _ => Nat.le_refl _
  | .lst l => Nat.succ_le_succ (depth_leL l)
  | .tup l => Nat.succ_le_succ (depth_leL l)
  | .dic ks vs => by
    have h1 := depth_leL ks
    have h2 := depth_leL vs
    have k : ∀ a b : List PyData, PyData.depthKv (a.zip b) ≤ max (PyData.depthAll a) (PyData.depthAll b) := fun a => by
      induction a with
      | nil => intro b; exact Nat.zero_le _
      | cons x a ih =>
        intro b
        cases b with
        | nil => exact Nat.zero_le _
        | cons y b =>
          have := ih b
          show max (max (PyData.depth x) (PyData.depth y)) (PyData.depthKv (a.zip b)) ≤ max (max (PyData.depth x) (PyData.depthAll a)) (max (PyData.depth y) (PyData.depthAll b))
          omega
    have := k (toPyL ks) (toPyL vs)
    show PyData.depthKv _ + 1 ≤ max (depthL ks) (depthL vs) + 1
    omega
  | .set _ => Nat.zero_le _
  | .fn _ => Nat.zero_le _
  | .exc _ _ => Nat.zero_le _
theorem depth_leL : ∀ l : List D, PyData.depthAll (toPyL l) ≤ depthL l
  | [] => Nat.le_refl _
  | d :: l => by
    have h1 := depth_le d
    have h2 := depth_leL l
    show max _ _ ≤ max _ _
    omega
end
/-- the evaluator tells its repr -/
def repOk (d : D) : Bool := (okD 60 d || noLst d) && smD d && decide (depthD d ≤ 60) && decide (shB d ≤ lim)
theorem repr_ok {d : D} (h : repOk d = true) : ∃ s, reprD d = some (.str s) := by
  unfold repOk at h
  simp only [Bool.and_eq_true, decide_eq_true_eq] at h
  obtain ⟨⟨⟨h1, h2⟩, h3⟩, h4⟩ := h
  refine ⟨(toPy d).shown.cps.toList, if_pos ?_⟩
  simp only [Bool.and_eq_true, decide_eq_true_eq]
  exact ⟨⟨⟨h1, showable_sm d h2⟩, Nat.le_trans (depth_le d) h3⟩, Nat.le_trans (shown_le d h2) h4⟩
end Pz
end
section
set_option Elab.async false
set_option linter.all false
set_option autoImplicit true
/-! The evaluator's equations, for simp. -/
namespace Pz
@[simp] theorem evP_v {C : Cfg} : evP C (.v i) ρ = (optR (gt ρ i)).bind fun _ => .ok (i, [], ρ) := id rfl
@[simp] theorem evP_idx {C : Cfg} : evP C (.idx a k) ρ = (evP C a ρ).bind fun p => (evE C k p.2.2).bind fun q => .ok (p.1, p.2.1 ++ [q.1], q.2) := id rfl
@[simp] theorem evG_v {C : Cfg} : evG C (.v i) d ρ = .ok (st ρ i d) := id rfl
@[simp] theorem evG_tup {C : Cfg} : evG C (.tup as) d ρ = (optR (itemsT (lenT as) d)).bind fun l => evGs C as l ρ := id rfl
@[simp] theorem evG_idx {C : Cfg} : evG C (.idx a k) d ρ = (evP C a ρ).bind fun p => (evE C k p.2.2).bind fun q =>
      (optR (gt q.2 p.1)).bind fun o => (optR (updAt (setItemD q.1 d) p.2.1 o)).bind fun o' => .ok (st q.2 p.1 o') := id rfl
@[simp] theorem evGs_nil {C : Cfg} : evGs C (.nil) l ρ = if l.isEmpty then .ok ρ else bad := id rfl
@[simp] theorem evGs_cons {C : Cfg} : evGs C (.cons a b) l ρ = (match l with
    | x :: l => (evG C a x ρ).bind fun ρ' => evGs C b l ρ'
    | [] => bad) := id rfl
@[simp] theorem evA_nil {C : Cfg} : evA C (.nil) ρ = .ok ([], ρ) := id rfl
@[simp] theorem evA_cons {C : Cfg} : evA C (.cons a b) ρ = (evE C a ρ).bind fun p => (evA C b p.2).bind fun q => .ok (p.1 :: q.1, q.2) := id rfl
@[simp] theorem evI_rng {C : Cfg} : evI C (.rng as) ρ = (evA C as ρ).bind fun p => (optR (rngD p.1)).bind fun l => .ok (l, p.2) := id rfl
@[simp] theorem evI_enum {C : Cfg} : evI C (.enum a) ρ = (evE C a ρ).bind fun p => (optR (lstO p.1)).bind fun l => .ok (enumD 0 l, p.2) := id rfl
@[simp] theorem evI_zip {C : Cfg} : evI C (.zip a b) ρ = (evE C a ρ).bind fun p => (evE C b p.2).bind fun q => (optR (zipO p.1 q.1)).bind fun l => .ok (l, q.2) := id rfl
@[simp] theorem evI_items {C : Cfg} : evI C (.items a) ρ = (evE C a ρ).bind fun p => (optR (pairsOf p.1)).bind fun l => .ok (l, p.2) := id rfl
@[simp] theorem evI_vals {C : Cfg} : evI C (.vals a) ρ = (evE C a ρ).bind fun p => (optR (valsOf p.1)).bind fun l => .ok (l, p.2) := id rfl
@[simp] theorem evI_rvd {C : Cfg} : evI C (.rvd a) ρ = (evI C a ρ).bind fun p => .ok (p.1.reverse, p.2) := id rfl
@[simp] theorem evI_wlk {C : Cfg} : evI C (.wlk a) ρ = (evE C a ρ).bind fun p => (optR (itemsD p.1)).bind fun l => .ok (l, p.2) := id rfl
@[simp] theorem evE_v {C : Cfg} : evE C (.v i) ρ = (optR (gt ρ i)).bind fun d => .ok (d, ρ) := id rfl
@[simp] theorem evE_non {C : Cfg} : evE C (.non) ρ = .ok (.non, ρ) := id rfl
@[simp] theorem evE_tt {C : Cfg} : evE C (.tt) ρ = .ok (.bl true, ρ) := id rfl
@[simp] theorem evE_ff {C : Cfg} : evE C (.ff) ρ = .ok (.bl false, ρ) := id rfl
@[simp] theorem evE_int {C : Cfg} : evE C (.int i) ρ = .ok (.int i, ρ) := id rfl
@[simp] theorem evE_str {C : Cfg} : evE C (.str s) ρ = .ok (.str s, ρ) := id rfl
@[simp] theorem evE_glob {C : Cfg} : evE C (.glob g) ρ = .ok (C.glob g, ρ) := id rfl
@[simp] theorem evE_fnv {C : Cfg} : evE C (.fnv f) ρ = .ok (.fn f, ρ) := id rfl
@[simp] theorem evE_atm {C : Cfg} : evE C (.atm a) ρ = (evE C a ρ).bind fun p => (optR (atomD p.1)).bind fun d => .ok (d, p.2) := id rfl
@[simp] theorem evE_bin {C : Cfg} : evE C (.bin op a b) ρ = (evE C a ρ).bind fun p => (evE C b p.2).bind fun q => (optR (binD op p.1 q.1)).bind fun d => .ok (d, q.2) := id rfl
@[simp] theorem evE_neg {C : Cfg} : evE C (.neg a) ρ = (evE C a ρ).bind fun p => (optR (negD p.1)).bind fun d => .ok (d, p.2) := id rfl
@[simp] theorem evE_not {C : Cfg} : evE C (.not a) ρ = (evE C a ρ).bind fun p => (optR (truO p.1)).bind fun b => .ok (.bl (!b), p.2) := id rfl
@[simp] theorem evE_and {C : Cfg} : evE C (.and a b) ρ = (evE C a ρ).bind fun p => (optR (truO p.1)).bind fun t => if t then evE C b p.2 else .ok p := id rfl
@[simp] theorem evE_or {C : Cfg} : evE C (.or a b) ρ = (evE C a ρ).bind fun p => (optR (truO p.1)).bind fun t => if t then .ok p else evE C b p.2 := id rfl
@[simp] theorem evE_cmp {C : Cfg} : evE C (.cmp op a b) ρ = (evE C a ρ).bind fun p => (evE C b p.2).bind fun q => (optR (cmpB op p.1 q.1)).bind fun d => .ok (.bl d, q.2) := id rfl
@[simp] theorem evE_chain {C : Cfg} : evE C (.chain o1 o2 a b c) ρ = (evE C a ρ).bind fun p => (evE C b p.2).bind fun q => (optR (cmpB o1 p.1 q.1)).bind fun d =>
      if d then (evE C c q.2).bind fun r => (optR (cmpB o2 q.1 r.1)).bind fun d' => .ok (.bl d', r.2) else .ok (.bl false, q.2) := id rfl
@[simp] theorem evE_ite {C : Cfg} : evE C (.ite c a b) ρ = (evE C c ρ).bind fun p => (optR (truO p.1)).bind fun t => if t then evE C a p.2 else evE C b p.2 := id rfl
@[simp] theorem evE_isi {C : Cfg} : evE C (.isi a ts) ρ = (evE C a ρ).bind fun p => (optR (isTs p.1 ts)).bind fun b => .ok (.bl b, p.2) := id rfl
@[simp] theorem evE_call {C : Cfg} : evE C (.call f as io) ρ = (evA C as ρ).bind fun p => (optR (lend p.2 p.1 io)).bind fun ds => (C.call f ds).bind fun r => .ok (r.1, setIO p.2 io r.2) := id rfl
@[simp] theorem evE_callk {C : Cfg} : evE C (.callk f as pm io) ρ = (evA C as ρ).bind fun p => (optR (permD p.1 pm)).bind fun as' => (optR (lend p.2 as' io)).bind fun ds => (C.call f ds).bind fun r => .ok (r.1, setIO p.2 io r.2) := id rfl
@[simp] theorem evE_callv {C : Cfg} : evE C (.callv i as) ρ = (optR ((gt ρ i).bind fnO)).bind fun f => (evA C as ρ).bind fun p => (C.call f p.1).bind fun r => .ok (r.1, p.2) := id rfl
@[simp] theorem evE_bi {C : Cfg} : evE C (.bi b as) ρ = (evA C as ρ).bind fun p => (optR (biD b p.1)).bind fun d => .ok (d, p.2) := id rfl
@[simp] theorem evE_biw {C : Cfg} : evE C (.biw b it) ρ = (evI C it ρ).bind fun p => (optR (biD b [.lst p.1])).bind fun d => .ok (d, p.2) := id rfl
@[simp] theorem evE_me {C : Cfg} : evE C (.me m o as) ρ = (evE C o ρ).bind fun p => (evA C as p.2).bind fun q => (optR (meD m p.1 q.1)).bind fun d => .ok (d, q.2) := id rfl
@[simp] theorem evE_pop {C : Cfg} : evE C (.pop i a) ρ = (optR ((gt ρ i).bind lstD)).bind fun _ => (evE C a ρ).bind fun q => (optR ((gt q.2 i).bind lstD)).bind fun o => (optR (popL o q.1)).bind fun r => .ok (r.1, st q.2 i r.2) := id rfl
@[simp] theorem evE_idx {C : Cfg} : evE C (.idx a k) ρ = (evE C a ρ).bind fun p => (evE C k p.2).bind fun q => (optR (getD p.1 q.1)).bind fun d => .ok (d, q.2) := id rfl
@[simp] theorem evE_slc {C : Cfg} : evE C (.slc a lo hi) ρ = (evE C a ρ).bind fun p => (partR (isNonT lo) (evE C lo) p.2).bind fun q => (partR (isNonT hi) (evE C hi) q.2).bind fun r => (optR (slcV q.1 r.1 p.1)).bind fun d => .ok (d, r.2) := id rfl
@[simp] theorem evE_rev {C : Cfg} : evE C (.rev a) ρ = (evE C a ρ).bind fun p => (optR (revD p.1)).bind fun d => .ok (d, p.2) := id rfl
@[simp] theorem evE_tup {C : Cfg} : evE C (.tup as) ρ = (evA C as ρ).bind fun p => .ok (.tup p.1, p.2) := id rfl
@[simp] theorem evE_lst {C : Cfg} : evE C (.lst z1 as) ρ = (evA C as ρ).bind fun p => .ok (.lst p.1, p.2) := id rfl
@[simp] theorem evE_dct {C : Cfg} : evE C (.dct ks vs) ρ = (evA C vs ρ).bind fun p => .ok (.dic (keysT ks) p.1, p.2) := id rfl
@[simp] theorem evE_lc {C : Cfg} : evE C (.lc e tg it c own) ρ = (evI C it ρ).bind fun p =>
      (nox (compR (fun x ρ acc => (evG C tg x (unset ρ own)).bind fun ρ1 => (evC C c ρ1).bind fun t => if t.1 then (evE C e t.2).bind (push acc) else .ok (acc, t.2)) p.1 p.2 [])).bind fun r =>
      .ok (.lst r.1, back p.2 r.2 own) := id rfl
@[simp] theorem evE_lc2 {C : Cfg} : evE C (.lc2 e tg it c tg2 it2 c2 own own2) ρ = (evI C it ρ).bind fun p =>
      (nox (compR (fun x ρ acc => (evG C tg x (unset ρ own)).bind fun ρ1 => (evC C c ρ1).bind fun t => if t.1 then (evI C it2 t.2).bind fun p2 =>
        compR (fun x ρ acc => (evG C tg2 x (unset ρ own2)).bind fun ρ1 => (evC C c2 ρ1).bind fun t => if t.1 then (evE C e t.2).bind (push acc) else .ok (acc, t.2)) p2.1 p2.2 acc else .ok (acc, t.2)) p.1 p.2 [])).bind fun r =>
      .ok (.lst r.1, back p.2 r.2 own) := id rfl
@[simp] theorem evE_dc {C : Cfg} : evE C (.dc k e tg it c own) ρ = (evI C it ρ).bind fun p =>
      (compR (fun x ρ acc => (evG C tg x (unset ρ own)).bind fun ρ1 => (evC C c ρ1).bind fun t => if t.1 then (evE C k t.2).bind fun q1 => (evE C e q1.2).bind fun q => (optR (putD acc q1.1 q.1)).bind fun d => .ok (d, q.2) else .ok (acc, t.2)) p.1 p.2 (D.dic [] [])).bind fun r =>
      .ok (r.1, back p.2 r.2 own) := id rfl
@[simp] theorem evE_dc2 {C : Cfg} : evE C (.dc2 k e tg it c tg2 it2 c2 own own2) ρ = (evI C it ρ).bind fun p =>
      (compR (fun x ρ acc => (evG C tg x (unset ρ own)).bind fun ρ1 => (evC C c ρ1).bind fun t => if t.1 then (evI C it2 t.2).bind fun p2 =>
        compR (fun x ρ acc => (evG C tg2 x (unset ρ own2)).bind fun ρ1 => (evC C c2 ρ1).bind fun t => if t.1 then (evE C k t.2).bind fun q1 => (evE C e q1.2).bind fun q => (optR (putD acc q1.1 q.1)).bind fun d => .ok (d, q.2) else .ok (acc, t.2)) p2.1 p2.2 acc else .ok (acc, t.2)) p.1 p.2 (D.dic [] [])).bind fun r =>
      .ok (r.1, back p.2 r.2 own) := id rfl
@[simp] theorem evE_attr {C : Cfg} : evE C (.attr a n) ρ = (evE C a ρ).bind fun p => (optR (attrD n p.1)).bind fun d => .ok (d, p.2) := id rfl
@[simp] theorem evC_nil {C : Cfg} : evC C (.nil) ρ = .ok (true, ρ) := id rfl
@[simp] theorem evC_cons {C : Cfg} : evC C (.cons a z2) ρ = (evE C a ρ).bind fun p => (optR (truO p.1)).bind fun t => .ok (t, p.2) := id rfl
@[simp] theorem evS_asg {C : Cfg} : evS C (.asg tg e) ρ = (evE C e ρ).bind fun p => (evG C tg p.1 p.2).bind fun ρ' => .ok (.nx ρ') := id rfl
@[simp] theorem evS_mov {C : Cfg} : evS C (.mov j i) ρ = (optR (gt ρ i)).bind fun d => .ok (.nx (st (ρ.set i none) j d)) := id rfl
@[simp] theorem evS_par {C : Cfg} : evS C (.par tgs es) ρ = (evA C es ρ).bind fun p => (optR (itemsT (lenT tgs) (.tup p.1))).bind fun l => (evGs C tgs l p.2).bind fun ρ' => .ok (.nx ρ') := id rfl
@[simp] theorem evS_aug {C : Cfg} : evS C (.aug i e) ρ = (optR (gt ρ i)).bind fun x => (evE C e ρ).bind fun p => (optR (binD .add x p.1)).bind fun d => .ok (.nx (st p.2 i d)) := id rfl
@[simp] theorem evS_app {C : Cfg} : evS C (.app o e) ρ = (evP C o ρ).bind fun p => (optR ((gt p.2.2 p.1).bind (updAt lstD p.2.1))).bind fun _ => (evE C e p.2.2).bind fun q => (optR (gt q.2 p.1)).bind fun x => (optR (updAt (appD q.1) p.2.1 x)).bind fun x' => .ok (.nx (st q.2 p.1 x')) := id rfl
@[simp] theorem evS_ins {C : Cfg} : evS C (.ins o k e) ρ = (evP C o ρ).bind fun p => (evE C k p.2.2).bind fun r => (evE C e r.2).bind fun q => (optR (gt q.2 p.1)).bind fun x => (optR (updAt (insD' r.1 q.1) p.2.1 x)).bind fun x' => .ok (.nx (st q.2 p.1 x')) := id rfl
@[simp] theorem evS_exp {C : Cfg} : evS C (.exp e) ρ = (evE C e ρ).bind fun p => .ok (.nx p.2) := id rfl
@[simp] theorem evS_sif {C : Cfg} : evS C (.sif c a b) ρ = (evE C c ρ).bind fun p => (optR (truO p.1)).bind fun t => if t then evB C a p.2 else evB C b p.2 := id rfl
@[simp] theorem evS_whl {C : Cfg} : evS C (.whl c b m) ρ = whlR (fun ρ => (evE C c ρ).bind fun p => (optR (truO p.1)).bind fun t => .ok (t, p.2)) (fun ρ => (evB C b ρ).map (maskFl m)) C.fuel ρ := id rfl
@[simp] theorem evS_for {C : Cfg} : evS C (.for tg it b m) ρ = (evI C it ρ).bind fun p => forR (fun x ρ => (evG C tg x ρ).bind fun ρ' => (evB C b ρ').map (maskFl m)) p.1 p.2 := id rfl
@[simp] theorem evS_ret {C : Cfg} : evS C (.ret e) ρ = (evE C e ρ).bind fun p => .ok (.rt p.1 p.2) := id rfl
@[simp] theorem evS_retv {C : Cfg} : evS C (.retv i) ρ = (optR (gt ρ i)).bind fun d => .ok (.rt d (ρ.set i none)) := id rfl
@[simp] theorem evS_retn {C : Cfg} : evS C (.retn) ρ = .ok (.rt .non ρ) := id rfl
@[simp] theorem evS_rai {C : Cfg} : evS C (.rai k (.cons a .nil)) ρ = (evE C a ρ).bind fun p => .error (.exc k [p.1]) := id rfl
@[simp] theorem evS_try {C : Cfg} : evS C (.try b c i h m) ρ = (match evB C b ρ with
    | .ok r => .ok r
    | .error .stuck => bad
    | .error (.exc c' fs) => if c == 0 || c == c' then (evB C h (st (unset ρ m) i (.exc c' fs))).map (sufFl i) else .error (.exc c' fs)) := id rfl
@[simp] theorem evS_pas {C : Cfg} : evS C (.pas) ρ = .ok (.nx ρ) := id rfl
@[simp] theorem evS_brk {C : Cfg} : evS C (.brk) ρ = .ok (.bk ρ) := id rfl
@[simp] theorem evS_cnt {C : Cfg} : evS C (.cnt) ρ = .ok (.ct ρ) := id rfl
@[simp] theorem evS_frz {C : Cfg} : evS C (.frz z1 z2) ρ = .ok (.nx ρ) := id rfl
@[simp] theorem evS_mask {C : Cfg} : evS C (.mask l) ρ = .ok (.nx (unset ρ l)) := id rfl
@[simp] theorem evB_nil {C : Cfg} : evB C (.nil) ρ = .ok (.nx ρ) := id rfl
@[simp] theorem evB_cons {C : Cfg} : evB C (.cons a b) ρ = (evS C a ρ).bind fun r => (match r with
    | .nx ρ' => evB C b ρ'
    | r => .ok r) := id rfl
end Pz
namespace Pz
section
variable {α β : Type}
/-- m ends well, with Q -/
structure Ok {α : Type} (m : R α) (Q : α → Prop) : Prop where
  ex : ∃ a, m = .ok a ∧ Q a
@[simp] theorem ok_ok (a : α) (Q : α → Prop) : Ok (.ok a) Q = Q a := propext ⟨fun h => (by obtain ⟨_, e, h⟩ := h; cases e; exact h), fun h => ⟨a, rfl, h⟩⟩
@[simp] theorem ok_err (e : Ex) (Q : α → Prop) : Ok (.error e) Q = False := propext ⟨fun h => (by obtain ⟨_, e, _⟩ := h; cases e), fun h => False.elim h⟩
@[simp] theorem ok_bind (m : R α) (f : α → R β) (Q : β → Prop) : Ok (m.bind f) Q = Ok m fun a => Ok (f a) Q := by
  cases m with
  | ok a => rw [ok_ok]; rfl
  | error e => rw [ok_err]; exact ok_err e Q
@[simp] theorem bind_okk (a : α) (f : α → R β) : (Except.ok a : R α).bind f = f a := id rfl
@[simp] theorem map_okk (a : α) (f : α → β) : (Except.ok a : R α).map f = .ok (f a) := id rfl
@[simp] theorem optR_some (a : α) : optR (some a) = .ok a := id rfl
@[simp] theorem ok_map {f : α → β} {m : R α} {Q : β → Prop} : Ok (m.map f) Q = Ok m fun a => Q (f a) := by
  cases m with
  | ok a => rw [ok_ok]; exact ok_ok _ _
  | error e => rw [ok_err]; exact ok_err _ _
@[simp] theorem nox_ok {α : Type} (m : R α) (Q : α → Prop) : Ok (nox m) Q = Ok m Q := by
  cases m with
  | ok a => rfl
  | error e => rw [ok_err]; exact ok_err _ _
@[simp] theorem bind_errr {α β : Type} (e : Ex) (f : α → R β) : (Except.error e : R α).bind f = .error e := id rfl
@[simp] theorem map_errr {α β : Type} (e : Ex) (f : α → β) : (Except.error e : R α).map f = .error e := id rfl
@[simp] theorem sufFl_nx (i : Nat) (ρ : Env) : sufFl i (.nx ρ) = .nx (ρ.set i none) := id rfl
@[simp] theorem isTs_cls (d : D) (j : Nat) : isTs d [.cls j] = isCls j d := id rfl
@[simp] theorem isCls_exc (j k : Nat) (fs : List D) : isCls j (.exc k fs) = some (j == 0 || j == k) := id rfl
@[simp] theorem isCls_non (j : Nat) : isCls j .non = some false := id rfl
@[simp] theorem attrD_exc (k : Nat) (d : D) : attrD 0 (.exc k [d]) = some d := id rfl
@[simp] theorem isNon_exc (k : Nat) (fs : List D) : cmpB .is (.exc k fs) .non = some false := id rfl
@[simp] theorem isNon_non : cmpB .is .non .non = some true := id rfl
@[simp] theorem isnotNon_exc (k : Nat) (fs : List D) : cmpB .isnot (.exc k fs) .non = some true := id rfl
@[simp] theorem isnotNon_non : cmpB .isnot .non .non = some false := id rfl
@[simp] theorem gt_0 (d : D) (ρ : Env) : gt (some d :: ρ) 0 = some d := id rfl
@[simp] theorem gt_s (o : Option D) (ρ : Env) (i : Nat) : gt (o :: ρ) (i + 1) = gt ρ i := id rfl
@[simp] theorem st_0 (o : Option D) (d : D) (ρ : Env) : st (o :: ρ) 0 d = some d :: ρ := id rfl
@[simp] theorem st_s (o : Option D) (d : D) (ρ : Env) (i : Nat) : st (o :: ρ) (i + 1) d = o :: st ρ i d := id rfl
@[simp] theorem unset_nil (ρ : Env) : unset ρ [] = ρ := id rfl
@[simp] theorem unset_cons (ρ : Env) (i : Nat) (l : List Nat) : unset ρ (i :: l) = unset (ρ.set i none) l := id rfl
@[simp] theorem lend_nil (ρ : Env) (as : List D) : lend ρ as [] = some as := id rfl
@[simp] theorem lend_cons (ρ : Env) (as : List D) (j i : Nat) (l : List (Nat × Nat)) : lend ρ as ((j, i) :: l) = (gt ρ i).bind fun d => lend ρ (as.set j d) l := id rfl
@[simp] theorem setIO_nil (ρ : Env) (os : List D) : setIO ρ [] os = ρ := by cases os <;> rfl
@[simp] theorem setIO_cons (ρ : Env) (j i : Nat) (l : List (Nat × Nat)) (d : D) (ds : List D) : setIO ρ ((j, i) :: l) (d :: ds) = setIO (st ρ i d) l ds := id rfl
@[simp] theorem truO_bl (b : Bool) : truO (.bl b) = some b := id rfl
@[simp] theorem maskFl_nx (m : List Nat) (ρ : Env) : maskFl m (.nx ρ) = .nx (unset ρ m) := id rfl
@[simp] theorem maskFl_rt (m : List Nat) (d : D) (ρ : Env) : maskFl m (.rt d ρ) = .rt d ρ := id rfl
@[simp] theorem maskFl_bk (m : List Nat) (ρ : Env) : maskFl m (.bk ρ) = .bk (unset ρ m) := id rfl
@[simp] theorem maskFl_ct (m : List Nat) (ρ : Env) : maskFl m (.ct ρ) = .ct (unset ρ m) := id rfl
@[simp] theorem outs_nil (ρ : Env) : outs ρ [] = some [] := id rfl
@[simp] theorem outs_cons (ρ : Env) (i : Nat) (l : List Nat) : outs ρ (i :: l) = (gt ρ i).bind fun d => (outs ρ l).map (d :: ·) := id rfl
@[simp] theorem endFn_nx (f : Fn) (ρ : Env) : endFn f (.nx ρ) = (optR (outs ρ f.io)).bind fun o => .ok (.non, o) := id rfl
@[simp] theorem endFn_rt (f : Fn) (d : D) (ρ : Env) : endFn f (.rt d ρ) = (optR (outs ρ f.io)).bind fun o => .ok (d, o) := id rfl
@[simp] theorem isNonT_non : isNonT .non = true := id rfl
@[simp] theorem partR_tt (f : Env → R (D × Env)) (ρ : Env) : partR true f ρ = .ok (none, ρ) := id rfl
@[simp] theorem partR_ff (f : Env → R (D × Env)) (ρ : Env) : partR false f ρ = (f ρ).bind fun p => (optR (intO p.1)).bind fun i => .ok (some i, p.2) := id rfl
@[simp] theorem intO_int (i : Int) : intO (.int i) = some i := id rfl
@[simp] theorem back_nil (ρ ρ' : Env) : back ρ ρ' [] = ρ' := id rfl
@[simp] theorem itemsD_lst (l : List D) : itemsD (.lst l) = some l := id rfl
@[simp] theorem itemsD_tup (l : List D) : itemsD (.tup l) = some l := id rfl
@[simp] theorem itemsD_str (s : List Nat) : itemsD (.str s) = some (s.map fun c => .str [c]) := id rfl
@[simp] theorem lenD_lst (l : List D) : lenD (.lst l) = some (.int l.length) := id rfl
@[simp] theorem lenD_tup (l : List D) : lenD (.tup l) = some (.int l.length) := id rfl
@[simp] theorem cmpB_lt (i j : Int) : cmpB .lt (.int i) (.int j) = some (decide (i < j)) := id rfl
@[simp] theorem cmpB_gt (i j : Int) : cmpB .gt (.int i) (.int j) = some (decide (j < i)) := id rfl
@[simp] theorem cmpB_le (i j : Int) : cmpB .le (.int i) (.int j) = some (decide (i ≤ j)) := id rfl
@[simp] theorem cmpB_ge (i j : Int) : cmpB .ge (.int i) (.int j) = some (decide (j ≤ i)) := id rfl
@[simp] theorem binD_sub (i j : Int) : binD .sub (.int i) (.int j) = some (.int (i - j)) := id rfl
@[simp] theorem binD_add (i j : Int) : binD .add (.int i) (.int j) = some (.int (i + j)) := id rfl
@[simp] theorem bi_len (d : D) : biD .len [d] = lenD d := id rfl
@[simp] theorem bi_int (i : Int) : biD .int [.int i] = some (.int i) := id rfl
@[simp] theorem bi_repr (d : D) : biD .repr [d] = reprD d := id rfl
@[simp] theorem runFn_eq (C : Cfg) (f : Fn) (as : List D) : runFn C f as = if as.length = f.np then (evB C f.body (initE f as)).bind (endFn f) else bad := id rfl
theorem run_succ (P : Prog) (n f : Nat) (as : List D) : run P (n + 1) f as = (optR (P.fn f)).bind fun F => runFn { call := run P n, glob := P.glob, fuel := FUEL } F as := id rfl
end
end Pz
end
section
set_option Elab.async false
set_option linter.all false
/-! What the evaluator's runs come to: rules for proofs about them. -/
namespace Pz

section
variable {α β : Type}
theorem Ok.mono {m : R α} {Q Q' : α → Prop} (h : Ok m Q) (i : ∀ a, Q a → Q' a) : Ok m Q' := by
  obtain ⟨a, e, h⟩ := h
  exact ⟨a, e, i a h⟩
theorem Ok.of_eq {m : R α} {a : α} {Q : α → Prop} (e : m = .ok a) (h : Q a) : Ok m Q := ⟨a, e, h⟩
theorem Ok.eq {m : R α} {a : α} (h : Ok m fun x => x = a) : m = .ok a := by
  obtain ⟨x, e, rfl⟩ := h
  exact e
theorem eq_ok {m : R α} {a : α} (h : m = .ok a) : Ok m fun x => x = a := ⟨a, h, rfl⟩
end
/-- a walk with an invariant -/
theorem forR_inv {f : D → Env → R Fl} {Q : Fl → Prop} : ∀ (l : List D) (I : List D → Env → Prop) (ρ : Env), I l ρ → (∀ x r ρ, (∃ p, l = p ++ x :: r) → I (x :: r) ρ → Ok (f x ρ) fun fl => match fl with
    | .nx ρ' => I r ρ'
    | .ct ρ' => I r ρ'
    | .bk ρ' => Q (.nx ρ')
    | .rt d ρ' => Q (.rt d ρ')) → (∀ ρ, I [] ρ → Q (.nx ρ)) → Ok (forR f l ρ) Q
  | [], I, ρ, h, _, e => .of_eq rfl (e ρ h)
  | x :: l, I, ρ, h, s, e => by
    show Ok ((f x ρ).bind _) Q
    rw [ok_bind]
    refine (s x l ρ ⟨[], rfl⟩ h).mono fun fl hf => ?_
    cases fl with
    | nx ρ' => exact forR_inv l I ρ' hf (fun y r ρ2 ⟨p, hp⟩ => s y r ρ2 ⟨x :: p, by rw [hp]; rfl⟩) e
    | ct ρ' => exact forR_inv l I ρ' hf (fun y r ρ2 ⟨p, hp⟩ => s y r ρ2 ⟨x :: p, by rw [hp]; rfl⟩) e
    | bk ρ' => exact .of_eq rfl hf
    | rt d ρ' => exact .of_eq rfl hf
/-- a comprehension with an invariant -/
theorem compR_inv {α : Type} {f : D → Env → α → R (α × Env)} {Q : α × Env → Prop} : ∀ (l : List D) (I : List D → α → Env → Prop) (ρ : Env) (a : α), I l a ρ → (∀ x r ρ a, (∃ p, l = p ++ x :: r) → I (x :: r) a ρ → Ok (f x ρ a) fun q => I r q.1 q.2) →
    (∀ a ρ, I [] a ρ → Q (a, ρ)) → Ok (compR f l ρ a) Q
  | [], I, ρ, a, h, _, e => .of_eq rfl (e a ρ h)
  | x :: l, I, ρ, a, h, s, e => by
    show Ok ((f x ρ a).bind _) Q
    rw [ok_bind]
    exact (s x l ρ a ⟨[], rfl⟩ h).mono fun q hq => compR_inv l I q.2 q.1 hq (fun y r ρ2 a2 ⟨p, hp⟩ => s y r ρ2 a2 ⟨x :: p, by rw [hp]; rfl⟩) e
/-- a filter and map that keeps a slot list -/
theorem compR_filter {f : D → Env → List D → R (List D × Env)} (g : D → Option D) (I : Env → Prop) : ∀ (l : List D) (ρ : Env) (acc : List D), I ρ →
    (∀ x ∈ l, ∀ ρ acc, I ρ → acc.length < lim → Ok (f x ρ acc) fun q => q.1 = acc ++ (g x).toList ∧ I q.2) → acc.length + l.length ≤ lim → Ok (compR f l ρ acc) fun q => q.1 = acc ++ l.filterMap g ∧ I q.2
  | [], ρ, acc, h, _, _ => .of_eq rfl ⟨by simp, h⟩
  | x :: l, ρ, acc, h, s, z => by
    show Ok ((f x ρ acc).bind _) _
    rw [ok_bind]
    rw [List.length_cons] at z
    refine (s x List.mem_cons_self ρ acc h (by omega)).mono fun q hq => ?_
    obtain ⟨a1, ρ1⟩ := q
    obtain ⟨h1, h2⟩ := hq
    replace h1 : a1 = acc ++ (g x).toList := h1
    subst h1
    refine (compR_filter g I l ρ1 _ h2 (fun y hy => s y (List.mem_cons_of_mem _ hy)) ?_).mono fun q hq => ⟨?_, hq.2⟩
    · have : (g x).toList.length ≤ 1 := by cases g x <;> simp
      rw [List.length_append]; omega
    · rw [hq.1, List.filterMap_cons]
      cases g x <;> simp
/-- items at which nothing changes -/
theorem forR_skip {f : D → Env → R Fl} {ρ : Env} {r : List D} : ∀ l : List D, (∀ x ∈ l, f x ρ = .ok (.nx ρ)) → forR f (l ++ r) ρ = forR f r ρ
  | [], _ => rfl
  | x :: l, h => by
    show (f x ρ).bind _ = _
    rw [h x List.mem_cons_self]
    exact forR_skip l fun y hy => h y (List.mem_cons_of_mem _ hy)
theorem forR_err {f : D → Env → R Fl} {ρ : Env} {x : D} {r : List D} {e : Ex} (h : f x ρ = .error e) : forR f (x :: r) ρ = .error e := by
  show (f x ρ).bind _ = _
  rw [h]; rfl
mutual
/-- plain data is equal to itself -/
theorem eqD_refl : ∀ (d : D) (n : Nat), okD n d = true → eqD d d = true
  | .non, _, _ => rfl
  | .bl b, _, _ => by show (b == b) = true; exact beq_self_eq_true b
  | .int i, _, _ => by show (i == i) = true; exact beq_self_eq_true i
  | .str s, _, _ => by show (s == s) = true; exact beq_self_eq_true s
  | .lst l, 0, h => by cases h
  | .lst l, n + 1, h => eqL_refl l n h
  | .tup l, 0, h => by cases h
  | .tup l, n + 1, h => eqL_refl l n h
  | .dic _ _, n, h => by cases n <;> cases h
  | .set _, n, h => by cases n <;> cases h
  | .fn _, n, h => by cases n <;> cases h
  | .exc _ _, n, h => by cases n <;> cases h
theorem eqL_refl : ∀ (l : List D) (n : Nat), okL n l = true → eqL l l = true
  | [], _, _ => rfl
  | x :: l, n, h => by
    have h : (okD n x && okL n l) = true := h
    rw [Bool.and_eq_true] at h
    show (eqD x x && eqL l l) = true
    rw [eqD_refl x n h.1, eqL_refl l n h.2]; rfl
end
theorem eq_self {d : D} (h : okD 60 d = true) : cmpB .eq d d = some true := by
  show (if okD 60 d && okD 60 d then some (eqD d d) else none) = _
  rw [h, eqD_refl d 60 h]; rfl
theorem ne_self {d : D} (h : okD 60 d = true) : cmpB .ne d d = some false := by
  show (eqO d d).map (!·) = _
  rw [show eqO d d = some true from eq_self h]; rfl
end Pz
end
section
set_option Elab.async false
set_option linter.all false
set_option maxRecDepth 100000
/-! The laws' generator: hash, cell, generator, random, pick. -/
namespace Pz
/-- _law_hash -/
def f161 : Fn := { np := 2, io := [], ns := 3, body := (.cons (.asg (.v 2) (.bin .mod (.bi .int (.cons (.bin .add (.bin .add (.bin .add (.bin .mul (.v 0) (.int 1140671)) (.bin .mul (.bin .mul (.int 27644437) (.v 1)) (.v 1))) (.bin .mul (.int 131) (.v 1))) (.int 19)) .nil)) (.int 2147483629))) (.cons (.asg (.v 2) (.bin .mod (.bi .int (.cons (.bin .add (.bin .add (.bin .mul (.v 2) (.v 2)) (.bin .mul (.int 62089) (.v 1))) (.int 32416187)) .nil)) (.int 2147483587))) (.cons (.ret (.bin .mod (.bi .int (.cons (.bin .mul (.v 2) (.int 48271)) .nil)) (.int 2147483647))) .nil))) }
/-- _law_cell -/
def f163 : Fn := { np := 2, io := [], ns := 2, body := (.cons (.sif (.cmp .lt (.v 1) (.bi .len (.cons (.v 0) .nil))) (.cons (.ret (.idx (.v 0) (.v 1))) .nil) .nil) (.cons (.ret (.bin .mod (.bi .sum (.cons (.slc (.v 0) .non (.int 1)) .nil)) (.int 1000003))) .nil)) }
/-- _law_generator -/
def f164 : Fn := { np := 2, io := [], ns := 3, body := (.cons (.asg (.v 2) (.call 163 (.cons (.v 0) (.cons (.v 1) .nil)) [])) (.cons (.ret (.lst 1 (.cons (.bin .mod (.bi .int (.cons (.bi .max2 (.cons (.bin .sub (.v 2) (.bin .pow (.int 10) (.int 18))) (.cons (.int 0) .nil))) .nil)) (.bin .pow (.bin .pow (.int 10) (.int 60)) (.int 10))) (.cons (.bin .mod (.bi .int (.cons (.v 2) .nil)) (.int 2147483647)) (.cons (.bin .mul (.int 1000) (.v 1)) .nil))))) .nil)) }
/-- _law_random -/
def f162 : Fn := { np := 2, io := [0], ns := 4, body := (.cons (.sif (.cmp .gt (.idx (.v 0) (.int 0)) (.int 0)) (.cons (.asg (.v 2) (.bin .mod (.bi .int (.cons (.idx (.v 0) (.int 0)) .nil)) (.v 1))) (.cons (.asg (.idx (.v 0) (.int 0)) (.bin .fdiv (.idx (.v 0) (.int 0)) (.v 1))) (.cons (.retv 2) .nil))) .nil) (.cons (.asg (.v 2) (.int 0)) (.cons (.for (.v 3) (.rng (.cons (.bin .add (.int 1) (.bin .fdiv (.me .bitlen (.v 1) .nil) (.int 30))) .nil)) (.cons (.asg (.idx (.v 0) (.int 2)) (.bin .add (.idx (.v 0) (.int 2)) (.int 1))) (.cons (.asg (.v 2) (.bin .add (.bin .mul (.v 2) (.int 2147483587)) (.call 161 (.cons (.idx (.v 0) (.int 1)) (.cons (.idx (.v 0) (.int 2)) .nil)) []))) .nil)) [3]) (.cons (.ret (.bin .mod (.bi .int (.cons (.v 2) .nil)) (.v 1))) .nil)))) }
/-- _law_pick -/
def f165 : Fn := { np := 2, io := [0], ns := 2, body := (.cons (.ret (.idx (.v 1) (.call 162 (.cons (.v 0) (.cons (.bi .len (.cons (.v 1) .nil)) .nil)) [(0, 0)]))) .nil) }

theorem binD_mul {i j : Int} (h : i.natAbs < 2 ^ 64 ∨ j.natAbs < 2 ^ 64) : binD .mul (.int i) (.int j) = some (.int (i * j)) := by
  show (if mulOk i j then some (D.int (i * j)) else none) = _
  rw [if_pos]
  unfold mulOk
  rcases h with h | h <;> simp [h]
theorem binD_mod {i j : Int} (h : 0 < j) : binD .mod (.int i) (.int j) = some (.int (i % j)) := by
  show (if j ≠ 0 then some (D.int (i.fmod j)) else none) = _
  rw [if_pos (by omega), Int.fmod_eq_emod_of_nonneg i (by omega)]
theorem binD_fdiv {i j : Int} (h : 0 < j) (h2 : j.natAbs.log2 < 8000) : binD .fdiv (.int i) (.int j) = some (.int (i / j)) := by
  show (if j ≠ 0 ∧ j.natAbs.log2 < 8000 then some (D.int (i.fdiv j)) else none) = _
  rw [if_pos ⟨by omega, h2⟩, Int.fdiv_eq_ediv_of_nonneg i (by omega)]
section
variable {P : Prog}
theorem hash_ok (h : P.fn 161 = some f161) {n : Nat} {s i : Int} (h1 : 0 ≤ s) (h2 : s < 2 ^ 31) (h3 : 0 ≤ i) (h4 : i < 2 ^ 62) : ∃ r : Int, run P (n + 1) 161 [.int s, .int i] = .ok (.int r, []) ∧ 0 ≤ r ∧ r < 2147483647 := by
  rw [run_succ, h]
  have e1 := binD_mul (i := s) (j := 1140671) (.inr (by decide))
  have e2 := binD_mul (i := 27644437) (j := i) (.inl (by decide))
  have e3 := binD_mul (i := 27644437 * i) (j := i) (.inr (by omega))
  have e4 := binD_mul (i := 131) (j := i) (.inl (by decide))
  generalize hm : (s * 1140671 + 27644437 * i * i + 131 * i + 19) % 2147483629 = m
  have m1 : 0 ≤ m ∧ m < 2147483629 := by rw [← hm]; exact ⟨Int.emod_nonneg _ (by decide), Int.emod_lt_of_pos _ (by decide)⟩
  have e5 := binD_mul (i := m) (j := m) (.inl (by omega))
  have e6 := binD_mul (i := 62089) (j := i) (.inl (by decide))
  generalize hk : (m * m + 62089 * i + 32416187) % 2147483587 = k
  have e7 := binD_mul (i := k) (j := 48271) (.inr (by decide))
  refine ⟨(k * 48271) % 2147483647, ?_, Int.emod_nonneg _ (by decide), Int.emod_lt_of_pos _ (by decide)⟩
  refine Ok.eq ?_
  simp [f161, initE, e1, e2, e3, e4, binD_mod, hm, e5, e6, hk, e7]

/-- the generator, with room for K turns more -/
def Gn (K : Int) (g : D) : Prop := ∃ a b c : Int, g = .lst [.int a, .int b, .int c] ∧ 0 ≤ a ∧ 0 ≤ b ∧ b < 2 ^ 31 ∧ 0 ≤ c ∧ 0 ≤ K ∧ c + K < 2 ^ 62
theorem Gn.mono {K J : Int} {g : D} (h : Gn K g) (z : J ≤ K) (z0 : 0 ≤ J) : Gn J g := by
  obtain ⟨a, b, c, e, h1, h2, h3, h4, h5, h6⟩ := h
  exact ⟨a, b, c, e, h1, h2, h3, h4, z0, by omega⟩
theorem getD3_0 {a b c : D} : getD (.lst [a, b, c]) (.int 0) = some a := rfl
theorem getD3_1 {a b c : D} : getD (.lst [a, b, c]) (.int 1) = some b := rfl
theorem getD3_2 {a b c : D} : getD (.lst [a, b, c]) (.int 2) = some c := rfl
theorem set3_0 {a b c d : D} : updAt (setItemD (.int 0) d) [] (.lst [a, b, c]) = some (.lst [d, b, c]) := rfl
theorem set3_2 {a b c d : D} : updAt (setItemD (.int 2) d) [] (.lst [a, b, c]) = some (.lst [a, b, d]) := rfl
theorem bitLen_le {b : Int} (h1 : 0 < b) (h2 : b < 2 ^ 59) : 1 + (bitLen b : Int) / 30 ≤ 2 ∧ 0 ≤ (bitLen b : Int) := by
  unfold bitLen
  have h0 : (b == 0) = false := by simp; omega
  rw [h0]
  have : b.natAbs.log2 < 59 := (Nat.log2_lt (by omega)).mpr (by omega)
  simp only [Bool.false_eq_true, if_false]
  omega
theorem random_ok (h : P.fn 161 = some f161) (h' : P.fn 162 = some f162) {n : Nat} {K b : Int} {g : D} (hK : 0 ≤ K) (hg : Gn (K + 2) g) (hb : 0 < b) (hb2 : b < 2 ^ 59) :
    ∃ (d : Int) (g' : D), run P (n + 2) 162 [g, .int b] = .ok (.int d, [g']) ∧ 0 ≤ d ∧ d < b ∧ Gn K g' := by
  obtain ⟨x, s, c, rfl, hx, hs, hs2, hc, _, hc2⟩ := hg
  have lg : b.natAbs.log2 < 8000 := by
    have : b.natAbs.log2 < 59 := (Nat.log2_lt (by omega)).mpr (by omega)
    omega
  suffices hh : Ok (run P (n + 2) 162 [.lst [.int x, .int s, .int c], .int b]) fun r => ∃ (d : Int) (g' : D), r = (.int d, [g']) ∧ 0 ≤ d ∧ d < b ∧ Gn K g' by
    obtain ⟨r, e, d, g', rfl, h1, h2, h3⟩ := hh.ex
    exact ⟨d, g', e, h1, h2, h3⟩
  rw [run_succ, h']
  by_cases h0 : 0 < x
  · have e1 := binD_mod (i := x) hb
    have e2 := binD_fdiv (i := x) hb lg
    simp [f162, initE, getD3_0, h0, e1, e2, set3_0]
    exact ⟨_, _, ⟨rfl, rfl⟩, Int.emod_nonneg _ (by omega), Int.emod_lt_of_pos _ hb, _, _, _, rfl, Int.ediv_nonneg hx (by omega), hs, hs2, hc, hK, by omega⟩
  · have eb : meD .bitlen (.int b) [] = some (.int (bitLen b)) := rfl
    obtain ⟨l1, l2⟩ := bitLen_le hb hb2
    have e1 := binD_fdiv (i := (bitLen b : Int)) (j := 30) (by decide) (by decide)
    have er : rngD [.int (1 + (bitLen b : Int) / 30)] = some (rangeL 0 (1 + (bitLen b : Int) / 30)) := if_pos (by unfold small; rw [decide_eq_true_eq]; omega)
    have e0 := fun i : Int => binD_mod (i := i) hb
    simp [f162, initE, getD3_0, h0, eb, e1, er]
    generalize hl : rangeL 0 (1 + (bitLen b : Int) / 30) = l
    have ll : l.length ≤ 2 := by rw [← hl]; unfold rangeL; rw [List.length_map, List.length_range]; omega
    refine forR_inv l (fun r ρ => ∃ c' d : Int, ρ = [some (.lst [.int x, .int s, .int c']), some (.int b), some (.int d), none] ∧ 0 ≤ c' ∧ c' + K + r.length < 2 ^ 62) _ ⟨c, 0, rfl, hc, by omega⟩ ?_ ?_
    · rintro y r ρ _ ⟨c', d, rfl, g1, g2⟩
      rw [List.length_cons] at g2
      obtain ⟨v, hv, _, _⟩ := hash_ok h (n := n) hs hs2 (show 0 ≤ c' + 1 by omega) (show c' + 1 < 2 ^ 62 by omega)
      have em := binD_mul (i := d) (j := 2147483587) (.inr (by decide))
      simp [getD3_2, getD3_1, set3_2, hv, em]
      omega
    · rintro ρ ⟨c', d, rfl, g1, g2⟩
      simp [e0]
      exact ⟨_, _, ⟨rfl, rfl⟩, Int.emod_nonneg _ (by omega), Int.emod_lt_of_pos _ hb, _, _, _, rfl, hx, hs, hs2, g1, hK, by simpa using g2⟩
theorem ixI_ok {n : Nat} {d : Int} (h1 : 0 ≤ d) (h2 : d < n) : ixI n d = some d.toNat := by
  unfold ixI
  rw [if_pos h1, if_pos (by omega)]
theorem pick_ok (h : P.fn 161 = some f161) (h' : P.fn 162 = some f162) {pk : Nat} (h2 : P.fn pk = some f165) {n : Nat} {K : Int} {g : D} {l : List D} (hK : 0 ≤ K) (hg : Gn (K + 2) g) (hl : l ≠ []) (hl2 : l.length < 1000000) :
    ∃ (x g' : D), run P (n + 3) pk [g, .lst l] = .ok (x, [g']) ∧ x ∈ l ∧ Gn K g' := by
  have l0 : 0 < l.length := List.length_pos_iff.mpr hl
  obtain ⟨d, g', e, d0, d1, hg'⟩ := random_ok h h' (n := n) hK hg (b := (l.length : Int)) (by omega) (by omega)
  have hx : d.toNat < l.length := by omega
  refine ⟨l[d.toNat], g', Ok.eq ?_, List.getElem_mem hx, hg'⟩
  rw [run_succ, h2]
  have eg : getD (.lst l) (.int d) = some l[d.toNat] := by
    show ((ixI l.length d).bind fun n => l[n]?) = _
    rw [ixI_ok d0 d1]
    exact List.getElem?_eq_getElem hx
  simp [f165, initE, e, eg]
theorem pickS_ok (h : P.fn 161 = some f161) (h' : P.fn 162 = some f162) {pk : Nat} (h2 : P.fn pk = some f165) {n : Nat} {K : Int} {g : D} {l : List Nat} (hK : 0 ≤ K) (hg : Gn (K + 2) g) (hl : l ≠ []) (hl2 : l.length < 1000000) :
    ∃ (x : Nat) (g' : D), run P (n + 3) pk [g, .str l] = .ok (.str [x], [g']) ∧ x ∈ l ∧ Gn K g' := by
  have l0 : 0 < l.length := List.length_pos_iff.mpr hl
  obtain ⟨d, g', e, d0, d1, hg'⟩ := random_ok h h' (n := n) hK hg (b := (l.length : Int)) (by omega) (by omega)
  have hx : d.toNat < l.length := by omega
  refine ⟨l[d.toNat], g', Ok.eq ?_, List.getElem_mem hx, hg'⟩
  rw [run_succ, h2]
  have lz : l.length ≤ lim := by unfold lim; omega
  have en : lenD (.str l) = some (.int l.length) := if_pos lz
  have eg : getD (.str l) (.int d) = some (.str [l[d.toNat]]) := by
    show (if l.length ≤ lim then ((ixI l.length d).bind fun n => (l[n]?).map fun c => D.str [c]) else none) = _
    rw [if_pos lz, ixI_ok d0 d1]
    show (l[d.toNat]?).map _ = _
    rw [List.getElem?_eq_getElem hx]; rfl
  simp [f165, initE, en, e, eg]
theorem cell_ok (h : P.fn 163 = some f163) {n : Nat} {ns : List Int} {i : Int} (hi : 0 ≤ i) : ∃ v : Int, run P (n + 1) 163 [.lst (ns.map D.int), .int i] = .ok (.int v, []) := by
  suffices hh : Ok (run P (n + 1) 163 [.lst (ns.map D.int), .int i]) fun r => ∃ v : Int, r = (.int v, []) by
    obtain ⟨r, e, v, rfl⟩ := hh.ex
    exact ⟨v, e⟩
  rw [run_succ, h]
  by_cases hl : i < ns.length
  · have hx : i.toNat < ns.length := by omega
    have eg : getD (.lst (ns.map D.int)) (.int i) = some (.int ns[i.toNat]) := by
      show ((ixI (ns.map D.int).length i).bind fun n => (ns.map D.int)[n]?) = _
      rw [List.length_map, ixI_ok hi hl]
      show (ns.map D.int)[i.toNat]? = _
      rw [List.getElem?_map, List.getElem?_eq_getElem hx]; rfl
    simp [f163, initE, hl, eg]
  · have es : ∃ v : Int, biD .sum [.lst (slcL (ns.map D.int) none (some 1))] = some (.int v) := by
      cases ns with
      | nil => exact ⟨0, rfl⟩
      | cons a ns => exact ⟨0 + a, by cases ns <;> rfl⟩
    obtain ⟨v, es⟩ := es
    have ez : slcV none (some 1) (.lst (ns.map D.int)) = some (.lst (slcL (ns.map D.int) none (some 1))) := rfl
    have ei : isNonT (.int 1) = false := rfl
    simp [f163, initE, hl, ez, ei, es, binD_mod]
theorem generator_ok (h : P.fn 163 = some f163) (h' : P.fn 164 = some f164) {n : Nat} {ns : List Int} {i : Int} (hi : 0 ≤ i) (hi2 : i < 100) : ∃ g : D, run P (n + 2) 164 [.lst (ns.map D.int), .int i] = .ok (g, []) ∧ Gn (2 ^ 61) g := by
  obtain ⟨v, e⟩ := cell_ok h (n := n) (ns := ns) hi
  have e1 : binD .pow (.int 10) (.int 18) = some (.int (10 ^ 18)) := by rfl
  have e2 : binD .pow (.int 10) (.int 60) = some (.int (10 ^ 60)) := by rfl
  have e3 : binD .pow (.int (10 ^ 60)) (.int 10) = some (.int ((10 ^ 60) ^ 10)) := by rfl
  have e4 : ∀ x : Int, biD .max2 [.int x, .int 0] = some (.int (if 0 > x then 0 else x)) := fun _ => rfl
  have e5 : binD .mul (.int 1000) (.int i) = some (.int (1000 * i)) := binD_mul (.inl (by decide))
  have e6 := fun x : Int => binD_mod (i := x) (j := (10 ^ 60) ^ 10) (by decide)
  have e7 := fun x : Int => binD_mod (i := x) (j := 2147483647) (by decide)
  refine ⟨.lst [.int ((if 0 > v - 10 ^ 18 then 0 else v - 10 ^ 18) % (10 ^ 60) ^ 10), .int (v % 2147483647), .int (1000 * i)], Ok.eq ?_, _, _, _, rfl, Int.emod_nonneg _ (by decide), Int.emod_nonneg _ (by decide), ?_, by omega, by decide, by omega⟩
  · rw [run_succ, h']
    simp only [optR_some, bind_okk, runFn_eq, f164, initE, List.length_cons, List.length_nil]
    simp [e, e1, e2, e3, e4, e5, e6, e7, -Int.reducePow, -Int.reduceMod]
  · have := Int.emod_lt_of_pos v (show (0 : Int) < 2147483647 by decide)
    omega
end
end Pz
end
section
set_option Elab.async false
set_option linter.all false
/-! Numbers: how long Euclid's way is, lowest terms. No program here. -/
namespace Pz

/-! ### Euclid's way -/
/-- one turn of the law's loop -/
def euT (p : Nat × Nat) : Nat × Nat := if 0 < p.2 then (p.2, p.1 % p.2) else (p.1, 0)
def euN : Nat → Nat × Nat → Nat × Nat
  | 0, p => p
  | n + 1, p => euN n (euT p)
theorem euT_gcd (p : Nat × Nat) : Nat.gcd (euT p).1 (euT p).2 = Nat.gcd p.1 p.2 := by
  unfold euT
  by_cases h : 0 < p.2
  · rw [if_pos h]
    show Nat.gcd p.2 (p.1 % p.2) = _
    rw [Nat.gcd_comm p.2, Nat.gcd_comm p.1, Nat.gcd_rec p.2 p.1]
  · rw [if_neg h]
    have : p.2 = 0 := by omega
    rw [this]
theorem euN_gcd : ∀ (n : Nat) (p : Nat × Nat), Nat.gcd (euN n p).1 (euN n p).2 = Nat.gcd p.1 p.2
  | 0, _ => rfl
  | n + 1, p => by rw [euN, euN_gcd n, euT_gcd]
theorem euN_zero : ∀ (n : Nat) (p : Nat × Nat), p.2 = 0 → (euN n p).2 = 0
  | 0, _, h => h
  | n + 1, p, h => by
    rw [euN]
    refine euN_zero n _ ?_
    unfold euT
    rw [if_neg (by omega)]
/-- 1, 2, 3, 5, 8, .. -/
def fiB : Nat → Nat
  | 0 => 1
  | 1 => 2
  | n + 2 => fiB (n + 1) + fiB n
theorem euN_fib : ∀ (k : Nat) (a b : Nat), 0 < (euN k (a, b)).2 → fiB k ≤ b
  | 0, a, b, h => h
  | 1, a, b, h => by
    have hb : 0 < b := Nat.pos_of_ne_zero fun e => by rw [euN_zero 1 (a, b) e] at h; exact absurd h (Nat.lt_irrefl 0)
    have : 0 < a % b := by
      simp only [euN, euT, if_pos hb] at h
      exact h
    have := Nat.mod_lt a hb
    show 2 ≤ b
    omega
  | k + 2, a, b, h => by
    have hb : 0 < b := Nat.pos_of_ne_zero fun e => by rw [euN_zero (k + 2) (a, b) e] at h; exact absurd h (Nat.lt_irrefl 0)
    have e1 : euN (k + 2) (a, b) = euN (k + 1) (b, a % b) := by rw [euN]; simp only [euT, if_pos hb]
    rw [e1] at h
    have h1 := euN_fib (k + 1) b (a % b) h
    have hm : 0 < a % b := Nat.pos_of_ne_zero fun e => by rw [euN_zero (k + 1) (b, a % b) e] at h; exact absurd h (Nat.lt_irrefl 0)
    have e2 : euN (k + 1) (b, a % b) = euN k (a % b, b % (a % b)) := by rw [euN]; simp only [euT, if_pos hm]
    rw [e2] at h
    have h2 := euN_fib k (a % b) (b % (a % b)) h
    have lt := Nat.mod_lt a hb
    have : b % (a % b) + a % b ≤ b := by
      have h3 := Nat.div_add_mod b (a % b)
      have h4 : 1 ≤ b / (a % b) := (Nat.le_div_iff_mul_le hm).mpr (by omega)
      have h5 : a % b * 1 ≤ a % b * (b / (a % b)) := Nat.mul_le_mul_left _ h4
      omega
    show fiB (k + 1) + fiB k ≤ b
    omega
theorem fiB_two : ∀ k, fiB (k + 1) ≤ 2 * fiB k ∧ 0 < fiB k ∧ fiB k ≤ fiB (k + 1)
  | 0 => by decide
  | k + 1 => by
    have := fiB_two k
    show fiB (k + 1) + fiB k ≤ _ ∧ _ ∧ _ ≤ fiB (k + 1) + fiB k
    omega
theorem fiB_ten : ∀ d, 10 ^ d ≤ fiB (5 * d + 1)
  | 0 => by decide
  | d + 1 => by
    have h := fiB_ten d
    generalize hn : 5 * d + 1 = n at h
    have e : 5 * (d + 1) + 1 = n + 5 := by omega
    rw [e, Nat.pow_succ]
    have h1 := fiB_two n
    obtain ⟨m, rfl⟩ : ∃ m, n = m + 1 := ⟨5 * d, by omega⟩
    have h2 := fiB_two m
    have e1 : fiB (m + 2) = fiB (m + 1) + fiB m := rfl
    have e2 : fiB (m + 3) = fiB (m + 2) + fiB (m + 1) := rfl
    have e3 : fiB (m + 4) = fiB (m + 3) + fiB (m + 2) := rfl
    have e4 : fiB (m + 5) = fiB (m + 4) + fiB (m + 3) := rfl
    have e5 : fiB (m + 6) = fiB (m + 5) + fiB (m + 4) := rfl
    show _ ≤ fiB (m + 6)
    omega
/-- five turns for a figure and one are enough -/
theorem lame {a b d : Nat} (h : b < 10 ^ d) : euN (5 * d + 1) (a, b) = (Nat.gcd a b, 0) := by
  have h0 : (euN (5 * d + 1) (a, b)).2 = 0 := by
    rcases Nat.eq_zero_or_pos (euN (5 * d + 1) (a, b)).2 with e | e
    · exact e
    · have h1 := euN_fib _ a b e
      have h2 := fiB_ten d
      omega
  have h1 := euN_gcd (5 * d + 1) (a, b)
  rw [h0, Nat.gcd_zero_right] at h1
  exact Prod.ext h1 h0
/-- the while loop's length -/
theorem euN_log : ∀ (k a b : Nat), 0 < (euN (2 * k) (a, b)).2 → 2 ^ k ≤ b
  | 0, a, b, h => h
  | k + 1, a, b, h => by
    have hb : 0 < b := Nat.pos_of_ne_zero fun e => by rw [euN_zero (2 * (k + 1)) (a, b) e] at h; exact absurd h (Nat.lt_irrefl 0)
    have e1 : euN (2 * (k + 1)) (a, b) = euN (2 * k + 1) (b, a % b) := by
      show euN (2 * k + 1) (euT (a, b)) = _
      simp only [euT, if_pos hb]
    rw [e1] at h
    have hm : 0 < a % b := Nat.pos_of_ne_zero fun e => by rw [euN_zero (2 * k + 1) (b, a % b) e] at h; exact absurd h (Nat.lt_irrefl 0)
    have e2 : euN (2 * k + 1) (b, a % b) = euN (2 * k) (a % b, b % (a % b)) := by rw [euN]; simp only [euT, if_pos hm]
    rw [e2] at h
    have h2 := euN_log k (a % b) (b % (a % b)) h
    have lt := Nat.mod_lt a hb
    have lt2 := Nat.mod_lt b hm
    have : b % (a % b) + a % b ≤ b := by
      have h3 := Nat.div_add_mod b (a % b)
      have h4 : 1 ≤ b / (a % b) := (Nat.le_div_iff_mul_le hm).mpr (by omega)
      have h5 : a % b * 1 ≤ a % b * (b / (a % b)) := Nat.mul_le_mul_left _ h4
      omega
    rw [Nat.pow_succ]
    omega
/-- figures of a number -/
theorem figs_len {n : Nat} : n < 10 ^ (Nat.toDigits 10 n).length := by
  rcases Nat.lt_or_ge n (10 ^ (Nat.toDigits 10 n).length) with h | h
  · exact h
  · have := PyProof.Rows.digits10_ge h
    omega

/-! ### lowest terms -/
def gI (a b : Int) : Int := (Nat.gcd a.natAbs b.natAbs : Nat)
def red (a b : Int) : Int × Int := if b < 0 then (-a / gI a b, -b / gI a b) else (a / gI a b, b / gI a b)
theorem gI_pos {a b : Int} (h : b ≠ 0) : 0 < gI a b := by
  unfold gI
  have := Nat.gcd_pos_of_pos_right a.natAbs (show 0 < b.natAbs by omega)
  omega
theorem gI_dl (a b : Int) : gI a b ∣ a := Int.ofNat_dvd_left.mpr (Nat.gcd_dvd_left _ _)
theorem gI_dr (a b : Int) : gI a b ∣ b := Int.ofNat_dvd_left.mpr (Nat.gcd_dvd_right _ _)
theorem gI_mul {a b t : Int} (h : 0 < t) : gI (a * t) (b * t) = gI a b * t := by
  unfold gI
  rw [Int.natAbs_mul, Int.natAbs_mul, Nat.gcd_mul_right]
  have : ((t.natAbs : Nat) : Int) = t := by omega
  rw [Int.natCast_mul, this]
theorem gI_neg {a b : Int} : gI (-a) (-b) = gI a b := by
  unfold gI
  rw [Int.natAbs_neg, Int.natAbs_neg]
theorem red_mul {a b t : Int} (h : 0 < t) : red (a * t) (b * t) = red a b := by
  unfold red
  rw [gI_mul h]
  have e : b * t < 0 ↔ b < 0 := ⟨fun z => by
    rcases Int.lt_or_le b 0 with y | y
    · exact y
    · have := Int.mul_nonneg y (Int.le_of_lt h)
      omega, fun z => Int.mul_neg_of_neg_of_pos z h⟩
  have d : ∀ x : Int, x * t / (gI a b * t) = x / gI a b := fun x => Int.mul_ediv_mul_of_pos_left _ _ h
  by_cases hb : b < 0
  · rw [if_pos (e.mpr hb), if_pos hb, ← Int.neg_mul, ← Int.neg_mul, d, d]
  · rw [if_neg (fun z => hb (e.mp z)), if_neg hb, d, d]
theorem red_neg {a b : Int} (h : b ≠ 0) : red (-a) (-b) = red a b := by
  unfold red
  rw [gI_neg]
  by_cases hb : b < 0
  · rw [if_neg (by omega), if_pos hb]
  · rw [if_pos (by omega), if_neg hb, Int.neg_neg, Int.neg_neg]
theorem red_id {a b : Int} (h : 0 < b) (g : gI a b = 1) : red a b = (a, b) := by
  unfold red
  rw [if_neg (by omega), g, Int.ediv_one, Int.ediv_one]
/-- a fraction -/
def isF (a b : Int) : Bool := decide (1 ≤ b) && decide (gI a b = 1)
theorem red_pos {a b : Int} (h : b ≠ 0) : 0 < (red a b).2 := by
  have g := gI_pos (a := a) h
  unfold red
  by_cases hb : b < 0
  · rw [if_pos hb]
    exact Int.ediv_pos_of_pos_of_dvd (by omega) (by omega) ((Int.dvd_neg).mpr (gI_dr a b))
  · rw [if_neg hb]
    exact Int.ediv_pos_of_pos_of_dvd (by omega) (by omega) (gI_dr a b)
theorem natAbs_div {x g : Int} (hg : 0 < g) (h : g ∣ x) : (x / g).natAbs = x.natAbs / g.natAbs := by
  obtain ⟨k, rfl⟩ := h
  rw [Int.mul_ediv_cancel_left _ (by omega), Int.natAbs_mul, Nat.mul_div_cancel_left _ (by omega)]
theorem red_abs {a b : Int} (h : b ≠ 0) : (red a b).1.natAbs = a.natAbs / (gI a b).natAbs ∧ (red a b).2.natAbs = b.natAbs / (gI a b).natAbs := by
  have g := gI_pos (a := a) h
  unfold red
  by_cases hb : b < 0
  · rw [if_pos hb]
    refine ⟨?_, ?_⟩
    · show (-a / gI a b).natAbs = _
      rw [natAbs_div g ((Int.dvd_neg).mpr (gI_dl a b)), Int.natAbs_neg]
    · show (-b / gI a b).natAbs = _
      rw [natAbs_div g ((Int.dvd_neg).mpr (gI_dr a b)), Int.natAbs_neg]
  · rw [if_neg hb]
    exact ⟨natAbs_div g (gI_dl a b), natAbs_div g (gI_dr a b)⟩
theorem red_gcd {a b : Int} (h : b ≠ 0) : gI (red a b).1 (red a b).2 = 1 := by
  have g := gI_pos (a := a) h
  obtain ⟨e1, e2⟩ := red_abs (a := a) h
  unfold gI at *
  rw [e1, e2, Int.natAbs_natCast, Nat.gcd_div_gcd_div_gcd_of_pos_right (by omega)]
  rfl
theorem red_isF {a b : Int} (h : b ≠ 0) : isF (red a b).1 (red a b).2 = true := by
  unfold isF
  rw [red_gcd h]
  have := red_pos (a := a) h
  simp
  omega
theorem red_le {a b : Int} (h : b ≠ 0) : (red a b).1.natAbs ≤ a.natAbs ∧ (red a b).2.natAbs ≤ b.natAbs := by
  obtain ⟨e1, e2⟩ := red_abs (a := a) h
  rw [e1, e2]
  exact ⟨Nat.div_le_self _ _, Nat.div_le_self _ _⟩
theorem red_isF_iff {a b : Int} : isF a b = (decide (0 < b) && decide (red a b = (a, b))) := by
  unfold isF
  by_cases hb : 0 < b
  · have h1 : 1 ≤ b := by omega
    rw [decide_eq_true hb, decide_eq_true h1, Bool.true_and, Bool.true_and, decide_eq_decide]
    refine ⟨red_id hb, fun e => ?_⟩
    have := red_gcd (a := a) (b := b) (by omega)
    rw [e] at this
    exact this
  · have h1 : ¬ 1 ≤ b := by omega
    rw [decide_eq_false hb, decide_eq_false h1]; rfl
/-- the program's divisions: by the common part, with below's sign -/
theorem fdiv_neg {x g : Int} (hg : 0 < g) (h : g ∣ x) : x.fdiv (-g) = -x / g := by
  rw [Int.fdiv_eq_ediv_of_dvd ((Int.neg_dvd).mpr h), Int.ediv_neg, Int.neg_ediv_of_dvd h]
end Pz
end
section
set_option Elab.async false
set_option linter.all false
set_option maxRecDepth 100000
/-! What several laws' own defs do: copied, exact, any; filters, sorting, small things. -/
namespace Pz.Co
open Pz
/-- _law_copied -/
def f182 : Fn := { np := 1, io := [], ns := 2, body := (.cons (.sif (.isi (.v 0) [.list]) (.cons (.ret (.lc (.call 182 (.cons (.v 1) .nil) []) (.v 1) (.wlk (.v 0)) .nil [1])) .nil) .nil) (.cons (.sif (.isi (.v 0) [.tuple]) (.cons (.ret (.bi .tuple (.cons (.lc (.call 182 (.cons (.v 1) .nil) []) (.v 1) (.wlk (.v 0)) .nil [1]) .nil))) .nil) .nil) (.cons (.retv 0) .nil))) }
/-- _law_exact -/
def f183 : Fn := { np := 2, io := [], ns := 4, body := (.cons (.sif (.isi (.v 1) [.list]) (.cons (.ret (.and (.isi (.v 0) [.list]) (.and (.cmp .eq (.bi .len (.cons (.v 0) .nil)) (.bi .len (.cons (.v 1) .nil))) (.cmp .notin .ff (.lc (.call 183 (.cons (.v 2) (.cons (.v 3) .nil)) []) (.tup (.cons (.v 2) (.cons (.v 3) .nil))) (.zip (.v 0) (.v 1)) .nil [2, 3]))))) .nil) .nil) (.cons (.sif (.isi (.v 1) [.tuple]) (.cons (.ret (.and (.isi (.v 0) [.tuple]) (.and (.cmp .eq (.bi .len (.cons (.v 0) .nil)) (.bi .len (.cons (.v 1) .nil))) (.cmp .notin .ff (.lc (.call 183 (.cons (.v 2) (.cons (.v 3) .nil)) []) (.tup (.cons (.v 2) (.cons (.v 3) .nil))) (.zip (.v 0) (.v 1)) .nil [2, 3]))))) .nil) .nil) (.cons (.sif (.cmp .is (.v 1) .non) (.cons (.ret (.cmp .is (.v 0) .non)) .nil) .nil) (.cons (.sif (.cmp .is (.v 1) .tt) (.cons (.ret (.cmp .is (.v 0) .tt)) .nil) .nil) (.cons (.sif (.cmp .is (.v 1) .ff) (.cons (.ret (.cmp .is (.v 0) .ff)) .nil) .nil) (.cons (.sif (.isi (.v 1) [.int]) (.cons (.ret (.and (.isi (.v 0) [.int]) (.and (.not (.isi (.v 0) [.bool])) (.cmp .eq (.v 0) (.v 1))))) .nil) .nil) (.cons (.ret (.and (.isi (.v 0) [.str]) (.cmp .eq (.v 0) (.v 1)))) .nil))))))) }
/-- _law_any -/
def f185 : Fn := { np := 1, io := [0], ns := 2, body := (.cons (.asg (.v 1) (.lst 1 (.cons .non (.cons .tt (.cons .ff (.cons (.int 0) (.cons (.int 1) (.cons (.neg (.int 1)) (.cons (.bin .pow (.int 10) (.int 29)) (.cons (.str []) (.cons (.str [97]) (.cons (.str [65]) (.cons (.str [97, 98]) (.cons (.str [97, 32, 98]) (.cons (.str [49, 97]) (.cons (.str [97, 49]) (.cons (.str [32]) (.cons (.str [97, 10]) (.cons (.bin .mul (.str [122]) (.int 20)) (.cons (.bin .mul (.str [122]) (.int 21)) (.cons (.str [97, 98, 99, 100, 101, 102, 103, 104]) (.cons (.str [97, 98, 99, 100, 101, 102, 103, 104, 105]) .nil)))))))))))))))))))))) (.cons (.asg (.v 1) (.bin .add (.v 1) (.lst 1 (.cons (.lst 1 .nil) (.cons (.tup .nil) (.cons (.dct .nil .nil) (.cons (.lst 1 (.cons (.int 0) .nil)) (.cons (.lst 1 (.cons (.int 1) (.cons (.int 0) .nil))) (.cons (.lst 1 (.cons (.int 0) (.cons (.str [97]) .nil))) (.cons (.lst 1 (.cons (.str [97]) (.cons (.int 0) .nil))) (.cons (.lst 1 (.cons .non (.cons (.int 0) .nil))) (.cons (.lst 1 (.cons (.int 0) (.cons (.lst 1 (.cons (.int 1) .nil)) .nil))) (.cons (.lst 1 (.cons (.int 0) (.cons (.tup (.cons (.int 1) .nil)) .nil))) (.cons (.lst 1 (.cons .tt .nil)) (.cons (.lst 1 (.cons (.int 0) (.cons (.int 1) .nil))) (.cons (.lst 1 (.cons (.int 0) (.cons (.int 0) .nil))) (.cons (.tup (.cons (.int 0) (.cons (.int 1) .nil))) (.cons (.lst 1 (.cons (.str [97]) .nil)) (.cons (.lst 1 (.cons (.lst 1 .nil) .nil)) .nil))))))))))))))))))) (.cons (.asg (.v 1) (.bin .add (.v 1) (.lst 1 (.cons (.dct (.cons (.str [97]) .nil) (.cons (.int 1) .nil)) (.cons (.lst 1 (.cons (.int 1) (.cons (.int 2) (.cons (.bin .pow (.int 10) (.int 29)) .nil)))) (.cons (.lst 1 (.cons (.neg (.int 1)) .nil)) (.cons (.str [97, 95, 98]) (.cons (.str [97, 66]) (.cons (.bin .mul (.str [97]) (.int 200)) (.cons (.str [101, 48]) (.cons (.str [48]) (.cons (.str [104, 111, 117, 115, 101]) (.cons (.tup (.cons (.str [104, 111, 117, 115, 101]) .nil)) .nil))))))))))))) (.cons (.ret (.call 182 (.cons (.call 165 (.cons (.v 0) (.cons (.v 1) .nil)) [(0, 0)]) .nil) [])) .nil)))) }
theorem okL_all {n : Nat} : ∀ {l : List D}, okL n l = true ↔ ∀ x ∈ l, okD n x = true
  | [] => by simp [okL]
  | x :: l => by simp [okL, okL_all (l := l)]
theorem eq_nil {l : List D} (h : ∀ x ∈ l, okD 59 x = true) : eqO (.lst l) (.lst []) = some l.isEmpty := by
  have h1 : okD 60 (.lst l) = true := okL_all.mpr h
  unfold eqO
  rw [h1]
  cases l <;> rfl
theorem ne_nil {l : List D} (h : ∀ x ∈ l, okD 59 x = true) : cmpB .ne (.lst l) (.lst []) = some !l.isEmpty := by
  show (eqO _ _).map _ = _
  rw [eq_nil h]; rfl
/-- items that do not hold -/
def pickF (p : D → Bool) (x : D) : Option D := if p x then some x else none
theorem filt_eq (p : D → Bool) (l : List D) : l.filterMap (pickF p) = l.filter p := by
  induction l with
  | nil => rfl
  | cons x l ih =>
    rw [List.filterMap_cons, List.filter_cons]
    cases hp : p x
    · rw [show pickF p x = none by unfold pickF; rw [hp]; rfl]; simpa using ih
    · rw [show pickF p x = some x by unfold pickF; rw [hp]; rfl]; simpa using ih
theorem filt_nil (p : D → Bool) (l : List D) : (l.filter p).isEmpty = l.all fun x => !p x := by
  induction l with
  | nil => rfl
  | cons x l ih => cases hp : p x <;> simp [List.filter_cons, hp, ih] <;> simpa using ih

theorem tyOk_ok {n : Nat} {x : D} (h : okD n x = true) : tyOk x = true := by
  cases x <;> first | rfl | (cases n <;> cases h)
theorem okD_mono : ∀ {n : Nat} {x : D}, okD n x = true → okD (n + 1) x = true := by
  intro n
  induction n with
  | zero => intro x h; cases x <;> first | rfl | cases h
  | succ n ih =>
    intro x h
    cases x with
    | lst l => exact okL_all.mpr fun y hy => ih (okL_all.mp h y hy)
    | tup l => exact okL_all.mpr fun y hy => ih (okL_all.mp h y hy)
    | non => rfl
    | bl _ => rfl
    | int _ => rfl
    | str _ => rfl
    | _ => cases h
theorem shL_len : ∀ l : List D, l.length ≤ shL l
  | [] => Nat.le_refl _
  | x :: l => by
    have := shL_len l
    rw [List.length_cons]
    show l.length + 1 ≤ shB x + 2 + shL l
    omega
theorem shB_mem : ∀ {l : List D} {x : D}, x ∈ l → shB x ≤ shL l
  | y :: l, x, h => by
    show shB x ≤ shB y + 2 + shL l
    rcases List.mem_cons.mp h with rfl | h
    · omega
    · have := shB_mem h
      omega
section
variable {P : Prog}
theorem copied_ok (h182 : P.fn 182 = some f182) : ∀ (k n : Nat) (d : D), okD k d = true → shB d ≤ lim → run P (n + k + 1) 182 [d] = .ok (d, []) := by
  intro k
  induction k with
  | zero =>
    intro n d h _
    refine Ok.eq ?_
    rw [run_succ, h182]
    cases d <;> first | (cases h; done) | simp [f182, initE, isTs, tyOk, isTy]
  | succ k ih =>
    intro n d h hs
    refine Ok.eq ?_
    rw [run_succ, h182]
    cases d with
    | lst l =>
      have hz : shL l + 2 ≤ lim := hs
      have hz2 := shL_len l
      simp [f182, initE, isTs, tyOk, isTy]
      refine (compR_filter some (fun ρ => ∃ o, ρ = [some (.lst l), o]) _ _ _ ⟨_, rfl⟩ ?_ (by simp; omega)).mono ?_
      · rintro x hx ρ acc ⟨o, rfl⟩ ha
        have h1 := ih n x (okL_all.mp h x hx) (by have := shB_mem hx; omega)
        rw [show n + (k + 1) = n + k + 1 from rfl]
        simp [h1, push, ha]
      · rintro ⟨a, ρ⟩ ⟨h3, o, h4⟩
        subst h3; subst h4
        rw [List.filterMap_some, List.nil_append]
    | tup l =>
      have hz : shL l + 3 ≤ lim := hs
      have hz2 := shL_len l
      simp [f182, initE, isTs, tyOk, isTy]
      refine (compR_filter some (fun ρ => ∃ o, ρ = [some (.tup l), o]) _ _ _ ⟨_, rfl⟩ ?_ (by simp; omega)).mono ?_
      · rintro x hx ρ acc ⟨o, rfl⟩ ha
        have h1 := ih n x (okL_all.mp h x hx) (by have := shB_mem hx; omega)
        rw [show n + (k + 1) = n + k + 1 from rfl]
        simp [h1, push, ha]
      · rintro ⟨a, ρ⟩ ⟨h3, o, h4⟩
        subst h3; subst h4
        rw [List.filterMap_some, List.nil_append]
        have e : biD .tuple [.lst l] = some (.tup l) := rfl
        simp [e]
    | non => simp [f182, initE, isTs, tyOk, isTy]
    | bl b => simp [f182, initE, isTs, tyOk, isTy]
    | int b => simp [f182, initE, isTs, tyOk, isTy]
    | str b => simp [f182, initE, isTs, tyOk, isTy]
    | _ => cases h
theorem copied_dic (h182 : P.fn 182 = some f182) {n : Nat} {ks vs : List D} : run P (n + 1) 182 [.dic ks vs] = .ok (.dic ks vs, []) := by
  refine Ok.eq ?_
  rw [run_succ, h182]
  simp [f182, initE, isTs, tyOk, isTy]
end
theorem mem_insT {x y : D} : ∀ {l : List D}, y ∈ insT x l → y = x ∨ y ∈ l
  | [], h => by simpa [insT] using h
  | z :: l, h => by
    unfold insT at h
    split at h
    · rcases List.mem_cons.mp h with h | h
      · exact .inr (h ▸ List.mem_cons_self)
      · rcases mem_insT h with h | h
        · exact .inl h
        · exact .inr (List.mem_cons_of_mem _ h)
    · exact List.mem_cons.mp h
theorem len_insT (x : D) : ∀ l : List D, (insT x l).length = l.length + 1
  | [] => rfl
  | z :: l => by
    unfold insT
    split
    · rw [List.length_cons, len_insT x l]; rfl
    · rfl
theorem mem_isort {y : D} : ∀ {l : List D}, y ∈ isort l → y ∈ l
  | x :: l, h => by
    rcases mem_insT h with rfl | h
    · exact List.mem_cons_self
    · exact List.mem_cons_of_mem _ (mem_isort h)
theorem len_isort : ∀ l : List D, (isort l).length = l.length
  | [] => rfl
  | x :: l => by
    show (insT x (isort l)).length = _
    rw [len_insT, len_isort l]; rfl
theorem sort_ok {l : List D} (hl : l.length ≤ 1000) (h : (∀ x ∈ l, ∃ s, x = .str s) ∨ (∀ x ∈ l, ∃ i, x = .int i)) : sortO l = some (isort l) := by
  unfold sortO
  rw [if_pos]
  have hz : decide (l.length ≤ lim) = true := decide_eq_true (by unfold lim; omega)
  rw [hz]
  rcases h with h | h
  · have h1 : allAlk l = true := by
      unfold allAlk
      rw [List.all_eq_true]
      intro x hx
      obtain ⟨s, rfl⟩ := h x hx
      rw [Bool.and_eq_true, List.all_eq_true]
      refine ⟨rfl, fun y hy => ?_⟩
      obtain ⟨t, rfl⟩ := h y hy
      rfl
    have h2 : okL 60 l = true := okL_all.mpr fun x hx => by obtain ⟨s, rfl⟩ := h x hx; rfl
    have h3 : srtOk l = true := by
      unfold srtOk
      rw [Bool.or_eq_true]
      refine .inr (List.all_eq_true.mpr fun x hx => ?_)
      obtain ⟨s, rfl⟩ := h x hx; rfl
    rw [h1, h2, h3]; rfl
  · have h1 : allAlk l = true := by
      unfold allAlk
      rw [List.all_eq_true]
      intro x hx
      obtain ⟨s, rfl⟩ := h x hx
      rw [Bool.and_eq_true, List.all_eq_true]
      refine ⟨rfl, fun y hy => ?_⟩
      obtain ⟨t, rfl⟩ := h y hy
      rfl
    have h2 : okL 60 l = true := okL_all.mpr fun x hx => by obtain ⟨s, rfl⟩ := h x hx; rfl
    have h3 : srtOk l = true := by
      unfold srtOk
      rw [Bool.or_eq_true]
      refine .inr (List.all_eq_true.mpr fun x hx => ?_)
      obtain ⟨s, rfl⟩ := h x hx; rfl
    rw [h1, h2, h3]; rfl
theorem rng1 {d : Int} (h1 : 0 ≤ d) (h2 : d < 2 ^ 40) : rngD [.int d] = some (rangeL 0 d) := by
  show (if small d = true then some (rangeL 0 d) else none) = _
  rw [if_pos]
  unfold small
  rw [decide_eq_true_eq]
  omega
theorem len_range {d : Int} : (rangeL 0 d).length = d.toNat := by simp [rangeL]
def menu : List D := [.non, .bl true, .bl false, .int 0, .int 1, .int (-1), .int (10 ^ 29), .str [], .str [97], .str [65], .str [97, 98], .str [97, 32, 98], .str [49, 97], .str [97, 49], .str [32], .str [97, 10], .str (List.replicate 20 122), .str (List.replicate 21 122), .str [97, 98, 99, 100, 101, 102, 103, 104], .str [97, 98, 99, 100, 101, 102, 103, 104, 105],
  .lst [], .tup [], .dic [] [], .lst [.int 0], .lst [.int 1, .int 0], .lst [.int 0, .str [97]], .lst [.str [97], .int 0], .lst [.non, .int 0], .lst [.int 0, .lst [.int 1]], .lst [.int 0, .tup [.int 1]], .lst [.bl true], .lst [.int 0, .int 1], .lst [.int 0, .int 0], .tup [.int 0, .int 1], .lst [.str [97]], .lst [.lst []],
  .dic [.str [97]] [.int 1], .lst [.int 1, .int 2, .int (10 ^ 29)], .lst [.int (-1)], .str [97, 95, 98], .str [97, 66], .str (List.replicate 200 97), .str [101, 48], .str [48], .str [104, 111, 117, 115, 101], .tup [.str [104, 111, 117, 115, 101]]]
/-- a condition of a menu's value -/
def cpB (d : D) : Bool := match d with
  | .dic _ _ => true
  | d => okD 2 d && decide (shB d ≤ lim)
section
variable {P : Prog}
theorem rnd (h : P.fn 161 = some f161) (h' : P.fn 162 = some f162) {n : Nat} {K b : Int} {g : D} (hK : 0 ≤ K) (hg : Gn (K + 2) g) (hb : 0 < b) (hb2 : b < 2 ^ 59) :
    ∃ (d : Int) (g' : D), run P (n + 2) 162 [g, .int b] = .ok (.int d, [g']) ∧ 0 ≤ d ∧ d < b ∧ Gn K g' := random_ok h h' hK hg hb hb2
theorem cp_ok (h182 : P.fn 182 = some f182) {n : Nat} {d : D} (h : cpB d = true) : run P (n + 3) 182 [d] = .ok (d, []) := by
  have : (∃ ks vs, d = .dic ks vs) ∨ (okD 2 d = true ∧ shB d ≤ lim) := by
    cases d <;> first | exact .inl ⟨_, _, rfl⟩ | exact .inr (by unfold cpB at h; rw [Bool.and_eq_true, decide_eq_true_eq] at h; exact h)
  rcases this with ⟨ks, vs, rfl⟩ | ⟨h1, h2⟩
  · exact copied_dic h182
  · exact copied_ok h182 2 n d h1 h2
theorem menu_cp : menu.all cpB = true := by decide +kernel
/-- any: one of the menu -/
theorem any_ok (h : P.fn 161 = some f161) (h' : P.fn 162 = some f162) (h165 : P.fn 165 = some f165) (h182 : P.fn 182 = some f182) (h185 : P.fn 185 = some f185) {n : Nat} {K : Int} {g : D} (hK : 0 ≤ K) (hg : Gn (K + 2) g) :
    ∃ (x g' : D), run P (n + 4) 185 [g] = .ok (x, [g']) ∧ x ∈ menu ∧ Gn K g' := by
  obtain ⟨x, g1, e1, hx, hg1⟩ := pick_ok h h' h165 (n := n) (l := menu) hK hg (by simp [menu]) (by simp [menu])
  refine ⟨x, g1, Ok.eq ?_, hx, hg1⟩
  rw [run_succ, h185]
  have b1 : binD .pow (.int 10) (.int 29) = some (.int (10 ^ 29)) := by rfl
  have b2 : binD .mul (.str [122]) (.int 20) = some (.str (List.replicate 20 122)) := by rfl
  have b3 : binD .mul (.str [122]) (.int 21) = some (.str (List.replicate 21 122)) := by rfl
  have b4 : binD .mul (.str [97]) (.int 200) = some (.str (List.replicate 200 97)) := by rfl
  have b5 : negD (.int 1) = some (.int (-1)) := rfl
  have b6 : ∀ l m, l.length + m.length ≤ 1000 → binD .add (.lst l) (.lst m) = some (.lst (l ++ m)) := fun l m h => if_pos (by unfold lim; omega)
  have e2 := cp_ok h182 (n := n) (List.all_eq_true.mp menu_cp x hx)
  simp only [optR_some, bind_okk]
  simp [f185, initE, b1, b2, b3, b4, b5, b6, keysT, -Int.reducePow, -List.reduceReplicate]
  unfold menu at e1
  simp [e1, e2, -Int.reducePow, -List.reduceReplicate]

/-- [True, ..] holds no False -/
theorem notin_tt (l : List D) : cmpB .notin (.bl false) (.lst (l.map fun _ => D.bl true)) = some true := by
  have k : okL 60 (l.map fun _ => D.bl true) = true := okL_all.mpr fun x hx => by
    obtain ⟨_, _, rfl⟩ := List.mem_map.mp hx
    rfl
  have k2 : memD (.bl false) (l.map fun _ => D.bl true) = false := by
    clear k
    induction l with
    | nil => rfl
    | cons x l ih => exact ih
  have k3 : inD (.bl false) (.lst (l.map fun _ => D.bl true)) = some false := by
    simp only [inD, k, k2]
    rfl
  show (inD _ _).map _ = _
  rw [k3]; rfl
theorem all_tt (l : List D) : l.filterMap (fun _ => some (D.bl true)) = l.map fun _ => D.bl true := by
  induction l with
  | nil => rfl
  | cons x l ih => rw [List.filterMap_cons, List.map_cons, ih]
theorem zipD_self : ∀ {l : List D} {y : D}, y ∈ zipD l l → ∃ x ∈ l, y = .tup [x, x]
  | x :: l, y, h => by
    rcases List.mem_cons.mp (show y ∈ D.tup [x, x] :: zipD l l from h) with rfl | h
    · exact ⟨x, List.mem_cons_self, rfl⟩
    · obtain ⟨z, hz, e⟩ := zipD_self h
      exact ⟨z, List.mem_cons_of_mem _ hz, e⟩
theorem zipD_len : ∀ l : List D, (zipD l l).length = l.length
  | [] => rfl
  | x :: l => by
    show (zipD l l).length + 1 = _
    rw [zipD_len l]; rfl
theorem eq_self_int (i : Int) : cmpB .eq (.int i) (.int i) = some true := by
  show some (i == i) = _
  simp
theorem eq_self_str (s : List Nat) : cmpB .eq (.str s) (.str s) = some true := by
  show some (s == s) = _
  simp
/-- exact: of a value with itself -/
theorem exact_refl (h183 : P.fn 183 = some f183) : ∀ (k n : Nat) (d : D), okD k d = true → shB d ≤ lim → run P (n + k + 1) 183 [d, d] = .ok (.bl true, []) := by
  intro k
  induction k with
  | zero =>
    intro n d h hz
    refine Ok.eq ?_
    rw [run_succ, h183]
    cases d <;> first | (cases h; done) | skip
    · simp [f183, initE, isTs, tyOk, isTy, cmpB, isD]
    · rename_i b
      cases b <;> simp [f183, initE, isTs, tyOk, isTy, cmpB, isD]
    · simp [f183, initE, isTs, tyOk, isTy, show ∀ i : Int, cmpB .is (.int i) .non = some false from fun _ => rfl, show ∀ (i : Int) b, cmpB .is (.int i) (.bl b) = some false from fun _ _ => rfl, eq_self_int]
    · simp [f183, initE, isTs, tyOk, isTy, show ∀ i, cmpB .is (.str i) .non = some false from fun _ => rfl, show ∀ i b, cmpB .is (.str i) (.bl b) = some false from fun _ _ => rfl, eq_self_str]
  | succ k ih =>
    intro n d h hs
    have rec_ : ∀ l : List D, okL k l = true → shL l ≤ lim → ∀ (ρ0 ρ1 : D), Ok (compR (fun x ρ acc => (evG { call := run P (n + k + 1), glob := P.glob, fuel := FUEL } (.tup (.cons (.v 2) (.cons (.v 3) .nil))) x (unset ρ [2, 3])).bind fun ρ1 => (evC { call := run P (n + k + 1), glob := P.glob, fuel := FUEL } .nil ρ1).bind fun t => if t.1 then (evE { call := run P (n + k + 1), glob := P.glob, fuel := FUEL } (.call 183 (.cons (.v 2) (.cons (.v 3) .nil)) []) t.2).bind (push acc) else .ok (acc, t.2)) (zipD l l) [some ρ0, some ρ1, none, none] []) fun r => r.1 = (zipD l l).map (fun _ => D.bl true) ∧ ∃ o2 o3, r.2 = [some ρ0, some ρ1, o2, o3] := by
      intro l hl hz ρ0 ρ1
      refine (compR_filter (fun _ => some (D.bl true)) (fun ρ => ∃ o2 o3, ρ = [some ρ0, some ρ1, o2, o3]) _ _ _ ⟨_, _, rfl⟩ ?_ (by rw [zipD_len]; have := shL_len l; simp; omega)).mono ?_
      · rintro y hy ρ acc ⟨o2, o3, rfl⟩ ha
        obtain ⟨x, hx, rfl⟩ := zipD_self hy
        have e := ih n x (okL_all.mp hl x hx) (by have := shB_mem hx; omega)
        simp [itemsT, lenT, e, push, ha]
      · rintro ⟨a, ρ⟩ ⟨h1, h2⟩
        replace h1 : a = [] ++ _ := h1
        rw [List.nil_append, all_tt] at h1
        exact ⟨h1, h2⟩
    refine Ok.eq ?_
    rw [show n + (k + 1) + 1 = n + k + 1 + 1 from rfl, run_succ, h183]
    cases d with
    | lst l =>
      have r := rec_ l h (by have : shL l + 2 ≤ lim := hs; omega) (.lst l) (.lst l)
      have z : zipO (.lst l) (.lst l) = some (zipD l l) := rfl
      simp only [optR_some, bind_okk]
      simp [f183, initE, isTs, tyOk, isTy, eq_self_int, z]
      simp only [evG_tup, unset_cons, unset_nil, evC_nil, bind_okk, if_true, evE_call, evA_cons, evA_nil, evE_v] at r
      refine Ok.mono (by simpa using r) ?_
      rintro ⟨a, ρ⟩ ⟨h1, o2, o3, h2⟩
      replace h1 : a = _ := h1
      replace h2 : ρ = _ := h2
      subst h1 h2
      simp [back, notin_tt]
    | tup l =>
      have r := rec_ l h (by have : shL l + 3 ≤ lim := hs; omega) (.tup l) (.tup l)
      have z : zipO (.tup l) (.tup l) = some (zipD l l) := rfl
      simp only [optR_some, bind_okk]
      simp [f183, initE, isTs, tyOk, isTy, eq_self_int, z]
      refine Ok.mono (by simpa using r) ?_
      rintro ⟨a, ρ⟩ ⟨h1, o2, o3, h2⟩
      replace h1 : a = _ := h1
      replace h2 : ρ = _ := h2
      subst h1 h2
      simp [back, notin_tt]
    | non => simp [f183, initE, isTs, tyOk, isTy, cmpB, isD]
    | bl b => cases b <;> simp [f183, initE, isTs, tyOk, isTy, cmpB, isD]
    | int i => simp [f183, initE, isTs, tyOk, isTy, show ∀ i : Int, cmpB .is (.int i) .non = some false from fun _ => rfl, show ∀ (i : Int) b, cmpB .is (.int i) (.bl b) = some false from fun _ _ => rfl, eq_self_int]
    | str i => simp [f183, initE, isTs, tyOk, isTy, show ∀ i, cmpB .is (.str i) .non = some false from fun _ => rfl, show ∀ i b, cmpB .is (.str i) (.bl b) = some false from fun _ _ => rfl, eq_self_str]
    | _ => cases h
end
/-- one statement, then the others -/
theorem seq_ok {C : Cfg} {a b : T} {ρ : Env} {P Q : Fl → Prop} (h : Ok (evS C a ρ) P) (k : ∀ fl, P fl → Ok (match fl with
    | .nx ρ' => evB C b ρ'
    | r => .ok r) Q) : Ok (evB C (.cons a b) ρ) Q := by
  rw [evB_cons, ok_bind]
  exact h.mono k
def sh1 (d : D) : Bool := match d with
  | .str s => decide (s.length ≤ 1000)
  | _ => true
def okI (x : D) : Bool := okD 58 x && sh1 x
def itemB (x : D) : Bool := okD 58 x && smD x && decide (depthD x ≤ 50) && decide (shB x ≤ 3000) && sh1 x
theorem item_str {s : List Nat} (h : s.length ≤ 100) (h2 : ∀ c ∈ s, c < 128) : itemB (.str s) = true := by
  have h1 : smD (.str s) = true := by
    show (s.all fun c => decide (c < 4294967296)) = true
    rw [List.all_eq_true]
    intro c hc
    have := h2 c hc
    rw [decide_eq_true_eq]; omega
  unfold itemB
  rw [h1, show okD 58 (.str s) = true from rfl, show decide (depthD (.str s) ≤ 50) = true from rfl, show sh1 (.str s) = true from decide_eq_true (by omega)]
  rw [show decide (shB (.str s) ≤ 3000) = true from decide_eq_true (by show 10 * s.length + 2 ≤ 3000; omega)]
  rfl
theorem item_int {i : Int} (h : i.natAbs < 2 ^ 60) : itemB (.int i) = true := by
  have h1 : smD (.int i) = true := by
    show decide (i.natAbs.log2 < 1920) = true
    rw [decide_eq_true_eq]
    by_cases h0 : i.natAbs = 0
    · rw [h0]; decide
    · have := (Nat.log2_lt h0).mpr h
      omega
  unfold itemB
  rw [h1]; rfl
theorem depthL_le {n : Nat} : ∀ {l : List D}, (∀ x ∈ l, depthD x ≤ n) → depthL l ≤ n
  | [], _ => Nat.zero_le _
  | x :: l, h => by
    have h1 := h x List.mem_cons_self
    have h2 := depthL_le (l := l) fun y hy => h y (List.mem_cons_of_mem _ hy)
    show max (depthD x) (depthL l) ≤ n
    omega
theorem shL_le {n : Nat} : ∀ {l : List D}, (∀ x ∈ l, shB x ≤ n) → shL l ≤ (n + 2) * l.length
  | [], _ => Nat.zero_le _
  | x :: l, h => by
    have h1 := h x List.mem_cons_self
    have h2 := shL_le (l := l) fun y hy => h y (List.mem_cons_of_mem _ hy)
    rw [List.length_cons, Nat.mul_succ]
    show shB x + 2 + shL l ≤ _
    omega
theorem smL_all : ∀ {l : List D}, (∀ x ∈ l, smD x = true) → smL l = true
  | [], _ => rfl
  | x :: l, h => by
    have h1 := h x List.mem_cons_self
    have h2 := smL_all (l := l) fun y hy => h y (List.mem_cons_of_mem _ hy)
    show (smD x && smL l) = true
    rw [h1, h2]; rfl
theorem item_all {l : List D} (hl : l.length ≤ 1000) (h : ∀ x ∈ l, itemB x = true) : okL 59 l = true ∧ smL l = true ∧ depthL l ≤ 50 ∧ shL l ≤ 3002000 ∧ l.all okI = true := by
  have h' : ∀ x ∈ l, okD 58 x = true ∧ smD x = true ∧ depthD x ≤ 50 ∧ shB x ≤ 3000 ∧ sh1 x = true := by
    intro x hx
    have := h x hx
    unfold itemB at this
    simp only [Bool.and_eq_true, decide_eq_true_eq] at this
    exact ⟨this.1.1.1.1, this.1.1.1.2, this.1.1.2, this.1.2, this.2⟩
  refine ⟨okL_all.mpr fun x hx => okD_mono (h' x hx).1, smL_all fun x hx => (h' x hx).2.1, depthL_le fun x hx => (h' x hx).2.2.1, ?_, List.all_eq_true.mpr fun x hx => ?_⟩
  · have := shL_le fun x hx => (h' x hx).2.2.2.1
    omega
  · unfold okI
    rw [(h' x hx).1, (h' x hx).2.2.2.2]; rfl
theorem rep_lst {l : List D} (hl : l.length ≤ 1000) (h : ∀ x ∈ l, itemB x = true) : repOk (.lst l) = true := by
  obtain ⟨h1, h2, h3, h4, h5⟩ := item_all hl h
  unfold repOk
  rw [show okD 60 (.lst l) = true from h1, show smD (.lst l) = true from h2, show decide (depthD (.lst l) ≤ 60) = true from decide_eq_true (by show depthL l + 1 ≤ 60; omega),
    show decide (shB (.lst l) ≤ lim) = true from decide_eq_true (by show shL l + 2 ≤ 16777216; omega)]
  rfl
theorem rep_tup {l : List D} (hl : l.length ≤ 1000) (h : ∀ x ∈ l, itemB x = true) : repOk (.tup l) = true := by
  obtain ⟨h1, h2, h3, h4, h5⟩ := item_all hl h
  unfold repOk
  rw [show okD 60 (.tup l) = true from h1, show smD (.tup l) = true from h2, show decide (depthD (.tup l) ≤ 60) = true from decide_eq_true (by show depthL l + 1 ≤ 60; omega),
    show decide (shB (.tup l) ≤ lim) = true from decide_eq_true (by show shL l + 3 ≤ 16777216; omega)]
  rfl
theorem rep_item {x : D} (h : itemB x = true) : repOk x = true := by
  unfold itemB at h
  simp only [Bool.and_eq_true, decide_eq_true_eq] at h
  obtain ⟨⟨⟨⟨h1, h3⟩, h4⟩, h5⟩, h6⟩ := h
  have h7 : okD 60 x = true := okD_mono (okD_mono h1)
  unfold repOk
  rw [h7, h3, decide_eq_true (show depthD x ≤ 60 by omega), decide_eq_true (show shB x ≤ lim by unfold lim; omega)]
  rfl
theorem mem_slc {x : D} {l : List D} {a b : Option Int} (h : x ∈ slcL l a b) : x ∈ l := by
  unfold slcL at h
  exact List.mem_of_mem_drop (List.mem_of_mem_take h)
theorem len_slc {l : List D} {a b : Option Int} : (slcL l a b).length ≤ l.length := by
  unfold slcL
  rw [List.length_take, List.length_drop]
  omega
end Pz.Co
end
section
set_option Elab.async false
set_option linter.all false
/-! Places: pairs of ints, sorted; whiles; shown values of all kinds. -/
namespace Pz.Pl
open Pz Pz.Co
abbrev P2 := Int × Int
def pl (p : P2) : D := .tup [.int p.1, .int p.2]
def lP (p q : P2) : Bool := if p.1 = q.1 then decide (p.2 < q.2) else decide (p.1 < q.1)
theorem eqD_int (i j : Int) : eqD (.int i) (.int j) = (i == j) := rfl
theorem ltT_pl (p q : P2) : ltT (pl p) (pl q) = lP p q := by
  show (if eqD (.int p.1) (.int q.1) then (if eqD (.int p.2) (.int q.2) then !([] : List D).isEmpty else ltT (.int p.2) (.int q.2)) else ltT (.int p.1) (.int q.1)) = _
  unfold lP
  rw [eqD_int, eqD_int]
  by_cases h : p.1 = q.1
  · rw [if_pos h, if_pos (by simpa using h)]
    by_cases h2 : p.2 = q.2
    · rw [if_pos (by simpa using h2)]; simp [h2]
    · rw [if_neg (by simpa using h2)]; rfl
  · rw [if_neg h, if_neg (by simpa using h)]; rfl
theorem eqD_pl (p q : P2) : eqD (pl p) (pl q) = decide (p = q) := by
  show ((p.1 == q.1) && ((p.2 == q.2) && true)) = _
  obtain ⟨a, b⟩ := p
  obtain ⟨c, d⟩ := q
  by_cases h : a = c <;> by_cases h2 : b = d <;> simp [h, h2]
theorem pl_inj {p q : P2} (h : pl p = pl q) : p = q := by
  unfold pl at h
  obtain ⟨a, b⟩ := p
  obtain ⟨c, d⟩ := q
  simpa using h
def insP (x : P2) : List P2 → List P2
  | [] => [x]
  | y :: l => if lP y x then y :: insP x l else x :: y :: l
def sortP : List P2 → List P2
  | [] => []
  | x :: l => insP x (sortP l)
theorem insT_pl (x : P2) : ∀ l : List P2, insT (pl x) (l.map pl) = (insP x l).map pl
  | [] => rfl
  | y :: l => by
    show (if ltT (pl y) (pl x) then pl y :: insT (pl x) (l.map pl) else pl x :: pl y :: l.map pl) = _
    unfold insP
    rw [ltT_pl, insT_pl x l]
    split <;> rfl
theorem isort_pl : ∀ l : List P2, isort (l.map pl) = (sortP l).map pl
  | [] => rfl
  | x :: l => by
    show insT (pl x) (isort (l.map pl)) = _
    rw [isort_pl l, insT_pl]; rfl
theorem okL_pl {n : Nat} (l : List P2) : okL (n + 1) (l.map pl) = true := okL_all.mpr fun x hx => by
  obtain ⟨p, _, rfl⟩ := List.mem_map.mp hx
  rfl
theorem sort_pl {l : List P2} (h : l.length ≤ 1000) : biD .sorted [.lst (l.map pl)] = some (.lst ((sortP l).map pl)) := by
  show (sortO (l.map pl)).map D.lst = _
  unfold sortO
  have h1 : allAlk (l.map pl) = true := by
    unfold allAlk
    refine List.all_eq_true.mpr fun x hx => ?_
    obtain ⟨p, _, rfl⟩ := List.mem_map.mp hx
    refine (Bool.and_eq_true _ _).mpr ⟨rfl, List.all_eq_true.mpr fun y hy => ?_⟩
    obtain ⟨q, _, rfl⟩ := List.mem_map.mp hy
    rfl
  have h2 : srtOk (l.map pl) = true := by
    unfold srtOk
    rw [Bool.or_eq_true]
    left
    simp only [List.all_map, List.all_eq_true]
    exact fun x _ => rfl
  rw [h1, h2, okL_pl, decide_eq_true (show (l.map pl).length ≤ lim by rw [List.length_map]; unfold lim; omega), isort_pl]
  rfl
/-! the order of pairs -/
theorem insP_comm (x y : P2) : ∀ l : List P2, insP x (insP y l) = insP y (insP x l)
  | [] => by
    simp only [insP, lP]
    obtain ⟨a, b⟩ := x
    obtain ⟨c, d⟩ := y
    simp only
    by_cases h : a = c
    · subst h
      simp only [if_true]
      by_cases h2 : d < b
      · have : ¬ b < d := by omega
        simp [h2, this]
      · by_cases h3 : b < d
        · simp [h2, h3]
        · have : b = d := by omega
          subst this; rfl
    · have h' : ¬ c = a := fun e => h e.symm
      rw [if_neg h, if_neg h']
      by_cases h2 : c < a
      · have : ¬ a < c := by omega
        simp [h2, this]
      · have : a < c := by omega
        simp [h2, this]
  | z :: l => by
    have ih := insP_comm x y l
    have tr : ∀ a b c : P2, lP a b = true → lP b c = true → lP a c = true := by
      intro a b c
      unfold lP
      intro h1 h2
      split at h1 <;> split at h2 <;> simp only [decide_eq_true_eq] at h1 h2 <;> split <;> simp only [decide_eq_true_eq] <;> omega
    have tot : ∀ a b : P2, lP a b = false → lP b a = false → a = b := by
      intro a b
      obtain ⟨a1, a2⟩ := a
      obtain ⟨b1, b2⟩ := b
      unfold lP
      intro h1 h2
      simp only at h1 h2
      by_cases h : a1 = b1
      · subst h
        simp only [if_true, decide_eq_false_iff_not] at h1 h2
        have : a2 = b2 := by omega
        rw [this]
      · have h' : ¬ b1 = a1 := fun e => h e.symm
        rw [if_neg h] at h1; rw [if_neg h'] at h2
        simp only [decide_eq_false_iff_not] at h1 h2
        omega
    have irr : ∀ a b : P2, lP a b = true → lP b a = false := by
      intro a b
      unfold lP
      intro h1
      split at h1 <;> simp only [decide_eq_true_eq] at h1 <;> split <;> simp only [decide_eq_false_iff_not] <;> omega
    cases h1 : lP z x <;> cases h2 : lP z y
    · -- both ahead of z
      cases h3 : lP x y <;> cases h4 : lP y x
      · have := tot x y h3 h4; subst this; rfl
      · simp [insP, h1, h2, h3, h4]
      · simp [insP, h1, h2, h3, h4]
      · rw [irr x y h3] at h4; cases h4
    · have h3 : lP x y = true := by
        cases h : lP x y with
        | true => rfl
        | false =>
          cases h5 : lP y x with
          | true => rw [tr z y x h2 h5] at h1; cases h1
          | false => have := tot x y h h5; subst this; rw [h1] at h2; cases h2
      have h4 := irr x y h3
      simp [insP, h1, h2, h3, h4]
    · have h3 : lP y x = true := by
        cases h : lP y x with
        | true => rfl
        | false =>
          cases h5 : lP x y with
          | true => rw [tr z x y h1 h5] at h2; cases h2
          | false => have := tot x y h5 h; subst this; rw [h1] at h2; cases h2
      have h4 := irr y x h3
      simp [insP, h1, h2, h3, h4]
    · simp [insP, h1, h2, ih]
theorem sortP_perm {l m : List P2} (h : l.Perm m) : sortP l = sortP m := by
  induction h with
  | nil => rfl
  | cons x _ ih => show insP x _ = insP x _; rw [ih]
  | swap x y l => exact insP_comm _ _ _
  | trans _ _ a b => exact a.trans b
theorem insP_perm (x : P2) : ∀ l : List P2, (insP x l).Perm (x :: l)
  | [] => .refl _
  | y :: l => by
    unfold insP
    split
    · exact ((insP_perm x l).cons y).trans (.swap x y l)
    · exact .refl _
theorem sortP_self : ∀ l : List P2, (sortP l).Perm l
  | [] => .refl _
  | x :: l => (insP_perm x _).trans ((sortP_self l).cons x)
/-! equality of lists of pairs -/
theorem eqL_pl : ∀ l m : List P2, eqL (l.map pl) (m.map pl) = decide (l = m)
  | [], [] => rfl
  | [], y :: m => by simp [eqL]
  | x :: l, [] => by simp [eqL]
  | x :: l, y :: m => by
    show (eqD (pl x) (pl y) && eqL (l.map pl) (m.map pl)) = _
    rw [eqD_pl, eqL_pl l m]
    by_cases h : x = y <;> by_cases h2 : l = m <;> simp [h, h2]
theorem eq_pl (l m : List P2) : cmpB .eq (.lst (l.map pl)) (.lst (m.map pl)) = some (decide (l = m)) := by
  show (if okL 59 (l.map pl) && okL 59 (m.map pl) then some (eqL (l.map pl) (m.map pl)) else none) = _
  rw [okL_pl, okL_pl, eqL_pl]; rfl
theorem memD_pl (p : P2) (l : List P2) : memD (pl p) (l.map pl) = decide (p ∈ l) := by
  unfold memD
  rw [List.any_map]
  induction l with
  | nil => simp
  | cons x l ih =>
    rw [List.any_cons, ih]
    show (eqD (pl x) (pl p) || _) = _
    rw [eqD_pl]
    have hc : (p = x) = (x = p) := propext ⟨fun e => e.symm, fun e => e.symm⟩
    by_cases h : x = p <;> by_cases h2 : p ∈ l <;> simp [h, h2, hc]
theorem in_pl (p : P2) (l : List P2) : cmpB .isin (pl p) (.lst (l.map pl)) = some (decide (p ∈ l)) := by
  show (if okD 60 (pl p) && okL 60 (l.map pl) then some (memD (pl p) (l.map pl)) else none) = _
  rw [okL_pl, memD_pl]; rfl
theorem notin_pl (p : P2) (l : List P2) : cmpB .notin (pl p) (.lst (l.map pl)) = some (!decide (p ∈ l)) := by
  show (inD (pl p) (.lst (l.map pl))).map (!·) = _
  rw [show inD (pl p) (.lst (l.map pl)) = some (decide (p ∈ l)) from in_pl p l]; rfl
/-! whiles -/
theorem whlR_inv {c : Env → R (Bool × Env)} {b : Env → R Fl} {Q : Fl → Prop} (I : Nat → Env → Prop) (h : ∀ m ρ, I m ρ → Ok (c ρ) fun p => if p.1 then Ok (b p.2) (fun fl => match fl with
    | .nx ρ' => ∃ m', m' < m ∧ I m' ρ'
    | .ct ρ' => ∃ m', m' < m ∧ I m' ρ'
    | .bk ρ' => Q (.nx ρ')
    | .rt d ρ' => Q (.rt d ρ')) else Q (.nx p.2)) : ∀ (f n : Nat) (ρ : Env), n < f → I n ρ → Ok (whlR c b f ρ) Q
  | 0, n, _, hn, _ => absurd hn (Nat.not_lt_zero n)
  | f + 1, n, ρ, hn, hi => by
    show Ok ((c ρ).bind _) Q
    rw [ok_bind]
    refine (h n ρ hi).mono fun p hp => ?_
    obtain ⟨t, ρ1⟩ := p
    cases t with
    | false => exact .of_eq rfl hp
    | true =>
      replace hp : Ok (b ρ1) _ := hp
      show Ok ((b ρ1).bind _) Q
      rw [ok_bind]
      refine hp.mono fun fl hf => ?_
      cases fl with
      | nx ρ' => obtain ⟨m', h1, h2⟩ := hf; exact whlR_inv I h f m' ρ' (by omega) h2
      | ct ρ' => obtain ⟨m', h1, h2⟩ := hf; exact whlR_inv I h f m' ρ' (by omega) h2
      | bk ρ' => exact .of_eq rfl hf
      | rt d ρ' => exact .of_eq rfl hf
/-! shown values, dicts among them -/
def rpB (x : D) : Bool := noLst x && smD x && decide (depthD x ≤ 40) && decide (shB x ≤ 150000)
theorem noLstL_all : ∀ {l : List D}, (∀ x ∈ l, noLst x = true) → noLstL l = true
  | [], _ => rfl
  | x :: l, h => by
    show (noLst x && noLstL l) = true
    rw [h x List.mem_cons_self, noLstL_all fun y hy => h y (List.mem_cons_of_mem _ hy)]; rfl
theorem rpB_parts {x : D} (h : rpB x = true) : noLst x = true ∧ smD x = true ∧ depthD x ≤ 40 ∧ shB x ≤ 150000 := by
  unfold rpB at h
  simp only [Bool.and_eq_true, decide_eq_true_eq] at h
  exact ⟨h.1.1.1, h.1.1.2, h.1.2, h.2⟩
theorem rpB_rep {x : D} (h : rpB x = true) : ∃ s, reprD x = some (.str s) := by
  obtain ⟨h1, h2, h3, h4⟩ := rpB_parts h
  refine repr_ok ?_
  unfold repOk
  rw [h1, h2, decide_eq_true (show depthD x ≤ 60 by omega), decide_eq_true (show shB x ≤ lim by unfold lim; omega), Bool.or_true]
  rfl
theorem rpL_rep {l : List D} (hl : l.length ≤ 100) (h : ∀ x ∈ l, rpB x = true) : ∃ s, reprD (.lst l) = some (.str s) := by
  have z1 := noLstL_all fun x hx => (rpB_parts (h x hx)).1
  have z2 := smL_all fun x hx => (rpB_parts (h x hx)).2.1
  have z3 := depthL_le fun x hx => (rpB_parts (h x hx)).2.2.1
  have z4 := shL_le fun x hx => (rpB_parts (h x hx)).2.2.2
  refine repr_ok ?_
  unfold repOk
  rw [show noLst (.lst l) = true from z1, show smD (.lst l) = true from z2, decide_eq_true (show depthD (.lst l) ≤ 60 by show depthL l + 1 ≤ 60; omega), decide_eq_true (show shB (.lst l) ≤ lim by show shL l + 2 ≤ 16777216; have : (150000 + 2) * l.length ≤ (150000 + 2) * 100 := Nat.mul_le_mul_left _ hl; omega), Bool.or_true]
  rfl
theorem rpB_lst {l : List D} (hl : l.length ≤ 20) (h : ∀ x ∈ l, noLst x = true ∧ smD x = true ∧ depthD x ≤ 30 ∧ shB x ≤ 6000) : rpB (.lst l) = true ∧ rpB (.tup l) = true := by
  have z1 := noLstL_all fun x hx => (h x hx).1
  have z2 := smL_all fun x hx => (h x hx).2.1
  have z3 := depthL_le fun x hx => (h x hx).2.2.1
  have z4 := shL_le fun x hx => (h x hx).2.2.2
  have z5 : (6000 + 2) * l.length ≤ (6000 + 2) * 20 := Nat.mul_le_mul_left _ hl
  constructor <;> unfold rpB
  · rw [show noLst (.lst l) = true from z1, show smD (.lst l) = true from z2, decide_eq_true (show depthD (.lst l) ≤ 40 by show depthL l + 1 ≤ 40; omega), decide_eq_true (show shB (.lst l) ≤ 150000 by show shL l + 2 ≤ 150000; omega)]; rfl
  · rw [show noLst (.tup l) = true from z1, show smD (.tup l) = true from z2, decide_eq_true (show depthD (.tup l) ≤ 40 by show depthL l + 1 ≤ 40; omega), decide_eq_true (show shB (.tup l) ≤ 150000 by show shL l + 3 ≤ 150000; omega)]; rfl
theorem sm_int {i : Int} (h : i.natAbs < 2 ^ 60) : smD (.int i) = true := by
  show decide (i.natAbs.log2 < 1920) = true
  rw [decide_eq_true_eq]
  by_cases h0 : i.natAbs = 0
  · rw [h0]; decide
  · have := (Nat.log2_lt h0).mpr h
    omega
theorem pl_small {p : P2} (h1 : p.1.natAbs < 2 ^ 60) (h2 : p.2.natAbs < 2 ^ 60) : noLst (pl p) = true ∧ smD (pl p) = true ∧ depthD (pl p) ≤ 30 ∧ shB (pl p) ≤ 6000 := by
  refine ⟨rfl, ?_, by show 1 ≤ 30; omega, by show 1921 + 2 + (1921 + 2 + 0) + 3 ≤ 6000; omega⟩
  show (smD (.int p.1) && (smD (.int p.2) && true)) = true
  rw [sm_int h1, sm_int h2]; rfl
end Pz.Pl
end
section
set_option Elab.async false
set_option linter.all false
set_option maxRecDepth 100000
/-! The laws' shuffling. -/
namespace Pz.Pl
open Pz Pz.Co
def f167 : Fn := { np := 2, io := [0], ns := 4, body := (.cons (.par (.cons (.v 3) (.cons (.v 2) .nil)) (.cons (.bi .list (.cons (.v 1) .nil)) (.cons (.lst 1 .nil) .nil))) (.cons (.whl (.cmp .ne (.v 3) (.lst 1 .nil)) (.cons (.app (.v 2) (.pop 3 (.call 162 (.cons (.v 0) (.cons (.bi .len (.cons (.v 3) .nil)) .nil)) [(0, 0)]))) .nil) []) (.cons (.retv 2) .nil))) }
theorem erase_perm {α : Type} {l : List α} {i : Nat} (h : i < l.length) : ([l[i]] ++ l.eraseIdx i).Perm l := by
  have e : l = l.take i ++ l[i] :: l.drop (i + 1) := by
    rw [← List.drop_eq_getElem_cons h, List.take_append_drop]
  rw [List.eraseIdx_eq_take_drop_succ]
  conv => rhs; rw [e]
  show (l[i] :: (l.take i ++ l.drop (i + 1))).Perm _
  exact List.perm_middle.symm
theorem shuffled_ok {P : Prog} (h : P.fn 161 = some f161) (h' : P.fn 162 = some f162) (h167 : P.fn 167 = some f167) {n : Nat} {K : Int} {g : D} {l : List D} (hK : 0 ≤ K) (hl : l.length ≤ 1000) (ho : ∀ x ∈ l, okD 59 x = true) (hg : Gn (K + 2 * l.length) g) :
    ∃ (m : List D) (g' : D), run P (n + 3) 167 [g, .lst l] = .ok (.lst m, [g']) ∧ m.Perm l ∧ Gn K g' := by
  suffices hh : Ok (run P (n + 3) 167 [g, .lst l]) fun r => ∃ (m : List D) (g' : D), r = (.lst m, [g']) ∧ m.Perm l ∧ Gn K g' by
    obtain ⟨a, e, m, g', rfl, z⟩ := hh
    exact ⟨m, g', e, z⟩
  have e1 : biD .list [.lst l] = some (.lst l) := rfl
  rw [run_succ]
  simp only [h167, optR_some, bind_okk, runFn_eq]
  rw [if_pos (by rfl)]
  simp only [f167, initE, List.length_cons, List.length_nil, List.map_cons, List.map_nil, Nat.reduceSub, Nat.reduceAdd, List.replicate_succ, List.replicate_zero, List.cons_append, List.nil_append, evB_cons, ok_bind, evS_par, evA_cons, evA_nil, evE_bi, evE_v, evE_lst, gt_s, gt_0, optR_some, bind_okk, e1, lenT, itemsT, if_true, evGs_cons, evGs_nil, evG_v, st_s, st_0, List.isEmpty_nil, ok_ok, evS_whl]
  refine whlR_inv (fun m ρ => ∃ (left found : List D) (g : D), ρ = [some g, some (.lst l), some (.lst found), some (.lst left)] ∧ m = left.length ∧ (found ++ left).Perm l ∧ Gn (K + 2 * left.length) g) ?_ FUEL l.length _ (Nat.lt_of_le_of_lt hl (by decide)) ⟨l, [], g, rfl, rfl, .refl _, hg⟩
  rintro m ρ ⟨left, found, g, rfl, rfl, hp, hg⟩
  have ol : ∀ x ∈ left, okD 59 x = true := fun x hx => ho x (hp.mem_iff.mp (List.mem_append_right _ hx))
  have e2 := ne_nil ol
  have ll : found.length + left.length = l.length := by rw [← List.length_append]; exact hp.length_eq
  simp only [evE_cmp, evE_v, evE_lst, evA_nil, gt_s, gt_0, optR_some, bind_okk, e2, truO_bl, ok_ok]
  cases left with
  | nil =>
    simp
    have hp2 : found.Perm l := by simpa using hp
    have hg2 : Gn K g := by simpa using hg
    exact ⟨_, _, ⟨rfl, rfl⟩, hp2, hg2⟩
  | cons y left =>
    simp only [List.isEmpty_cons, Bool.not_false, if_true]
    rw [List.length_cons] at hg
    obtain ⟨d, g', e3, d0, d1, hg'⟩ := random_ok h h' (n := n) (K := K + 2 * left.length) (by omega) (hg.mono (by push_cast; omega) (by omega)) (b := ((y :: left).length : Int)) (by rw [List.length_cons]; omega) (by rw [List.length_cons]; rw [List.length_cons] at ll; omega)
    have hx : d.toNat < (y :: left).length := by omega
    have e4 : popL (.lst (y :: left)) (.int d) = some ((y :: left)[d.toNat], .lst ((y :: left).eraseIdx d.toNat)) := by
      show (if (y :: left).length ≤ lim then ((ixI (y :: left).length d).bind fun n => (y :: left)[n]?.map fun x => (x, D.lst ((y :: left).eraseIdx n))) else none) = _
      rw [if_pos (by unfold lim; omega), ixI_ok d0 d1, Option.bind_some, List.getElem?_eq_getElem hx]; rfl
    have e5 : found.length < lim := by unfold lim; omega
    have el : lenD (.lst (y :: left)) = some (.int ((y :: left).length : Int)) := rfl
    have e6 : ((y :: left).eraseIdx d.toNat).length = left.length := by rw [List.length_eraseIdx_of_lt hx, List.length_cons]; omega
    simp only [evB_cons, evB_nil, evS_app, evP_v, evE_pop, evE_call, evE_bi, evA_cons, evA_nil, evE_v, bi_len, gt_s, gt_0, optR_some, bind_okk, lstD, Option.bind_some, updAt, el, lend_cons, lend_nil, List.set, e3, setIO_cons, setIO_nil, st_s, st_0, e4, appD, e5, if_true, ok_map, ok_ok, maskFl_nx, unset_nil]
    refine ⟨left.length, by rw [List.length_cons]; omega, _, _, _, rfl, e6.symm, ?_, ?_⟩
    · rw [List.append_assoc]
      refine List.Perm.trans (List.Perm.append_left _ ?_) hp
      exact erase_perm hx
    · rw [e6]; exact hg'
end Pz.Pl
end
section
set_option Elab.async false
set_option linter.all false
set_option maxRecDepth 100000
set_option maxHeartbeats 400000
/-! k74: the program's functions of orders. -/
namespace Pz.K74
open Pz Pz.Co Pz.Pl
@[simp] theorem p1 : prog.fn 1 = some fn_1 := rfl
@[simp] theorem p2 : prog.fn 2 = some fn_2 := rfl
@[simp] theorem p24 : prog.fn 24 = some fn_24 := rfl
@[simp] theorem p25 : prog.fn 25 = some fn_25 := rfl
@[simp] theorem p496 : prog.fn 496 = some fn_496 := rfl
@[simp] theorem p497 : prog.fn 497 = some fn_497 := rfl
@[simp] theorem p971 : prog.fn 971 = some fn_971 := rfl
@[simp] theorem p972 : prog.fn 972 = some fn_972 := rfl
@[simp] theorem p973 : prog.fn 973 = some fn_973 := rfl
@[simp] theorem p974 : prog.fn 974 = some fn_974 := rfl
@[simp] theorem p975 : prog.fn 975 = some fn_975 := rfl
@[simp] theorem p976 : prog.fn 976 = some fn_976 := rfl
@[simp] theorem p977 : prog.fn 977 = some fn_977 := rfl
@[simp] theorem p978 : prog.fn 978 = some fn_978 := rfl
@[simp] theorem p979 : prog.fn 979 = some fn_979 := rfl
@[simp] theorem p980 : prog.fn 980 = some fn_980 := rfl
@[simp] theorem p981 : prog.fn 981 = some fn_981 := rfl
@[simp] theorem p982 : prog.fn 982 = some fn_982 := rfl
@[simp] theorem p993 : prog.fn 993 = some fn_993 := rfl
@[simp] theorem p994 : prog.fn 994 = some fn_994 := rfl
@[simp] theorem p995 : prog.fn 995 = some fn_995 := rfl
@[simp] theorem p996 : prog.fn 996 = some fn_996 := rfl
@[simp] theorem p1002 : prog.fn 1002 = some fn_1002 := rfl
theorem p161 : prog.fn 161 = some f161 := rfl
theorem p162 : prog.fn 162 = some f162 := rfl
theorem p163 : prog.fn 163 = some f163 := rfl
theorem p164 : prog.fn 164 = some f164 := rfl
theorem p165 : prog.fn 165 = some f165 := rfl
@[simp] theorem p166 : prog.fn 166 = some fn_166 := rfl
theorem p167 : prog.fn 167 = some f167 := rfl
@[simp] theorem p983 : prog.fn 983 = some fn_983 := rfl
@[simp] theorem p984 : prog.fn 984 = some fn_984 := rfl
@[simp] theorem p985 : prog.fn 985 = some fn_985 := rfl
@[simp] theorem p986 : prog.fn 986 = some fn_986 := rfl
@[simp] theorem p987 : prog.fn 987 = some fn_987 := rfl
@[simp] theorem p988 : prog.fn 988 = some fn_988 := rfl
@[simp] theorem p1031 : prog.fn 1031 = some fn_1031 := rfl
@[simp] theorem p1032 : prog.fn 1032 = some fn_1032 := rfl
/-! ### small tables -/
structure RC (R C : Int) : Prop where
  r : R = 2 ∨ R = 3
  c : C = 2 ∨ C = 3
def places (R C : Int) : List P2 := (List.range R.toNat).flatMap fun (r : Nat) => (List.range C.toNat).map fun (c : Nat) => (((r : Int), (c : Int)) : P2)
def inside (R C : Int) (q : P2) : Bool := decide (0 ≤ q.1) && decide (q.1 < R) && (decide (0 ≤ q.2) && decide (q.2 < C))
theorem places_ok {n : Nat} {R C : Int} (h : RC R C) : run prog (n + 1) 496 [.int R, .int C] = .ok (.lst ((places R C).map pl), []) := by
  obtain ⟨hr | hr, hc | hc⟩ := h <;> subst hr hc <;> (rw [run_succ]; kernel_rfl)
theorem lplaces_ok {n : Nat} {R C : Int} (h : RC R C) : run prog (n + 1) 983 [.int R, .int C] = .ok (.lst ((places R C).map pl), []) := by
  obtain ⟨hr | hr, hc | hc⟩ := h <;> subst hr hc <;> (rw [run_succ]; kernel_rfl)
theorem places_len {R C : Int} (h : RC R C) : 4 ≤ (places R C).length ∧ (places R C).length ≤ 9 ∧ ((places R C).length : Int) = R * C := by
  obtain ⟨hr | hr, hc | hc⟩ := h <;> subst hr hc <;> decide +kernel
theorem places_nodup {R C : Int} (h : RC R C) : (places R C).Nodup := by
  obtain ⟨hr | hr, hc | hc⟩ := h <;> subst hr hc <;> decide +kernel
theorem places_sorted {R C : Int} (h : RC R C) : sortP (places R C) = places R C := by
  obtain ⟨hr | hr, hc | hc⟩ := h <;> subst hr hc <;> decide +kernel
theorem mem_places {R C : Int} {p : P2} : p ∈ places R C ↔ inside R C p = true := by
  unfold places inside
  simp only [List.mem_flatMap, List.mem_map, List.mem_range, Bool.and_eq_true, decide_eq_true_eq]
  constructor
  · rintro ⟨r, hr, c, hc, rfl⟩
    simp only
    omega
  · rintro ⟨⟨h1, h2⟩, h3, h4⟩
    refine ⟨p.1.toNat, by omega, p.2.toNat, by omega, ?_⟩
    obtain ⟨a, b⟩ := p
    simp only at h1 h3 ⊢
    rw [Int.toNat_of_nonneg h1, Int.toNat_of_nonneg h3]
def near (R C : Int) (p : P2) : List P2 := ([(p.1 - 1, p.2), (p.1, p.2 - 1), (p.1, p.2 + 1), (p.1 + 1, p.2)] : List P2).filter (inside R C)
theorem near_in {R C : Int} {p q : P2} (h : q ∈ near R C p) : q ∈ places R C := mem_places.mpr (List.mem_filter.mp h).2
theorem near_len (R C : Int) (p : P2) : (near R C p).length ≤ 4 := List.length_filter_le _ _
def pickP (R C : Int) (d : D) : Option D := match d with
  | .tup [.int a, .int b] => if inside R C (a, b) then some (pl (a, b)) else none
  | _ => none
theorem fm_map (R C : Int) : ∀ l : List P2, (l.map pl).filterMap (pickP R C) = (l.filter (inside R C)).map pl
  | [] => rfl
  | p :: l => by
    rw [List.map_cons, List.filterMap_cons, List.filter_cons]
    rw [show pickP R C (pl p) = (if inside R C p then some (pl p) else none) from rfl]
    cases inside R C p with
    | true => simp only [if_true]; rw [fm_map R C l]; rfl
    | false => simp only [if_false, Bool.false_eq_true]; exact fm_map R C l
theorem beside_ok {n : Nat} {R C : Int} {p : P2} : run prog (n + 1) 497 [.int R, .int C, pl p] = .ok (.lst ((near R C p).map pl), []) := by
  refine Ok.eq ?_
  rw [run_succ]
  have ei : itemsT 2 (pl p) = some [.int p.1, .int p.2] := rfl
  simp [fn_497, initE, lenT, ei]
  refine (compR_filter (pickP R C) (fun ρ => ∃ o4 o5, ρ = [some (.int R), some (.int C), some (pl p), some (.lst (([(p.1 - 1, p.2), (p.1, p.2 - 1), (p.1, p.2 + 1), (p.1 + 1, p.2)] : List P2).map pl)), o4, o5, some (.int p.1), some (.int p.2)]) (([(p.1 - 1, p.2), (p.1, p.2 - 1), (p.1, p.2 + 1), (p.1 + 1, p.2)] : List P2).map pl) _ _ ⟨_, _, rfl⟩ ?_ (by simp [lim])).mono ?_
  · rintro x hx ρ acc ⟨o4, o5, rfl⟩ ha
    obtain ⟨q, _, rfl⟩ := List.mem_map.mp hx
    have e2 : itemsT 2 (.tup [.int q.1, .int q.2]) = some [.int q.1, .int q.2] := rfl
    have e3 : pickP R C (pl q) = if inside R C q then some (pl q) else none := rfl
    rw [e3]
    by_cases h1 : 0 ≤ q.1 <;> by_cases h2 : q.1 < R <;> by_cases h3 : 0 ≤ q.2 <;> by_cases h4 : q.2 < C <;> simp [e2, lenT, inside, h1, h2, h3, h4, push, ha, pl]
  · rintro ⟨l, ρ⟩ ⟨e1, o4, o5, e2⟩
    replace e1 : l = [] ++ (([(p.1 - 1, p.2), (p.1, p.2 - 1), (p.1, p.2 + 1), (p.1 + 1, p.2)] : List P2).map pl).filterMap (pickP R C) := e1
    replace e2 : ρ = _ := e2
    subst e1 e2
    rw [List.nil_append, fm_map]
    simp [back, near]
/-! ### tables -/
def isI (d : D) : Bool := match d with
  | .int _ => true
  | _ => false
theorem whole_ok {n : Nat} {d : D} (h : tyOk d = true) : run prog (n + 1) 1 [d] = .ok (.bl (isI d), []) := by
  refine Ok.eq ?_
  rw [run_succ]
  cases d <;> first | (cases h; done) | simp [fn_1, initE, isTs, tyOk, isTy, isI]
def isC (d : D) : Bool := match d with
  | .int i => decide (0 ≤ i)
  | _ => false
theorem count_ok {n : Nat} {d : D} (h : tyOk d = true) : run prog (n + 2) 2 [d] = .ok (.bl (isC d), []) := by
  have e := whole_ok (n := n) h
  refine Ok.eq ?_
  rw [run_succ]
  cases d <;> first | (cases h; done) | (simp only [isI] at e; simp [fn_2, initE, e, isC])
def tabB (a b : D) : Bool := match a, b with
  | .int i, .int j => decide (1 ≤ i) && decide (1 ≤ j)
  | _, _ => false
theorem table_ok {n : Nat} {a b : D} (h : tyOk a = true) (h' : tyOk b = true) : run prog (n + 2) 24 [a, b] = .ok (.bl (tabB a b), []) := by
  have e1 := whole_ok (n := n) h
  have e2 := whole_ok (n := n) h'
  refine Ok.eq ?_
  rw [run_succ]
  cases a <;> first | (cases h; done) | skip
  case int i =>
    simp only [isI] at e1
    by_cases hi : 1 ≤ i
    · cases b <;> first | (cases h'; done) | (simp only [isI] at e2; simp [fn_24, initE, e1, e2, tabB, hi])
    · cases b <;> first | (cases h'; done) | (simp only [isI] at e2; simp [fn_24, initE, e1, e2, tabB, hi])
  all_goals (simp only [isI] at e1; simp [fn_24, initE, e1, tabB])
theorem ctable_ok {n : Nat} {R C : Int} (h : RC R C) : run prog (n + 3) 25 [.int R, .int C] = .ok (.non, []) := by
  have e := table_ok (n := n) (a := .int R) (b := .int C) rfl rfl
  have e2 : tabB (.int R) (.int C) = true := by
    obtain ⟨hr | hr, hc | hc⟩ := h <;> subst hr hc <;> rfl
  rw [e2] at e
  refine Ok.eq ?_
  rw [run_succ]
  simp [fn_25, initE, e]
theorem ctable_no {n : Nat} {a b : D} (h : tyOk a = true) (h' : tyOk b = true) (hb : tabB a b = false) : run prog (n + 3) 25 [a, b] = .error (.exc 7 [.tup [a, b]]) := by
  have e := table_ok (n := n) h h'
  rw [hb] at e
  rw [run_succ]
  simp [fn_25, initE, e]
end Pz.K74
end
section
set_option Elab.async false
set_option linter.all false
set_option maxRecDepth 100000
set_option maxHeartbeats 400000
/-! k74: orders. -/
namespace Pz.K74
open Pz Pz.Co Pz.Pl
theorem ne_int (i j : Int) : cmpB .ne (.int i) (.int j) = some (!decide (i = j)) := by
  show (some (i == j)).map (!·) = _
  rfl
theorem eq_int (i j : Int) : cmpB .eq (.int i) (.int j) = some (decide (i = j)) := by
  show some (i == j) = _
  rfl
/-! ### spots -/
def spB (R C : Int) (x : D) : Bool := match x with
  | .tup l => (match l with
    | [a, b] => (match a, b with
      | .int i, .int j => inside R C (i, j)
      | _, _ => false)
    | _ => false)
  | _ => false
def spJ (x : D) : Bool := tyOk x && (match x with
  | .tup l => l.all tyOk
  | _ => true)
theorem spB_a {R C : Int} {a b : D} (h : isC a = false) : spB R C (.tup [a, b]) = false := by
  cases a with
  | int i =>
    cases b with
    | int j =>
      have hc : decide (0 ≤ i) = false := h
      show (decide (0 ≤ i) && decide (i < R) && (decide (0 ≤ j) && decide (j < C))) = false
      rw [hc]; rfl
    | _ => rfl
  | _ => rfl
theorem spB_b {R C : Int} {a b : D} (h : isC b = false) : spB R C (.tup [a, b]) = false := by
  cases a with
  | int i =>
    cases b with
    | int j =>
      have hc : decide (0 ≤ j) = false := h
      show (decide (0 ≤ i) && decide (i < R) && (decide (0 ≤ j) && decide (j < C))) = false
      rw [hc, Bool.false_and, Bool.and_false]
    | _ => rfl
  | _ => rfl
theorem spot_ok {n : Nat} {R C : Int} {x : D} (h : spJ x = true) : run prog (n + 3) 971 [.int R, .int C, x] = .ok (.bl (spB R C x), []) := by
  unfold spJ at h
  rw [Bool.and_eq_true] at h
  obtain ⟨h1, h2⟩ := h
  refine Ok.eq ?_
  rw [run_succ]
  by_cases ht : isTy x .tuple = true
  · cases x <;> first | (cases ht; done) | skip
    rename_i l
    have it : isTs (.tup l) [.tuple] = some true := rfl
    by_cases hl : l.length = 2
    · match l, hl with
      | [a, b], _ =>
        replace h2 : (tyOk a && (tyOk b && true)) = true := h2
        simp only [Bool.and_eq_true, and_true] at h2
        have e1 := count_ok (n := n) h2.1
        have e2 := count_ok (n := n) h2.2
        have g0 : getD (.tup [a, b]) (.int 0) = some a := rfl
        have g1 : getD (.tup [a, b]) (.int 1) = some b := rfl
        have c1 : isC a = true → ∃ i : Int, a = .int i ∧ 0 ≤ i := fun h => by
          cases a <;> first | (cases h; done) | exact ⟨_, rfl, of_decide_eq_true h⟩
        have c2 : isC b = true → ∃ i : Int, b = .int i ∧ 0 ≤ i := fun h => by
          cases b <;> first | (cases h; done) | exact ⟨_, rfl, of_decide_eq_true h⟩
        cases hc : isC a with
        | false =>
          have es : spB R C (.tup [a, b]) = false := spB_a hc
          rw [hc] at e1
          simp [fn_971, initE, it, ne_int, g0, g1, e1, es]
        | true =>
          obtain ⟨i, rfl, hi⟩ := c1 hc
          cases hd : isC b with
          | false =>
            have es : spB R C (.tup [.int i, b]) = false := spB_b hd
            rw [hc] at e1
            rw [hd] at e2
            simp [fn_971, initE, it, ne_int, g0, g1, e1, e2, es]
          | true =>
            obtain ⟨j, rfl, hj⟩ := c2 hd
            have es : spB R C (.tup [.int i, .int j]) = (decide (i < R) && decide (j < C)) := by
              show inside _ _ _ = _
              unfold inside
              rw [decide_eq_true hi, decide_eq_true hj]; simp
            rw [hc] at e1
            rw [hd] at e2
            by_cases h5 : i < R <;> simp [fn_971, initE, it, ne_int, g0, g1, e1, e2, es, h5]
    · have es : spB R C (.tup l) = false := by
        match l, hl with
        | [], _ => rfl
        | [_], _ => rfl
        | [_, _], hl => exact absurd rfl hl
        | _ :: _ :: _ :: _, _ => rfl
      have : ¬ (l.length : Int) = 2 := by omega
      simp [fn_971, initE, it, ne_int, this, es]
  · have it : isTs x [.tuple] = some false := by
      show (if tyOk x then (if isTy x .tuple then some true else some false) else none) = _
      rw [h1]; simp [ht]
    have es : spB R C x = false := by cases x <;> first | rfl | exact absurd rfl ht
    simp [fn_971, initE, it, es]
theorem spJ_pl (p : P2) : spJ (pl p) = true := rfl
theorem spB_pl (R C : Int) (p : P2) : spB R C (pl p) = inside R C p := rfl
/-! ### orders -/
theorem allB_map (f : D → Bool) : ∀ l : List D, allB (l.map fun x => D.bl (f x)) = some (l.all f)
  | [] => rfl
  | x :: l => by
    show (allB (l.map fun x => D.bl (f x))).map (f x && ·) = _
    rw [allB_map f l]; rfl
theorem fm_some (f : D → D) : ∀ l : List D, l.filterMap (fun x => some (f x)) = l.map f
  | [] => rfl
  | x :: l => by rw [List.filterMap_cons, fm_some f l]; rfl
theorem there_no {n : Nat} {R C : Int} {d : D} (h : tyOk d = true) (hd : isTy d .list = false) : run prog (n + 4) 972 [.int R, .int C, d] = .ok (.bl false, []) := by
  have it : isTs d [.list] = some false := by
    show (if tyOk d then (if isTy d .list then some true else some false) else none) = _
    rw [h, hd]; rfl
  refine Ok.eq ?_
  rw [run_succ]
  simp [fn_972, initE, it]
/-- the list of what the spots tell -/
theorem spots_ok {n : Nat} {R C : Int} {l : List D} (hl : l.length ≤ 1000) (h : ∀ x ∈ l, spJ x = true) :
    Ok (evE { call := run prog (n + 3), glob := prog.glob, fuel := FUEL } (.bi .all (.cons (.lc (.call 971 (.cons (.v 0) (.cons (.v 1) (.cons (.v 3) .nil))) []) (.v 3) (.wlk (.v 2)) .nil [3]) .nil)) [some (.int R), some (.int C), some (.lst l), none]) fun p => p = (.bl (l.all (spB R C)), [some (.int R), some (.int C), some (.lst l), none]) := by
  simp
  refine (compR_filter (fun x => some (.bl (spB R C x))) (fun ρ => ∃ o, ρ = [some (.int R), some (.int C), some (.lst l), o]) _ _ _ ⟨_, rfl⟩ ?_ (by simp [lim]; omega)).mono ?_
  · rintro x hx ρ acc ⟨o, rfl⟩ ha
    simp [spot_ok (n := n) (R := R) (C := C) (h x hx), push, ha]
  · rintro ⟨m, ρ⟩ ⟨e1, o, e2⟩
    replace e1 : m = [] ++ l.filterMap fun x => some (.bl (spB R C x)) := e1
    replace e2 : ρ = _ := e2
    subst e1 e2
    rw [List.nil_append, fm_some]
    have e3 : biD .all [.lst (l.map fun x => D.bl (spB R C x))] = some (.bl (l.all (spB R C))) := by
      show (allB _).map D.bl = _
      rw [allB_map]; rfl
    simp [back, e3]
theorem there_bad {n : Nat} {R C : Int} {l : List D} (hl : l.length ≤ 1000) (h : ∀ x ∈ l, spJ x = true) (hb : l.all (spB R C) = false) : run prog (n + 4) 972 [.int R, .int C, .lst l] = .ok (.bl false, []) := by
  have e := (spots_ok (n := n) (R := R) (C := C) hl h).eq
  rw [hb] at e
  have it : isTs (.lst l) [.list] = some true := rfl
  refine Ok.eq ?_
  rw [run_succ]
  simp only [p972, optR_some, bind_okk, runFn_eq]
  rw [if_pos (by rfl)]
  simp only [fn_972, initE, List.length_cons, List.length_nil, List.map_cons, List.map_nil, Nat.reduceSub, Nat.reduceAdd, List.replicate_succ, List.replicate_zero, List.cons_append, List.nil_append, evB_cons, ok_bind, evS_sif, evE_or, evE_not, evE_isi, evE_v, gt_s, gt_0, optR_some, bind_okk, it, truO_bl, ok_ok, Bool.not_true, e, Bool.not_false, if_true, evS_ret, evE_ff, evB_nil]
  simp
theorem there_ok {n : Nat} {R C : Int} {q : List P2} (rc : RC R C) (hl : q.length ≤ 1000) (h : ∀ p ∈ q, p ∈ places R C) : run prog (n + 4) 972 [.int R, .int C, .lst (q.map pl)] = .ok (.bl (decide ((q.length : Int) = R * C) && decide (sortP q = places R C)), []) := by
  have e := (spots_ok (n := n) (R := R) (C := C) (l := q.map pl) (by rw [List.length_map]; exact hl) (fun x hx => by
    obtain ⟨p, _, rfl⟩ := List.mem_map.mp hx
    exact spJ_pl p)).eq
  have hb : (q.map pl).all (spB R C) = true := by
    rw [List.all_map, List.all_eq_true]
    exact fun p hp => mem_places.mp (h p hp)
  rw [hb] at e
  have it : isTs (.lst (q.map pl)) [.list] = some true := rfl
  have e2 := places_ok (n := n + 2) rc
  have e3 := sort_pl hl
  have e4 := eq_pl (sortP q) (places R C)
  have e5 : binD .mul (.int R) (.int C) = some (.int (R * C)) := binD_mul (.inl (by obtain ⟨hr | hr, _⟩ := rc <;> subst hr <;> decide))
  have el : lenD (.lst (q.map pl)) = some (.int (q.length : Int)) := by rw [lenD_lst, List.length_map]
  refine Ok.eq ?_
  rw [run_succ]
  simp only [p972, optR_some, bind_okk, runFn_eq]
  rw [if_pos (by rfl)]
  simp only [fn_972, initE, List.length_cons, List.length_nil, List.map_cons, List.map_nil, Nat.reduceSub, Nat.reduceAdd, List.replicate_succ, List.replicate_zero, List.cons_append, List.nil_append, evB_cons, ok_bind, evS_sif, evE_or, evE_not, evE_isi, evE_v, gt_s, gt_0, optR_some, bind_okk, it, truO_bl, ok_ok, Bool.not_true, e, Bool.false_eq_true, if_false, evB_nil]
  simp only [evS_ret, evE_and, evE_cmp, evE_v, gt_s, gt_0, optR_some, bind_okk, ok_bind, truO_bl, ok_ok, evE_bi, evA_cons, evA_nil, bi_len, el, evE_bin, e5, eq_int, evE_call, lend_nil, e2, setIO_nil, e3, e4]
  by_cases hq : (q.length : Int) = R * C <;> simp [hq]
end Pz.K74
end
section
set_option Elab.async false
set_option linter.all false
set_option maxRecDepth 100000
set_option maxHeartbeats 400000
/-! k74: what right orders come to. -/
namespace Pz.K74
open Pz Pz.Co Pz.Pl
theorem enum_mem : ∀ {l : List D} {k : Nat} {x : D}, x ∈ enumD k l → ∃ (i : Nat) (y : D), x = .tup [.int i, y] ∧ y ∈ l
  | [], _, _, h => by cases h
  | y :: l, k, x, h => by
    rcases List.mem_cons.mp h with rfl | h
    · exact ⟨k, y, rfl, List.mem_cons_self⟩
    · obtain ⟨i, z, e, hz⟩ := enum_mem h
      exact ⟨i, z, e, List.mem_cons_of_mem _ hz⟩
theorem enum_len : ∀ (l : List D) (k : Nat), (enumD k l).length = l.length
  | [], _ => rfl
  | _ :: l, k => by show (enumD (k + 1) l).length + 1 = _; rw [enum_len l]; rfl
theorem slc_map (l : List P2) (a b : Option Int) : slcL (l.map pl) a b = (slcL l a b).map pl := by
  unfold slcL
  rw [List.length_map, List.map_take, List.map_drop]
theorem nodup_len : ∀ {l m : List P2}, l.Nodup → (∀ x ∈ l, x ∈ m) → l.length ≤ m.length
  | [], _, _, _ => Nat.zero_le _
  | x :: l, m, hn, h => by
    have hx := h x List.mem_cons_self
    have hn' := List.nodup_cons.mp hn
    have := nodup_len (l := l) (m := m.erase x) hn'.2 fun y hy => by
      have : y ≠ x := fun e => hn'.1 (e ▸ hy)
      exact (List.mem_erase_of_ne this).mpr (h y (List.mem_cons_of_mem _ hy))
    rw [List.length_erase_of_mem hx] at this
    have : 0 < m.length := List.length_pos_of_mem hx
    rw [List.length_cons]; omega
@[simp] theorem nonT_v (i : Nat) : isNonT (.v i) = false := rfl
@[simp] theorem nonT_int (i : Int) : isNonT (.int i) = false := rfl
@[simp] theorem nonT_bin (o : Bop) (a b : T) : isNonT (.bin o a b) = false := rfl
@[simp] theorem nonT_neg (a : T) : isNonT (.neg a) = false := rfl
def IsPl (x : D) : Prop := ∃ p : P2, x = pl p
def IsEn (x : D) : Prop := ∃ (i : Nat) (p : P2), x = .tup [.int i, pl p]
theorem isPl_map {l : List P2} {x : D} (h : x ∈ l.map pl) : IsPl x := by
  obtain ⟨p, _, rfl⟩ := List.mem_map.mp h
  exact ⟨p, rfl⟩
variable {n : Nat} {R C : Int} {q : List P2}
/-- at each place an int, at most 4 -/
theorem fits_ok (hq : q.length ≤ 9) : ∃ ks : List Int, run prog (n + 2) 975 [.int R, .int C, .lst (q.map pl)] = .ok (.lst (ks.map D.int), []) ∧ ks.length ≤ 9 := by
  suffices hh : Ok (run prog (n + 2) 975 [.int R, .int C, .lst (q.map pl)]) fun r => ∃ ks : List Int, r = (.lst (ks.map D.int), []) ∧ ks.length ≤ 9 by
    obtain ⟨a, e, ks, rfl, z⟩ := hh
    exact ⟨ks, e, z⟩
  rw [run_succ]
  simp only [p975, optR_some, bind_okk, runFn_eq]
  rw [if_pos (by rfl)]
  simp only [fn_975, initE, List.length_cons, List.length_nil, List.map_cons, List.map_nil, Nat.reduceSub, Nat.reduceAdd, List.replicate_succ, List.replicate_zero, List.cons_append, List.nil_append, evB_cons, ok_bind, evS_asg, evE_lst, evA_nil, evG_v, st_s, st_0, bind_okk, ok_ok, evS_for, evI_enum, evE_v, gt_s, gt_0, optR_some, lstO]
  refine forR_inv _ (fun r ρ => ∃ ks : List Int, ρ = [some (.int R), some (.int C), some (.lst (q.map pl)), some (.lst (ks.map D.int)), none, none, none] ∧ ks.length + r.length ≤ 9 ∧ ∀ x ∈ r, IsEn x) _ ⟨[], rfl, by rw [enum_len, List.length_map]; simpa using hq, fun x hx => ?_⟩ ?_ ?_
  · obtain ⟨i, y, e, hy⟩ := enum_mem hx
    obtain ⟨p, _, rfl⟩ := List.mem_map.mp hy
    exact ⟨i, p, e⟩
  · rintro x r ρ _ ⟨ks, rfl, hl, hr⟩
    obtain ⟨i, p, rfl⟩ := hr x List.mem_cons_self
    have hr2 : ∀ x ∈ r, IsEn x := fun y hy => hr y (List.mem_cons_of_mem _ hy)
    rw [List.length_cons] at hl
    have e1 : itemsT 2 (.tup [.int (i : Int), pl p]) = some [.int i, pl p] := rfl
    have e2 := beside_ok (n := n) (R := R) (C := C) (p := p)
    have e3 : slcV none (some (i : Int)) (.lst (q.map pl)) = some (.lst ((slcL q none (some (i : Int))).map pl)) := by
      show some (D.lst (slcL (q.map pl) none (some (i : Int)))) = _
      rw [slc_map]
    simp [lenT, e1, e2, lstD, updAt]
    refine (compR_inv ((near R C p).map pl) (fun s (acc : List D) ρ => (∃ o, ρ = [some (.int R), some (.int C), some (.lst (q.map pl)), some (.lst (ks.map D.int)), some (pl p), o, some (.int (i : Int))]) ∧ acc.length + s.length ≤ 4 ∧ ∀ x ∈ s, IsPl x) (Q := fun (a : List D × Env) => a.1.length ≤ 4 ∧ ∃ o, a.2 = [some (.int R), some (.int C), some (.lst (q.map pl)), some (.lst (ks.map D.int)), some (pl p), o, some (.int (i : Int))]) _ [] ⟨⟨_, rfl⟩, by simpa using near_len R C p, fun x hx => isPl_map hx⟩ ?_ ?_).mono ?_
    · rintro x s ρ acc _ ⟨⟨o, rfl⟩, ha, hs⟩
      obtain ⟨p2, rfl⟩ := hs x List.mem_cons_self
      rw [List.length_cons] at ha
      have ha' : acc.length < lim := by unfold lim; omega
      have hs2 : ∀ x ∈ s, IsPl x := fun y hy => hs y (List.mem_cons_of_mem _ hy)
      have e4 := in_pl p2 (slcL q none (some (i : Int)))
      cases hm : decide (p2 ∈ slcL q none (some (i : Int))) with
      | true =>
        rw [hm] at e4
        simp [e3, e4, push, ha']
        exact ⟨by omega, hs2⟩
      | false =>
        rw [hm] at e4
        simp [e3, e4]
        exact ⟨by omega, hs2⟩
    · rintro acc ρ ⟨⟨o, rfl⟩, ha, _⟩
      exact ⟨by simpa using ha, _, rfl⟩
    · rintro ⟨acc, ρ⟩ ⟨ha, o, e⟩
      replace e : ρ = _ := e
      subst e
      have hk : ks.length < lim := by unfold lim; omega
      simp [back, lstD, updAt, appD, hk]
      exact ⟨ks ++ [(acc.length : Int)], by simp, by simp; omega, hr2⟩
  · rintro ρ ⟨ks, rfl, hl, _⟩
    simp
    exact ⟨ks, rfl, by simpa using hl⟩
end Pz.K74
end
section
set_option Elab.async false
set_option linter.all false
set_option maxRecDepth 100000
set_option maxHeartbeats 400000
/-! k74: heaps. -/
namespace Pz.K74
open Pz Pz.Co Pz.Pl
variable {n : Nat} {R C : Int} {q : List P2}
theorem pop_last {l : List P2} {z : P2} (h : l.length < 1000) : popL (.lst ((l ++ [z]).map pl)) (.int (-1)) = some (pl z, .lst (l.map pl)) := by
  have hl : ((l ++ [z]).map pl).length = l.length + 1 := by simp
  show (if ((l ++ [z]).map pl).length ≤ lim then ((ixI ((l ++ [z]).map pl).length (-1)).bind fun n => ((l ++ [z]).map pl)[n]?.map fun x => (x, D.lst (((l ++ [z]).map pl).eraseIdx n))) else none) = _
  rw [if_pos (by rw [hl]; unfold lim; omega), hl]
  have e1 : ixI (l.length + 1) (-1) = some l.length := by
    unfold ixI
    rw [if_neg (by omega), if_pos (by push_cast; omega)]
    congr 1
    push_cast
    omega
  rw [e1, Option.bind_some, List.map_append]
  have e2 : (l.map pl ++ [z].map pl)[l.length]? = some (pl z) := by
    rw [List.getElem?_append_right (by rw [List.length_map]; exact Nat.le_refl _), List.length_map, Nat.sub_self]; rfl
  rw [e2]
  have e3 : (l.map pl ++ [z].map pl).eraseIdx l.length = l.map pl := by
    rw [List.eraseIdx_append_of_length_le (by rw [List.length_map]; exact Nat.le_refl _), List.length_map, Nat.sub_self]
    simp
  rw [e3]; rfl
/-- a place of the table -/
def InT (R C : Int) (x : D) : Prop := ∃ p : P2, x = pl p ∧ p ∈ places R C
abbrev HE (R C : Int) (q : List P2) (f : P2) (found line : List P2) (o : Option D) : Env := [some (.int R), some (.int C), some (.lst (q.map pl)), some (pl f), some (.lst (found.map pl)), some (.lst (line.map pl)), o]
/-- the places beside one that was taken from the line -/
theorem walk_ok {C0 : Cfg} (rc : RC R C) {f : P2} (M : Nat) (hM : M ≤ 100) : ∀ (r : List D) (found line : List P2) (o : Option D), (∀ x ∈ r, InT R C x) → found.Nodup → (∀ p ∈ found, p ∈ places R C) → line.length + 2 * (9 - found.length) ≤ M →
    Ok (forR (fun x ρ => (evG C0 (.v 6) x ρ).bind fun ρ' => (evB C0 (.cons (.sif (.and (.cmp .isin (.v 6) (.v 2)) (.cmp .notin (.v 6) (.v 4))) (.cons (.app (.v 4) (.v 6)) (.cons (.app (.v 5) (.v 6)) .nil)) .nil) .nil) ρ').map (maskFl [6])) r (HE R C q f found line o)) fun fl => ∃ (found line : List P2) (o : Option D), fl = .nx (HE R C q f found line o) ∧ found.Nodup ∧ (∀ p ∈ found, p ∈ places R C) ∧ line.length + 2 * (9 - found.length) ≤ M := by
  intro r found line o hr hn hf hl
  refine forR_inv r (fun r ρ => ∃ (found line : List P2) (o : Option D), ρ = HE R C q f found line o ∧ found.Nodup ∧ (∀ p ∈ found, p ∈ places R C) ∧ line.length + 2 * (9 - found.length) ≤ M ∧ ∀ x ∈ r, InT R C x) _ ⟨found, line, o, rfl, hn, hf, hl, hr⟩ ?_ ?_
  · rintro x r ρ _ ⟨found, line, o, rfl, hn, hf, hl, hr⟩
    obtain ⟨p, rfl, hp⟩ := hr x List.mem_cons_self
    have hr2 : ∀ y ∈ r, InT R C y := fun y hy => hr y (List.mem_cons_of_mem _ hy)
    have e1 := in_pl p q
    have e2 := notin_pl p found
    have lf := nodup_len hn hf
    have l9 := (places_len rc).2.1
    have h1 : (found.map pl).length < lim := by rw [List.length_map]; unfold lim; omega
    have h2 : (line.map pl).length < lim := by rw [List.length_map]; unfold lim; omega
    have a1 : updAt (appD (pl p)) [] (.lst (found.map pl)) = some (.lst ((found ++ [p]).map pl)) := by
      show (if (found.map pl).length < lim then some (D.lst (found.map pl ++ [pl p])) else none) = _
      rw [if_pos h1, List.map_append]; rfl
    have a2 : updAt (appD (pl p)) [] (.lst (line.map pl)) = some (.lst ((line ++ [p]).map pl)) := by
      show (if (line.map pl).length < lim then some (D.lst (line.map pl ++ [pl p])) else none) = _
      rw [if_pos h2, List.map_append]; rfl
    have b1 : updAt lstD [] (.lst (found.map pl)) = some (.lst (found.map pl)) := rfl
    have b2 : updAt lstD [] (.lst (line.map pl)) = some (.lst (line.map pl)) := rfl
    cases hq : decide (p ∈ q) with
    | false =>
      rw [hq] at e1
      simp only [evG_v, bind_okk, HE, st_s, st_0, evB_cons, evB_nil, evS_sif, evE_and, evE_cmp, evE_v, gt_s, gt_0, optR_some, e1, truO_bl, Bool.false_eq_true, if_false, map_okk, maskFl_nx, ok_ok]
      exact ⟨found, line, none, rfl, hn, hf, hl, hr2⟩
    | true =>
      rw [hq] at e1
      by_cases hm : p ∈ found
      · rw [decide_eq_true hm] at e2
        simp only [evG_v, bind_okk, HE, st_s, st_0, evB_cons, evB_nil, evS_sif, evE_and, evE_cmp, evE_v, gt_s, gt_0, optR_some, e1, e2, truO_bl, if_true, Bool.not_true, Bool.false_eq_true, if_false, map_okk, maskFl_nx, ok_ok]
        exact ⟨found, line, none, rfl, hn, hf, hl, hr2⟩
      · rw [decide_eq_false hm] at e2
        have hn' : (found ++ [p]).Nodup := by
          rw [List.nodup_append]
          refine ⟨hn, by simp, fun a ha b hb e => ?_⟩
          rw [List.mem_singleton] at hb
          subst hb; subst e
          exact hm ha
        have hf' : ∀ a ∈ found ++ [p], a ∈ places R C := fun a ha => by
          rcases List.mem_append.mp ha with h | h
          · exact hf a h
          · rw [List.mem_singleton.mp h]; exact hp
        have lf' := nodup_len hn' hf'
        rw [List.length_append] at lf'
        simp only [List.length_cons, List.length_nil] at lf'
        simp only [evG_v, bind_okk, HE, st_s, st_0, evB_cons, evB_nil, evS_sif, evS_app, evP_v, Option.bind_some, evE_and, evE_cmp, evE_v, gt_s, gt_0, optR_some, e1, e2, truO_bl, if_true, Bool.not_false, a1, a2, b1, b2, map_okk, maskFl_nx, ok_ok]
        exact ⟨found ++ [p], line ++ [p], none, rfl, hn', hf', by simp only [List.length_append, List.length_cons, List.length_nil]; omega, hr2⟩
  · rintro ρ ⟨found, line, o, rfl, hn, hf, hl, _⟩
    exact ⟨found, line, o, rfl, hn, hf, hl⟩
theorem heap_ok (rc : RC R C) {f : P2} (hf : f ∈ places R C) : ∃ s : List P2, run prog (n + 2) 977 [.int R, .int C, .lst (q.map pl), pl f] = .ok (.lst (s.map pl), []) ∧ s.length ≤ 9 := by
  suffices hh : Ok (run prog (n + 2) 977 [.int R, .int C, .lst (q.map pl), pl f]) fun r => ∃ s : List P2, r = (.lst (s.map pl), []) ∧ s.length ≤ 9 by
    obtain ⟨a, e, s, rfl, z⟩ := hh
    exact ⟨s, e, z⟩
  rw [run_succ]
  simp only [p977, optR_some, bind_okk, runFn_eq]
  rw [if_pos (by rfl)]
  simp only [fn_977, initE, List.length_cons, List.length_nil, List.map_cons, List.map_nil, Nat.reduceSub, Nat.reduceAdd, List.replicate_succ, List.replicate_zero, List.cons_append, List.nil_append, evB_cons, ok_bind, evS_par, evA_cons, evA_nil, evE_lst, evE_v, gt_s, gt_0, optR_some, bind_okk, lenT, itemsT, if_true, evGs_cons, evGs_nil, evG_v, st_s, st_0, List.isEmpty_nil, ok_ok, evS_whl]
  refine whlR_inv (fun m ρ => ∃ (found line : List P2) (o : Option D), ρ = HE R C q f found line o ∧ found.Nodup ∧ (∀ p ∈ found, p ∈ places R C) ∧ line.length + 2 * (9 - found.length) ≤ m ∧ m ≤ 50) ?_ FUEL 20 _ (by decide) ⟨[f], [f], none, rfl, by simp, by simpa using hf, by show 1 + 2 * (9 - 1) ≤ 20; decide, by decide⟩
  rintro m ρ ⟨found, line, o, rfl, hn, hfo, hl, hm⟩
  have e0 := ne_nil (l := line.map pl) fun x hx => by
    obtain ⟨p, _, rfl⟩ := List.mem_map.mp hx
    rfl
  rw [List.isEmpty_map] at e0
  simp only [HE, evE_cmp, evE_v, evE_lst, evA_nil, gt_s, gt_0, optR_some, bind_okk, e0, truO_bl, ok_ok]
  rcases List.eq_nil_or_concat line with rfl | ⟨l', z, rfl⟩
  · have lf := nodup_len hn hfo
    have l9 := (places_len rc).2.1
    simp
    exact ⟨found, rfl, by omega⟩
  · rw [List.concat_eq_append] at hl ⊢
    rw [List.length_append] at hl
    simp only [List.length_cons, List.length_nil] at hl
    have e1 := pop_last (l := l') (z := z) (by omega)
    have e2 := beside_ok (n := n) (R := R) (C := C) (p := z)
    have e3 : (l' ++ [z]).isEmpty = false := by cases l' <;> rfl
    simp only [e3, Bool.not_false, if_true, evB_cons, evB_nil, evS_for, evI_wlk, evE_call, evA_cons, evA_nil, evE_v, evE_pop, evE_int, gt_s, gt_0, optR_some, bind_okk, lstD, Option.bind_some, e1, st_s, st_0, lend_nil, e2, setIO_nil, itemsD_lst, ok_map, ok_bind, ok_ok]
    refine (walk_ok rc (m - 1) (by omega) ((near R C z).map pl) found l' o (fun x hx => ?_) hn hfo (by omega)).mono ?_
    · obtain ⟨p, hp, rfl⟩ := List.mem_map.mp hx
      exact ⟨p, rfl, near_in hp⟩
    · rintro _ ⟨found', line', o', rfl, h1, h2, h3⟩
      simp only [maskFl_nx, ok_ok]
      exact ⟨m - 1, by omega, found', line', none, rfl, h1, h2, h3, by omega⟩
end Pz.K74
end
section
set_option Elab.async false
set_option linter.all false
set_option maxRecDepth 100000
set_option maxHeartbeats 400000
/-! k74: the functions of orders. -/
namespace Pz.K74
open Pz Pz.Co Pz.Pl
variable {n : Nat} {R C : Int} {q : List P2}
theorem heaps_ok (rc : RC R C) (hq : q.length ≤ 9) (hp : ∀ p ∈ q, p ∈ places R C) : ∃ k : Int, run prog (n + 3) 978 [.int R, .int C, .lst (q.map pl)] = .ok (.int k, []) := by
  suffices hh : Ok (run prog (n + 3) 978 [.int R, .int C, .lst (q.map pl)]) fun r => ∃ k : Int, r = (.int k, []) by
    obtain ⟨a, e, k, rfl⟩ := hh
    exact ⟨k, e⟩
  rw [run_succ]
  simp only [p978, optR_some, bind_okk, runFn_eq]
  rw [if_pos (by rfl)]
  simp only [fn_978, initE, List.length_cons, List.length_nil, List.map_cons, List.map_nil, Nat.reduceSub, Nat.reduceAdd, List.replicate_succ, List.replicate_zero, List.cons_append, List.nil_append, evB_cons, ok_bind, evS_par, evA_cons, evA_nil, evE_int, evE_lst, evE_v, gt_s, gt_0, optR_some, bind_okk, lenT, itemsT, if_true, evGs_cons, evGs_nil, evG_v, st_s, st_0, List.isEmpty_nil, ok_ok, evS_for, evI_wlk, itemsD_lst]
  refine forR_inv _ (fun r ρ => ∃ (k : Int) (s : List P2), ρ = [some (.int R), some (.int C), some (.lst (q.map pl)), some (.int k), some (.lst (s.map pl)), none] ∧ s.length + 9 * r.length ≤ 100 ∧ ∀ x ∈ r, InT R C x) _ ⟨0, [], rfl, by simp; omega, fun x hx => ?_⟩ ?_ ?_
  · obtain ⟨p, h, rfl⟩ := List.mem_map.mp hx
    exact ⟨p, rfl, hp p h⟩
  · rintro x r ρ _ ⟨k, s, rfl, hl, hr⟩
    obtain ⟨p, rfl, hp⟩ := hr x List.mem_cons_self
    have hr2 : ∀ y ∈ r, InT R C y := fun y hy => hr y (List.mem_cons_of_mem _ hy)
    rw [List.length_cons] at hl
    have e1 := notin_pl p s
    obtain ⟨t, e2, ht⟩ := heap_ok (n := n) (q := q) rc hp
    have e3 : binD .add (.lst (s.map pl)) (.lst (t.map pl)) = some (.lst ((s ++ t).map pl)) := by
      rw [List.map_append]
      exact if_pos (by rw [List.length_map, List.length_map]; unfold lim; omega)
    by_cases hm : p ∈ s
    · rw [decide_eq_true hm] at e1
      simp [e1]
      exact ⟨k, s, ⟨rfl, rfl⟩, by omega, hr2⟩
    · rw [decide_eq_false hm] at e1
      simp only [evG_v, bind_okk, st_s, st_0, evB_cons, evB_nil, evS_sif, evS_asg, evE_cmp, evE_call, evE_bin, evE_int, evA_cons, evA_nil, evE_v, gt_s, gt_0, optR_some, e1, truO_bl, Bool.not_false, if_true, lend_nil, e2, setIO_nil, e3, binD_add, map_okk, maskFl_nx, ok_ok]
      exact ⟨_, s ++ t, rfl, by rw [List.length_append]; omega, hr2⟩
  · rintro ρ ⟨k, s, rfl, _⟩
    simp
/-! ### tables and orders are asked first -/
theorem corder_tab {a b d : D} (h : tyOk a = true) (h' : tyOk b = true) (hb : tabB a b = false) : run prog (n + 5) 974 [a, b, d] = .error (.exc 7 [.tup [a, b]]) := by
  have e := ctable_no (n := n + 1) h h' hb
  rw [run_succ]
  simp [fn_974, initE, e]
theorem corder_no {d : D} (rc : RC R C) (e2 : run prog (n + 4) 972 [.int R, .int C, d] = .ok (.bl false, [])) : run prog (n + 5) 974 [.int R, .int C, d] = .error (.exc 11 [d]) := by
  have e := ctable_ok (n := n + 1) rc
  rw [run_succ]
  simp [fn_974, initE, e, e2]
theorem corder_ok {d : D} (rc : RC R C) (e2 : run prog (n + 4) 972 [.int R, .int C, d] = .ok (.bl true, [])) : run prog (n + 5) 974 [.int R, .int C, d] = .ok (.non, []) := by
  have e := ctable_ok (n := n + 1) rc
  refine Ok.eq ?_
  rw [run_succ]
  simp [fn_974, initE, e, e2]
def five (f : Nat) : Prop := f = 976 ∨ f = 979 ∨ f = 980 ∨ f = 981 ∨ f = 982
theorem five_err {f : Nat} (hf : five f) {a b d : D} {e : Ex} (h : run prog (n + 5) 974 [a, b, d] = .error e) : run prog (n + 6) f [a, b, d] = .error e := by
  rw [run_succ]
  rcases hf with rfl | rfl | rfl | rfl | rfl
  · simp [fn_976, initE, h]
  · simp [fn_979, initE, h]
  · simp [fn_980, initE, h]
  · simp [fn_981, initE, h]
  · simp [fn_982, initE, h]
/-- those that ask the table alone first -/
def three (f : Nat) : Prop := f = 973 ∨ f = 996 ∨ f = 1002
theorem three_err {f : Nat} (hf : three f) {a b d : D} {e : Ex} (h : run prog (n + 5) 25 [a, b] = .error e) : run prog (n + 6) f [a, b, d] = .error e := by
  rw [run_succ]
  rcases hf with rfl | rfl | rfl
  · simp [fn_973, initE, h]
  · simp [fn_996, initE, h]
  · simp [fn_1002, initE, h]
def two (f : Nat) : Prop := f = 993 ∨ f = 994
theorem two_err {f : Nat} (hf : two f) {a b : D} {e : Ex} (h : run prog (n + 5) 25 [a, b] = .error e) : run prog (n + 6) f [a, b] = .error e := by
  rw [run_succ]
  rcases hf with rfl | rfl
  · simp [fn_993, initE, h]
  · simp [fn_994, initE, h]
theorem place_order_non (rc : RC R C) : run prog (n + 6) 973 [.int R, .int C, .non] = .ok (.bl false, []) := by
  have e := ctable_ok (n := n + 2) rc
  have e2 := there_no (n := n + 1) (R := R) (C := C) (d := .non) rfl rfl
  refine Ok.eq ?_
  rw [run_succ]
  simp [fn_973, initE, e, e2]
def IsI (x : D) : Prop := ∃ i : Int, x = .int i
theorem isI_map {l : List Int} {x : D} (h : x ∈ l.map D.int) : IsI x := by
  obtain ⟨p, _, rfl⟩ := List.mem_map.mp h
  exact ⟨p, rfl⟩
theorem five_ok {f : Nat} (hf : five f) (rc : RC R C) (hq : q.length ≤ 9) (hp : ∀ p ∈ q, p ∈ places R C) (e2 : run prog (n + 4) 972 [.int R, .int C, .lst (q.map pl)] = .ok (.bl true, [])) : ∃ d, run prog (n + 6) f [.int R, .int C, .lst (q.map pl)] = .ok (d, []) := by
  have e := corder_ok (n := n) rc e2
  obtain ⟨ks, e3, hk⟩ := fits_ok (n := n + 3) (R := R) (C := C) hq
  suffices hh : Ok (run prog (n + 6) f [.int R, .int C, .lst (q.map pl)]) fun r => ∃ d, r = (d, []) by
    obtain ⟨a, e, d, rfl⟩ := hh
    exact ⟨d, e⟩
  rw [run_succ]
  rcases hf with rfl | rfl | rfl | rfl | rfl
  · simp [fn_976, initE, e, e3]
  · have e4 : rngD [.int (q.length : Int)] = some (rangeL 0 (q.length : Int)) := rng1 (by omega) (by omega)
    simp [fn_979, initE, e, e4]
    refine (compR_inv (rangeL 0 (q.length : Int)) (fun s (acc : List D) ρ => (∃ o, ρ = [some (.int R), some (.int C), some (.lst (q.map pl)), o]) ∧ acc.length + s.length ≤ 9 ∧ ∀ x ∈ s, IsI x) (Q := fun (a : List D × Env) => ∃ o, a.2 = [some (.int R), some (.int C), some (.lst (q.map pl)), o]) _ [] ⟨⟨_, rfl⟩, by rw [len_range]; simpa using hq, fun x hx => ?_⟩ ?_ ?_).mono ?_
    · obtain ⟨k, _, rfl⟩ := List.mem_map.mp hx
      exact ⟨_, rfl⟩
    · rintro x s ρ acc _ ⟨⟨o, rfl⟩, ha, hs⟩
      obtain ⟨i, rfl⟩ := hs x List.mem_cons_self
      have hs2 : ∀ y ∈ s, IsI y := fun y hy => hs y (List.mem_cons_of_mem _ hy)
      rw [List.length_cons] at ha
      have ha' : acc.length < lim := by unfold lim; omega
      have e5 : slcV none (some (i + 1)) (.lst (q.map pl)) = some (.lst ((slcL q none (some (i + 1))).map pl)) := by
        show some (D.lst (slcL (q.map pl) none (some (i + 1)))) = _
        rw [slc_map]
      have l5 : (slcL q none (some (i + 1))).length ≤ 9 := by
        unfold slcL
        rw [List.length_take, List.length_drop]
        omega
      have m5 : ∀ p ∈ slcL q none (some (i + 1)), p ∈ places R C := fun p h => hp p (by
        unfold slcL at h
        exact List.mem_of_mem_drop (List.mem_of_mem_take h))
      obtain ⟨k, e6⟩ := heaps_ok (n := n + 2) rc l5 m5
      simp [e5, e6, push, ha']
      exact ⟨by omega, hs2⟩
    · rintro acc ρ ⟨⟨o, rfl⟩, _⟩
      exact ⟨_, rfl⟩
    · rintro ⟨acc, ρ⟩ ⟨o, e⟩
      replace e : ρ = _ := e
      subst e
      simp [back]
  · simp [fn_980, initE, e, lenT, itemsT, e3]
    refine forR_inv (ks.map D.int) (fun r ρ => ∃ (rim : Int) (m : List D), ρ = [some (.int R), some (.int C), some (.lst (q.map pl)), some (.lst m), some (.int rim), none] ∧ m.length + r.length ≤ 9 ∧ ∀ x ∈ r, IsI x) _ ⟨0, [], rfl, by simpa using hk, fun x hx => isI_map hx⟩ ?_ ?_
    · rintro x r ρ _ ⟨rim, m, rfl, hl, hr⟩
      obtain ⟨i, rfl⟩ := hr x List.mem_cons_self
      have hr2 : ∀ y ∈ r, IsI y := fun y hy => hr y (List.mem_cons_of_mem _ hy)
      rw [List.length_cons] at hl
      have hm : m.length < lim := by unfold lim; omega
      have e7 : binD .mul (.int 2) (.int i) = some (.int (2 * i)) := binD_mul (.inl (by decide))
      simp [e7, lstD, updAt, appD, hm]
      exact ⟨_, _, ⟨rfl, rfl⟩, by simp; omega, hr2⟩
    · rintro ρ ⟨rim, m, rfl, _⟩
      simp
  · simp [fn_981, initE, e, e3]
    refine (compR_inv (ks.map D.int) (fun s (acc : List D) ρ => (∃ o, ρ = [some (.int R), some (.int C), some (.lst (q.map pl)), o]) ∧ acc.length + s.length ≤ 9 ∧ ∀ x ∈ s, IsI x) (Q := fun (a : List D × Env) => ∃ o, a.2 = [some (.int R), some (.int C), some (.lst (q.map pl)), o]) _ [] ⟨⟨_, rfl⟩, by simpa using hk, fun x hx => isI_map hx⟩ ?_ ?_).mono ?_
    · rintro x s ρ acc _ ⟨⟨o, rfl⟩, ha, hs⟩
      obtain ⟨i, rfl⟩ := hs x List.mem_cons_self
      have hs2 : ∀ y ∈ s, IsI y := fun y hy => hs y (List.mem_cons_of_mem _ hy)
      rw [List.length_cons] at ha
      have ha' : acc.length < lim := by unfold lim; omega
      by_cases h0 : i = 0
      · simp [eq_int, h0, push, ha']
        exact ⟨by omega, hs2⟩
      · simp [eq_int, h0]
        exact ⟨by omega, hs2⟩
    · rintro acc ρ ⟨⟨o, rfl⟩, _⟩
      exact ⟨_, rfl⟩
    · rintro ⟨acc, ρ⟩ ⟨o, e⟩
      replace e : ρ = _ := e
      subst e
      simp [back]
  · simp [fn_982, initE, e, e3]
    refine (compR_inv (ks.map D.int) (fun s (acc : List D) ρ => (∃ o, ρ = [some (.int R), some (.int C), some (.lst (q.map pl)), o]) ∧ acc.length + s.length ≤ 9 ∧ ∀ x ∈ s, IsI x) (Q := fun (a : List D × Env) => ∃ o, a.2 = [some (.int R), some (.int C), some (.lst (q.map pl)), o]) _ [] ⟨⟨_, rfl⟩, by simpa using hk, fun x hx => isI_map hx⟩ ?_ ?_).mono ?_
    · rintro x s ρ acc _ ⟨⟨o, rfl⟩, ha, hs⟩
      obtain ⟨i, rfl⟩ := hs x List.mem_cons_self
      have hs2 : ∀ y ∈ s, IsI y := fun y hy => hs y (List.mem_cons_of_mem _ hy)
      rw [List.length_cons] at ha
      have ha' : acc.length < lim := by unfold lim; omega
      by_cases h0 : i < 2
      · simp [h0, push, ha']
        exact ⟨by omega, hs2⟩
      · simp [h0]
        exact ⟨by omega, hs2⟩
    · rintro acc ρ ⟨⟨o, rfl⟩, _⟩
      exact ⟨_, rfl⟩
    · rintro ⟨acc, ρ⟩ ⟨o, e⟩
      replace e : ρ = _ := e
      subst e
      simp [back]
end Pz.K74
end
section
set_option Elab.async false
set_option linter.all false
set_option maxRecDepth 100000
set_option maxHeartbeats 1000000
/-! k74: caught; what is no order. -/
namespace Pz.K74
open Pz Pz.Co Pz.Pl
def wO : List Nat := [73, 110, 118, 97, 108, 105, 100, 79, 114, 100, 101, 114]
def wT : List Nat := [73, 110, 118, 97, 108, 105, 100, 84, 97, 98, 108, 101]
def told (w s : List Nat) : D := .lst [.lst [.str w], .str s]
theorem ne_ss (s : List Nat) : cmpB .ne (.str s) (.str s) = some false := ne_self rfl
section
variable {n f : Nat} {a b c d : D} {s s0 : List Nat}
theorem g30 : getD (.lst [a, b, c]) (.int 0) = some a := rfl
theorem g31 : getD (.lst [a, b, c]) (.int 1) = some b := rfl
theorem g32 : getD (.lst [a, b, c]) (.int 2) = some c := rfl
theorem g20 : getD (.lst [a, b]) (.int 0) = some a := rfl
theorem g21 : getD (.lst [a, b]) (.int 1) = some b := rfl
theorem l0 : (0 : Nat) < lim := by decide
theorem l1 : (1 : Nat) < lim := by decide
theorem caught_t3 (h0 : reprD (.lst [a, b, c]) = some (.str s0)) (h : run prog n f [a, b, c] = .error (.exc 7 [d])) (hs : reprD d = some (.str s)) : run prog (n + 1) 1031 [.fn f, .lst [a, b, c]] = .ok (told wT s, []) := by
  refine Ok.eq ?_
  rw [run_succ]
  simp [fn_1031, initE, lenT, itemsT, h0, eq_int, fnO, g30, g31, g32, h, ne_ss, zipO, zipD, compR, push, back, l0, l1, hs, told, wT]
theorem caught_o3 (h0 : reprD (.lst [a, b, c]) = some (.str s0)) (h : run prog n f [a, b, c] = .error (.exc 11 [d])) (hs : reprD d = some (.str s)) : run prog (n + 1) 1031 [.fn f, .lst [a, b, c]] = .ok (told wO s, []) := by
  refine Ok.eq ?_
  rw [run_succ]
  simp [fn_1031, initE, lenT, itemsT, h0, eq_int, fnO, g30, g31, g32, h, ne_ss, zipO, zipD, compR, push, back, l0, l1, hs, told, wO]
theorem caught_t2 (h0 : reprD (.lst [a, b]) = some (.str s0)) (h : run prog n f [a, b] = .error (.exc 7 [d])) (hs : reprD d = some (.str s)) : run prog (n + 1) 1031 [.fn f, .lst [a, b]] = .ok (told wT s, []) := by
  refine Ok.eq ?_
  rw [run_succ]
  simp [fn_1031, initE, lenT, itemsT, h0, eq_int, fnO, g20, g21, h, ne_ss, zipO, zipD, compR, push, back, l0, l1, hs, told, wT]
theorem caught_no3 (h0 : reprD (.lst [a, b, c]) = some (.str s0)) (h : run prog n f [a, b, c] = .ok (d, [])) : run prog (n + 1) 1031 [.fn f, .lst [a, b, c]] = .ok (.non, []) := by
  refine Ok.eq ?_
  rw [run_succ]
  simp [fn_1031, initE, lenT, itemsT, h0, eq_int, fnO, g30, g31, g32, h, ne_ss]
end
/-! ### no tables -/
def tabs : List (D × D) := [(.int 0, .int 2), (.int 2, .int 0), (.int (-1), .int 3), (.non, .int 2), (.int 2, .non), (.str [50], .int 2), (.int 2, .lst [.int 2]), (.bl true, .int 2), (.int 2, .bl true), (.tup [.int 2], .int 2), (.int 2, .dic [] [])]
def tupT (t : D × D) : D := .tup [t.1, t.2]
theorem tabs_ok {n : Nat} : run prog (n + 1) 988 [] = .ok (.lst (tabs.map tupT), []) := by
  rw [run_succ]
  kernel_rfl
structure NoTab (t : D × D) : Prop where
  a : tyOk t.1 = true
  b : tyOk t.2 = true
  no : tabB t.1 t.2 = false
  ra : rpB t.1 = true
  rb : rpB t.2 = true
  rt : rpB (tupT t) = true
def noTabB (t : D × D) : Bool := tyOk t.1 && tyOk t.2 && !tabB t.1 t.2 && rpB t.1 && rpB t.2 && rpB (tupT t)
theorem noTab {t : D × D} (h : t ∈ tabs) : NoTab t := by
  have : tabs.all noTabB = true := by decide +kernel
  have := List.all_eq_true.mp this t h
  unfold noTabB at this
  simp only [Bool.and_eq_true, Bool.not_eq_true'] at this
  obtain ⟨⟨⟨⟨⟨h1, h2⟩, h3⟩, h4⟩, h5⟩, h6⟩ := this
  exact ⟨h1, h2, h3, h4, h5, h6⟩
/-! ### no orders -/
structure Bad (R C : Int) (d : D) : Prop where
  no : ∀ n, run prog (n + 4) 972 [.int R, .int C, d] = .ok (.bl false, [])
  rp : rpB d = true
/-- an order of the table -/
structure Ord (R C : Int) (q : List P2) : Prop where
  rc : RC R C
  pm : q.Perm (places R C)
section
variable {R C : Int} {q : List P2}
theorem Ord.len (o : Ord R C q) : 4 ≤ q.length ∧ q.length ≤ 9 ∧ (q.length : Int) = R * C := by rw [o.pm.length_eq]; exact places_len o.rc
theorem Ord.mem (o : Ord R C q) : ∀ p ∈ q, p ∈ places R C := fun p h => o.pm.mem_iff.mp h
theorem Ord.there (o : Ord R C q) {n : Nat} : run prog (n + 4) 972 [.int R, .int C, .lst (q.map pl)] = .ok (.bl true, []) := by
  obtain ⟨h1, h2, h3⟩ := o.len
  rw [there_ok o.rc (by omega) o.mem, decide_eq_true h3, decide_eq_true (show sortP q = places R C from (sortP_perm o.pm).trans (places_sorted o.rc))]
  rfl
theorem small_place (rc : RC R C) {p : P2} (h : p ∈ places R C) : noLst (pl p) = true ∧ smD (pl p) = true ∧ depthD (pl p) ≤ 30 ∧ shB (pl p) ≤ 6000 := by
  have := mem_places.mp h
  unfold inside at this
  simp only [Bool.and_eq_true, decide_eq_true_eq] at this
  obtain ⟨⟨h1, h2⟩, h3, h4⟩ := this
  have hR : R ≤ 3 := by rcases rc.r with e | e <;> omega
  have hC : C ≤ 3 := by rcases rc.c with e | e <;> omega
  exact pl_small (Nat.lt_of_le_of_lt (show p.1.natAbs ≤ 3 by omega) (by decide)) (Nat.lt_of_le_of_lt (show p.2.natAbs ≤ 3 by omega) (by decide))
theorem rp_pls (rc : RC R C) {l : List P2} (hl : l.length ≤ 20) (h : ∀ p ∈ l, p ∈ places R C) : rpB (.lst (l.map pl)) = true ∧ rpB (.tup (l.map pl)) = true :=
  rpB_lst (by rw [List.length_map]; exact hl) fun x hx => by
    obtain ⟨p, hp, rfl⟩ := List.mem_map.mp hx
    exact small_place rc (h p hp)
theorem bad_plain {d : D} (h : tyOk d = true) (hd : isTy d .list = false) (r : rpB d = true) : Bad R C d := ⟨fun _ => there_no h hd, r⟩
theorem bad_len (rc : RC R C) {l : List P2} (hl : l.length ≤ 20) (h : ∀ p ∈ l, p ∈ places R C) (hn : ¬ (l.length : Int) = R * C) : Bad R C (.lst (l.map pl)) :=
  ⟨fun n => by rw [there_ok rc (by omega) h, decide_eq_false hn]; rfl, (rp_pls rc hl h).1⟩
theorem bad_dup (rc : RC R C) {l : List P2} (hl : l.length ≤ 20) (h : ∀ p ∈ l, p ∈ places R C) (hn : ¬ l.Nodup) : Bad R C (.lst (l.map pl)) :=
  ⟨fun n => by
    have : ¬ sortP l = places R C := fun e => hn ((sortP_self l).nodup_iff.mp (e ▸ places_nodup rc))
    rw [there_ok rc (by omega) h, decide_eq_false this, Bool.and_false], (rp_pls rc hl h).1⟩
/-- an item that is no spot -/
structure NoSp (R C : Int) (x : D) : Prop where
  j : spJ x = true
  b : spB R C x = false
  sm : noLst x = true ∧ smD x = true ∧ depthD x ≤ 30 ∧ shB x ≤ 6000
theorem bad_item (rc : RC R C) {l : List D} {x : D} (hl : l.length ≤ 20) (hx : NoSp R C x) (hm : x ∈ l) (h : ∀ y ∈ l, y = x ∨ ∃ p, y = pl p ∧ p ∈ places R C) : Bad R C (.lst l) :=
  ⟨fun n => there_bad (by omega) (fun y hy => by
    rcases h y hy with rfl | ⟨p, rfl, _⟩
    · exact hx.j
    · exact spJ_pl p) (by
    cases e : l.all (spB R C) with
    | false => rfl
    | true =>
      have := List.all_eq_true.mp e x hm
      rw [hx.b] at this; cases this), (rpB_lst hl fun y hy => by
    rcases h y hy with rfl | ⟨p, rfl, hp⟩
    · exact hx.sm
    · exact small_place rc hp).1⟩
def noSpB (R C : Int) (x : D) : Bool := spJ x && !spB R C x && noLst x && smD x && decide (depthD x ≤ 30) && decide (shB x ≤ 6000)
def odds (R C : Int) : List D := [.non, .tup [], .tup [.int 0], .tup [.int 0, .int 0, .int 0], .tup [.int R, .int 0], .tup [.int 0, .int C], .tup [.int (-1), .int 0], .tup [.bl false, .int 0], .tup [.int 0, .non], .tup [.str [48], .str [48]], .tup [.int 0, .lst [.int 0]]]
theorem noSp (rc : RC R C) {x : D} (h : x ∈ odds R C) : NoSp R C x := by
  have : (odds R C).all (noSpB R C) = true := by
    obtain ⟨hr | hr, hc | hc⟩ := rc <;> subst hr hc <;> decide +kernel
  have := List.all_eq_true.mp this x h
  unfold noSpB at this
  simp only [Bool.and_eq_true, Bool.not_eq_true', decide_eq_true_eq] at this
  obtain ⟨⟨⟨⟨⟨h1, h2⟩, h3⟩, h4⟩, h5⟩, h6⟩ := this
  exact ⟨h1, h2, h3, h4, h5, h6⟩
theorem slc_1 {α : Type} {l : List α} (h : 1 ≤ l.length) : slcL l (some 1) none = l.drop 1 := by
  unfold slcL cut
  have : min (1 : Int).toNat l.length = 1 := by show min 1 l.length = 1; omega
  simp only
  rw [if_neg (by decide), this, List.take_of_length_le (by rw [List.length_drop]; omega)]
theorem slc_t1 {α : Type} {l : List α} (h : 1 ≤ l.length) : slcL l none (some 1) = l.take 1 := by
  unfold slcL cut
  have : min (1 : Int).toNat l.length = 1 := by show min 1 l.length = 1; omega
  simp only
  rw [if_neg (by decide), this, List.drop_zero]
theorem slc_m1 {α : Type} {l : List α} (h : 1 ≤ l.length) : slcL l none (some (-1)) = l.take (l.length - 1) := by
  unfold slcL cut
  have : (-1 + (l.length : Int)).toNat = l.length - 1 := by omega
  simp only
  rw [if_pos (by decide), this, List.drop_zero]; rfl
/-- the first bads -/
def bads0 (q : List P2) : List D := [.non, .lst [], .tup [], .dic [] [], .str [111, 114, 100, 101, 114], .int 7, .tup (q.map pl), .lst ((q.drop 1).map pl), .lst ((q ++ q.take 1).map pl), .lst ((q.take (q.length - 1) ++ q.take 1).map pl), .lst (q.map fun p => .lst [.int p.1, .int p.2])]
theorem bads0_ok (o : Ord R C q) : ∀ x ∈ bads0 q, Bad R C x := by
  obtain ⟨h1, h2, h3⟩ := o.len
  have rc := o.rc
  have hm := o.mem
  have m1 : ∀ p ∈ q.take 1, p ∈ places R C := fun p h => hm p (List.mem_of_mem_take h)
  have l1 : (q.take 1).length = 1 := by rw [List.length_take]; omega
  intro x hx
  simp only [bads0, List.mem_cons, List.not_mem_nil, or_false] at hx
  rcases hx with rfl | rfl | rfl | rfl | rfl | rfl | rfl | rfl | rfl | rfl | rfl
  · exact bad_plain rfl rfl (by decide +kernel)
  · exact bad_len (l := []) rc (by simp) (by simp) (by simp only [List.length_nil]; omega)
  · exact bad_plain rfl rfl (by decide +kernel)
  · exact bad_plain rfl rfl (by decide +kernel)
  · exact bad_plain rfl rfl (by decide +kernel)
  · exact bad_plain rfl rfl (by decide +kernel)
  · exact bad_plain rfl rfl (rp_pls rc (by omega) hm).2
  · exact bad_len rc (by rw [List.length_drop]; omega) (fun p h => hm p (List.mem_of_mem_drop h)) (by rw [List.length_drop]; omega)
  · exact bad_len rc (by rw [List.length_append]; omega) (fun p h => (List.mem_append.mp h).elim (hm p) (m1 p)) (by rw [List.length_append]; omega)
  · refine bad_dup rc (by rw [List.length_append, List.length_take]; omega) (fun p h => (List.mem_append.mp h).elim (fun z => hm p (List.mem_of_mem_take z)) (m1 p)) ?_
    intro hn
    match q, h1, hn with
    | p :: t, h1, hn =>
      rw [List.nodup_append] at hn
      refine hn.2.2 p ?_ p ?_ rfl
      · rw [List.length_cons, Nat.add_sub_cancel]
        have : 1 ≤ t.length := by rw [List.length_cons] at h1; omega
        obtain ⟨k, hk⟩ : ∃ k, t.length = k + 1 := ⟨t.length - 1, by omega⟩
        rw [hk, List.take_succ_cons]
        exact List.mem_cons_self
      · simp
  · have hx : ∀ p ∈ q, NoSp R C (.lst [.int p.1, .int p.2]) := fun p hp => ⟨rfl, rfl, by
      obtain ⟨s1, s2, s3, s4⟩ := small_place rc (hm p hp)
      exact ⟨rfl, s2, s3, by show 1921 + 2 + (1921 + 2 + 0) + 2 ≤ 6000; omega⟩⟩
    refine ⟨fun n => there_bad (by rw [List.length_map]; omega) (fun y hy => ?_) ?_, (rpB_lst (by rw [List.length_map]; omega) fun y hy => ?_).1⟩
    · obtain ⟨p, hp, rfl⟩ := List.mem_map.mp hy
      exact (hx p hp).j
    · match q, h1 with
      | p :: t, _ => rfl
    · obtain ⟨p, hp, rfl⟩ := List.mem_map.mp hy
      exact (hx p hp).sm
/-- the two bads of an odd item -/
def bads2 (q : List P2) (x : D) : List D := [.lst ((q.take (q.length - 1)).map pl ++ [x]), .lst ([x] ++ (q.drop 1).map pl)]
theorem bads2_ok (o : Ord R C q) {x : D} (hx : x ∈ odds R C) : ∀ y ∈ bads2 q x, Bad R C y := by
  obtain ⟨h1, h2, h3⟩ := o.len
  have rc := o.rc
  have hm := o.mem
  intro y hy
  simp only [bads2, List.mem_cons, List.not_mem_nil, or_false] at hy
  rcases hy with rfl | rfl
  · refine bad_item rc (by simp; omega) (noSp rc hx) (by simp) fun y hy => ?_
    rcases List.mem_append.mp hy with h | h
    · obtain ⟨p, hp, rfl⟩ := List.mem_map.mp h
      exact .inr ⟨p, rfl, hm p (List.mem_of_mem_take hp)⟩
    · exact .inl (List.mem_singleton.mp h)
  · refine bad_item rc (by simp; omega) (noSp rc hx) (by simp) fun y hy => ?_
    rcases List.mem_append.mp hy with h | h
    · exact .inl (List.mem_singleton.mp h)
    · obtain ⟨p, hp, rfl⟩ := List.mem_map.mp h
      exact .inr ⟨p, rfl, hm p (List.mem_of_mem_drop hp)⟩
end
end Pz.K74
end
section
set_option Elab.async false
set_option linter.all false
set_option maxRecDepth 100000
set_option maxHeartbeats 1000000
/-! k74: the law. -/
namespace Pz.K74
open Pz Pz.Co Pz.Pl
abbrev CC (n : Nat) : Cfg := { call := run prog n, glob := prog.glob, fuel := FUEL }
section
variable {n f : Nat} {R C : Int} {q : List P2}
theorem told_ne (w s : List Nat) : cmpB .ne (told w s) (.lst [.lst [.str w], .str s]) = some false := ne_self rfl
theorem door3 {t : D × D} (h : NoTab t) (hf : five f ∨ three f) {x : D} (hx : rpB x = true) : ∃ s, reprD (tupT t) = some (.str s) ∧ run prog (n + 7) 1031 [.fn f, .lst [t.1, t.2, x]] = .ok (told wT s, []) := by
  obtain ⟨s, hs⟩ := rpB_rep h.rt
  obtain ⟨s0, h0⟩ := rpL_rep (l := [t.1, t.2, x]) (by simp) (by
    intro y hy
    simp only [List.mem_cons, List.not_mem_nil, or_false] at hy
    rcases hy with rfl | rfl | rfl
    · exact h.ra
    · exact h.rb
    · exact hx)
  refine ⟨s, hs, caught_t3 h0 ?_ hs⟩
  rcases hf with hf | hf
  · exact five_err hf (corder_tab h.a h.b h.no)
  · exact three_err hf (ctable_no (n := n + 2) h.a h.b h.no)
theorem door2 {t : D × D} (h : NoTab t) (hf : two f) : ∃ s, reprD (tupT t) = some (.str s) ∧ run prog (n + 7) 1031 [.fn f, .lst [t.1, t.2]] = .ok (told wT s, []) := by
  obtain ⟨s, hs⟩ := rpB_rep h.rt
  obtain ⟨s0, h0⟩ := rpL_rep (l := [t.1, t.2]) (by simp) (by
    intro y hy
    simp only [List.mem_cons, List.not_mem_nil, or_false] at hy
    rcases hy with rfl | rfl
    · exact h.ra
    · exact h.rb)
  exact ⟨s, hs, caught_t2 h0 (two_err hf (ctable_no (n := n + 2) h.a h.b h.no)) hs⟩
theorem rp_rc (rc : RC R C) : rpB (.int R) = true ∧ rpB (.int C) = true := by
  obtain ⟨hr | hr, hc | hc⟩ := rc <;> subst hr hc <;> decide +kernel
theorem rep3 (rc : RC R C) {d : D} (h : rpB d = true) : ∃ s, reprD (.lst [.int R, .int C, d]) = some (.str s) := rpL_rep (by simp) (by
    intro y hy
    simp only [List.mem_cons, List.not_mem_nil, or_false] at hy
    rcases hy with rfl | rfl | rfl
    · exact (rp_rc rc).1
    · exact (rp_rc rc).2
    · exact h)
theorem door_bad (rc : RC R C) {d : D} (h : Bad R C d) (hf : five f) : ∃ s, reprD d = some (.str s) ∧ run prog (n + 7) 1031 [.fn f, .lst [.int R, .int C, d]] = .ok (told wO s, []) := by
  obtain ⟨s, hs⟩ := rpB_rep h.rp
  obtain ⟨s0, h0⟩ := rep3 rc h.rp
  exact ⟨s, hs, caught_o3 h0 (five_err hf (corder_no rc (h.no n))) hs⟩
theorem door_ok (o : Ord R C q) (hf : five f) : run prog (n + 7) 1031 [.fn f, .lst [.int R, .int C, .lst (q.map pl)]] = .ok (.non, []) := by
  obtain ⟨s0, h0⟩ := rep3 o.rc (rp_pls o.rc (by have := o.len; omega) o.mem).1
  obtain ⟨d, e⟩ := five_ok (n := n) hf o.rc o.len.2.1 o.mem o.there
  exact caught_no3 h0 e
theorem door_non (rc : RC R C) : run prog (n + 7) 1031 [.fn 973, .lst [.int R, .int C, .non]] = .ok (.non, []) := by
  obtain ⟨s0, h0⟩ := rep3 rc (d := .non) (by decide +kernel)
  exact caught_no3 h0 (place_order_non rc)
end
/-! ### the statements -/
def nthS : Nat → T → T
  | 0, .cons a _ => a
  | n + 1, .cons _ b => nthS n b
  | _, _ => .nil
def t1 : T := nthS 0 fn_1032.body
def t2 : T := nthS 1 fn_1032.body
def t3 : T := nthS 2 fn_1032.body
def t4 : T := nthS 3 fn_1032.body
def t5 : T := nthS 4 fn_1032.body
def t6 : T := nthS 5 fn_1032.body
def t7 : T := nthS 6 fn_1032.body
def t8 : T := nthS 7 fn_1032.body
def t9 : T := nthS 8 fn_1032.body
def t10 : T := nthS 9 fn_1032.body
theorem b_eq : fn_1032.body = .cons t1 (.cons t2 (.cons t3 (.cons t4 (.cons t5 (.cons t6 (.cons t7 (.cons t8 (.cons t9 (.cons t10 .nil))))))))) := rfl
def fives : List D := [.fn 976, .fn 979, .fn 980, .fn 981, .fn 982]
def threes : List D := [.fn 973, .fn 996, .fn 1002]
def Is5 (x : D) : Prop := ∃ f, x = .fn f ∧ five f
def Is8 (x : D) : Prop := ∃ f, x = .fn f ∧ (five f ∨ three f)
def Is2 (x : D) : Prop := ∃ f, x = .fn f ∧ two f
theorem is5 : ∀ x ∈ fives, Is5 x := by
  intro x hx
  simp only [fives, List.mem_cons, List.not_mem_nil, or_false] at hx
  unfold Is5 five
  rcases hx with rfl | rfl | rfl | rfl | rfl <;> exact ⟨_, rfl, by simp⟩
theorem is8 : ∀ x ∈ fives ++ threes, Is8 x := by
  intro x hx
  rcases List.mem_append.mp hx with h | h
  · obtain ⟨f, e, hf⟩ := is5 x h
    exact ⟨f, e, .inl hf⟩
  · simp only [threes, List.mem_cons, List.not_mem_nil, or_false] at h
    unfold Is8 three
    rcases h with rfl | rfl | rfl <;> exact ⟨_, rfl, .inr (by simp)⟩
abbrev E0 (S g : D) (o k R C th c b bs od p : Option D) : Env := [some S, o, k, R, C, th, c, b, bs, od, p, some g]
section
variable {n : Nat} {R C : Int} {q : List P2} {S g k : D}
theorem t1_ok {ns : List Int} : Ok (evS (CC (n + 7)) t1 [some (.lst (ns.map D.int)), none, none, none, none, none, none, none, none, none, none, none]) fun fl => ∃ g, fl = .nx (E0 (.lst (ns.map D.int)) g none none none none none none none none none none) ∧ Gn (2 ^ 61) g := by
  obtain ⟨g, e, hg⟩ := generator_ok p163 p164 (n := n + 5) (ns := ns) (i := 0) (by decide) (by decide)
  simp [t1, nthS, fn_1032, e]
  exact hg
theorem t2_ok (hg : Gn (2 ^ 61) g) : Ok (evS (CC (n + 7)) t2 (E0 S g none none none none none none none none none none)) fun fl => ∃ (g : D) (R C : Int), fl = .nx (E0 S g none none (some (.int R)) (some (.int C)) none none none none none none) ∧ RC R C ∧ Gn 1000 g := by
  obtain ⟨a, g1, e1, a0, a1, hg1⟩ := random_ok p161 p162 (n := n + 5) (K := 1002) (by decide) (hg.mono (by decide) (by decide)) (b := 2) (by decide) (by decide)
  obtain ⟨b, g2, e2, b0, b1, hg2⟩ := random_ok p161 p162 (n := n + 5) (K := 1000) (by decide) hg1 (b := 2) (by decide) (by decide)
  simp [t2, nthS, fn_1032, E0, lenT, itemsT, e1, e2]
  exact ⟨g2, 2 + a, 2 + b, by simp, ⟨by omega, by omega⟩, hg2⟩
theorem t3_ok (rc : RC R C) (hg : Gn 1000 g) : Ok (evS (CC (n + 7)) t3 (E0 S g none none (some (.int R)) (some (.int C)) none none none none none none)) fun fl => ∃ (g : D) (q : List P2), fl = .nx (E0 S g (some (.lst (q.map pl))) none (some (.int R)) (some (.int C)) (some (.lst fives)) none none none none none) ∧ Ord R C q ∧ Gn 900 g := by
  have e1 := lplaces_ok (n := n + 6) rc
  have hl := places_len rc
  obtain ⟨m, g1, e2, hm, hg1⟩ := shuffled_ok p161 p162 p167 (n := n + 4) (K := 900) (l := (places R C).map pl) (by decide) (by rw [List.length_map]; omega) (fun x hx => by
    obtain ⟨p, _, rfl⟩ := List.mem_map.mp hx
    rfl) (hg.mono (by rw [List.length_map]; omega) (by omega))
  have hq : ∃ q : List P2, m = q.map pl ∧ q.Perm (places R C) := by
    have : ∀ (m : List D) (l : List P2), m.Perm (l.map pl) → ∃ q : List P2, m = q.map pl ∧ q.Perm l := by
      intro m l hp
      have hall : ∀ x ∈ m, IsPl x := fun x hx => isPl_map (hp.mem_iff.mp hx)
      have : ∃ q : List P2, m = q.map pl := by
        clear hp
        induction m with
        | nil => exact ⟨[], rfl⟩
        | cons x m ih =>
          obtain ⟨p, rfl⟩ := hall x List.mem_cons_self
          obtain ⟨q, rfl⟩ := ih fun y hy => hall y (List.mem_cons_of_mem _ hy)
          exact ⟨p :: q, rfl⟩
      obtain ⟨q, rfl⟩ := this
      refine ⟨q, rfl, ?_⟩
      have un : ∀ l : List P2, (l.map pl).filterMap (fun d => match d with | .tup [.int a, .int b] => some (a, b) | _ => none) = l := fun l => by
        induction l with
        | nil => rfl
        | cons p l ih => rw [List.map_cons, List.filterMap_cons]; show p :: _ = _; rw [ih]
      have := hp.filterMap (fun d => match d with | .tup [.int a, .int b] => some (a, b) | _ => none)
      rw [un, un] at this
      exact this
    exact this m _ hm
  obtain ⟨q, rfl, hq⟩ := hq
  simp [t3, nthS, fn_1032, E0, lenT, itemsT, e1, e2]
  exact ⟨g1, q, by simp [fives], ⟨rc, hq⟩, hg1⟩
theorem t4_ok (o : Ord R C q) {th : Option D} : Ok (evS (CC (n + 7)) t4 (E0 S g (some (.lst (q.map pl))) none (some (.int R)) (some (.int C)) th none none none none none)) fun fl => ∃ s : List Nat, fl = .nx (E0 S g (some (.lst (q.map pl))) (some (.str s)) (some (.int R)) (some (.int C)) th none none none none none) ∧ reprD (.lst (q.map pl)) = some (.str s) := by
  obtain ⟨s, hs⟩ := rpB_rep (rp_pls o.rc (by have := o.len; omega) o.mem).1
  simp [t4, nthS, fn_1032, E0, hs]
theorem told_neT (w : List Nat) : cmpB .ne (told wT w) (.lst [.lst [.str [73, 110, 118, 97, 108, 105, 100, 84, 97, 98, 108, 101]], .str w]) = some false := told_ne wT w
theorem told_neO (w : List Nat) : cmpB .ne (told wO w) (.lst [.lst [.str [73, 110, 118, 97, 108, 105, 100, 79, 114, 100, 101, 114]], .str w]) = some false := told_ne wO w
theorem g_0 {t : D × D} : getD (tupT t) (.int 0) = some t.1 := rfl
theorem g_1 {t : D × D} : getD (tupT t) (.int 1) = some t.2 := rfl
abbrev E5 (S g o k : D) (R C : Int) (c b : Option D) : Env := E0 S g (some o) (some k) (some (.int R)) (some (.int C)) (some (.lst fives)) c b none none none
theorem add8 : binD .add (.lst fives) (.lst [.fn 973, .fn 996, .fn 1002]) = some (.lst (fives ++ threes)) := by rfl
def IsTab (x : D) : Prop := ∃ t, x = tupT t ∧ NoTab t
theorem ne_nn : cmpB .ne (.lst []) (.lst []) = some false := ne_nil (l := []) (by simp)
theorem t5_ok (o : Ord R C q) (hg : Gn 900 g) : Ok (evS (CC (n + 7)) t5 (E5 S g (.lst (q.map pl)) k R C none none)) fun fl => ∃ g, fl = .nx (E5 S g (.lst (q.map pl)) k R C none none) ∧ Gn 10 g := by
  have e0 := tabs_ok (n := n + 6)
  simp [t5, nthS, fn_1032, E5, E0, e0]
  refine forR_inv (tabs.map tupT) (fun r ρ => ∃ g, ρ = E5 S g (.lst (q.map pl)) k R C none none ∧ Gn (10 + 16 * r.length) g ∧ ∀ x ∈ r, IsTab x) _ ⟨g, rfl, hg.mono (by decide) (by decide), fun x hx => ?_⟩ ?_ ?_
  · obtain ⟨t, ht, rfl⟩ := List.mem_map.mp hx
    exact ⟨t, rfl, noTab ht⟩
  · rintro x r ρ _ ⟨g, rfl, hg, hr⟩
    obtain ⟨t, rfl, ht⟩ := hr x List.mem_cons_self
    have hr2 : ∀ y ∈ r, IsTab y := fun y hy => hr y (List.mem_cons_of_mem _ hy)
    rw [List.length_cons] at hg
    simp [add8]
    refine (compR_inv (fives ++ threes) (fun s (acc : List D) ρ => acc = [] ∧ (∃ g o, ρ = E5 S g (.lst (q.map pl)) k R C o (some (tupT t)) ∧ Gn (10 + 16 * r.length + 2 * s.length) g) ∧ ∀ x ∈ s, Is8 x) (Q := fun (a : List D × Env) => a.1 = [] ∧ ∃ g o, a.2 = E5 S g (.lst (q.map pl)) k R C o (some (tupT t)) ∧ Gn (10 + 16 * r.length) g) _ [] ⟨rfl, ⟨g, none, rfl, hg.mono (by simp [fives, threes]; omega) (by simp [fives, threes]; omega)⟩, is8⟩ ?_ ?_).mono ?_
    · rintro x s ρ acc _ ⟨rfl, ⟨g, oc, rfl, hg⟩, hs⟩
      obtain ⟨f, rfl, hf⟩ := hs x List.mem_cons_self
      have hs2 : ∀ y ∈ s, Is8 y := fun y hy => hs y (List.mem_cons_of_mem _ hy)
      rw [List.length_cons] at hg
      obtain ⟨z, g', e1, z1, hg'⟩ := pick_ok p161 p162 p165 (n := n + 4) (K := 10 + 16 * r.length + 2 * s.length) (by omega) (hg.mono (by omega) (by omega)) (l := [.non, .lst (q.map pl)]) (by simp) (by simp)
      have hz : rpB z = true := by
        simp only [List.mem_cons, List.not_mem_nil, or_false] at z1
        rcases z1 with rfl | rfl
        · decide +kernel
        · exact (rp_pls o.rc (by have := o.len; omega) o.mem).1
      obtain ⟨w, e2, e3⟩ := door3 (n := n) ht hf hz
      simp [g_0, g_1, e1, e2, e3, told_neT]
      exact ⟨hg', hs2⟩
    · rintro acc ρ ⟨rfl, ⟨g, oc, rfl, hg⟩, _⟩
      exact ⟨rfl, g, oc, rfl, hg.mono (by simp) (by omega)⟩
    · rintro ⟨acc, ρ⟩ ⟨e1, g, oc, e2, hg⟩
      replace e1 : acc = [] := e1
      replace e2 : ρ = _ := e2
      subst e1 e2
      simp [back, ne_nn]
      obtain ⟨w, e5, e6⟩ := door2 (n := n) (f := 993) ht (.inl rfl)
      obtain ⟨w', e7, e8⟩ := door2 (n := n) (f := 994) ht (.inr rfl)
      have ew : w' = w := by
        rw [e5] at e7
        simpa using e7.symm
      subst ew
      simp [compR, g_0, g_1, e5, e6, e8, told_neT, back, ne_nn]
      exact ⟨hg, hr2⟩
  · rintro ρ ⟨g, rfl, hg, _⟩
    exact ⟨g, rfl, hg.mono (by simp) (by decide)⟩
/-- the bads, one after the other -/
abbrev E6 (S g o k : D) (R C : Int) (c b bs od p : Option D) : Env := E0 S g (some o) (some k) (some (.int R)) (some (.int C)) (some (.lst fives)) c b bs od p
def fmL (d : D) : Option D := match d with
  | .tup l => some (.lst l)
  | _ => none
theorem fm_l : ∀ l : List P2, (l.map pl).filterMap fmL = l.map fun p => D.lst [.int p.1, .int p.2]
  | [] => rfl
  | p :: l => by
    rw [List.map_cons, List.filterMap_cons, show fmL (pl p) = some (.lst [.int p.1, .int p.2]) from rfl]
    simp only
    rw [fm_l l]; rfl
theorem sl_1 (h : 1 ≤ q.length) : slcV (some 1) none (.lst (q.map pl)) = some (.lst ((q.drop 1).map pl)) := by
  show some (D.lst (slcL (q.map pl) (some 1) none)) = _
  rw [slc_map, slc_1 h]
theorem sl_t1 (h : 1 ≤ q.length) : slcV none (some 1) (.lst (q.map pl)) = some (.lst ((q.take 1).map pl)) := by
  show some (D.lst (slcL (q.map pl) none (some 1))) = _
  rw [slc_map, slc_t1 h]
theorem sl_m1 (h : 1 ≤ q.length) : slcV none (some (-1)) (.lst (q.map pl)) = some (.lst ((q.take (q.length - 1)).map pl)) := by
  show some (D.lst (slcL (q.map pl) none (some (-1)))) = _
  rw [slc_map, slc_m1 h]
theorem add_ok {l m : List D} (h : l.length + m.length ≤ 1000) : binD .add (.lst l) (.lst m) = some (.lst (l ++ m)) := if_pos (by unfold lim; omega)
theorem t6_ok (o : Ord R C q) : Ok (evS (CC (n + 7)) t6 (E6 S g (.lst (q.map pl)) k R C none none none none none)) fun fl => fl = .nx (E6 S g (.lst (q.map pl)) k R C none none (some (.lst (bads0 q))) none none) := by
  obtain ⟨h1, h2, h3⟩ := o.len
  have e1 := sl_1 (q := q) (by omega)
  have e2 := sl_t1 (q := q) (by omega)
  have e3 := sl_m1 (q := q) (by omega)
  have e4 : binD .add (.lst (q.map pl)) (.lst ((q.take 1).map pl)) = some (.lst ((q ++ q.take 1).map pl)) := by
    rw [add_ok (by simp; omega), List.map_append]
  have e5 : binD .add (.lst ((q.take (q.length - 1)).map pl)) (.lst ((q.take 1).map pl)) = some (.lst ((q.take (q.length - 1) ++ q.take 1).map pl)) := by
    rw [add_ok (by simp; omega), List.map_append]
  have e6 : biD .tuple [.lst (q.map pl)] = some (.tup (q.map pl)) := rfl
  have e7 : negD (.int 1) = some (.int (-1)) := rfl
  have e8 : evE (CC (n + 7)) (.lc (.bi .list (.cons (.v 10) .nil)) (.v 10) (.wlk (.v 1)) .nil [10]) (E6 S g (.lst (q.map pl)) k R C none none none none none) = .ok (.lst (q.map fun p => D.lst [.int p.1, .int p.2]), E6 S g (.lst (q.map pl)) k R C none none none none none) := by
    refine Ok.eq ?_
    simp [E6, E0]
    refine (compR_filter fmL (fun ρ => ∃ o, ρ = E6 S g (.lst (q.map pl)) k R C none none none none o) (q.map pl) _ _ ⟨_, rfl⟩ ?_ (by simp [lim]; omega)).mono ?_
    · rintro x hx ρ acc ⟨oc, rfl⟩ ha
      obtain ⟨p, _, rfl⟩ := List.mem_map.mp hx
      have e9 : biD .list [pl p] = some (.lst [.int p.1, .int p.2]) := rfl
      have e10 : fmL (pl p) = some (.lst [.int p.1, .int p.2]) := rfl
      simp [e9, e10, push, ha]
    · rintro ⟨m, ρ⟩ ⟨z1, oc, z2⟩
      replace z1 : m = [] ++ (q.map pl).filterMap fmL := z1
      replace z2 : ρ = _ := z2
      subst z1 z2
      rw [List.nil_append, fm_l]
      simp [back]
  simp only [E6, E0] at e8
  simp only [t6, nthS, fn_1032, E6, E0, evS_asg, evE_lst, evA_cons, evA_nil, evE_non, evE_tup, evE_dct, evE_str, evE_int, evE_bi, evE_v, evE_slc, evE_bin, evE_neg, gt_s, gt_0, optR_some, bind_okk, ok_bind, ok_ok, isNonT_non, nonT_int, nonT_neg, partR_tt, partR_ff, intO_int, e1, e2, e3, e4, e5, e6, e7, e8, keysT, evG_v, st_s, st_0, bads0]
theorem t7_ok (o : Ord R C q) : Ok (evS (CC (n + 7)) t7 (E6 S g (.lst (q.map pl)) k R C none none (some (.lst (bads0 q))) none none)) fun fl => ∃ bl : List D, fl = .nx (E6 S g (.lst (q.map pl)) k R C none none (some (.lst bl)) none none) ∧ ∀ x ∈ bl, Bad R C x := by
  obtain ⟨h1, h2, h3⟩ := o.len
  have e1 := sl_1 (q := q) (by omega)
  have e3 := sl_m1 (q := q) (by omega)
  have e7 : negD (.int 1) = some (.int (-1)) := rfl
  simp [t7, nthS, fn_1032, E6, E0]
  refine forR_inv (odds R C) (fun r ρ => ∃ bl : List D, ρ = E6 S g (.lst (q.map pl)) k R C none none (some (.lst bl)) none none ∧ (∀ x ∈ bl, Bad R C x) ∧ bl.length + 2 * r.length ≤ 100 ∧ ∀ x ∈ r, x ∈ odds R C) _ ⟨bads0 q, rfl, bads0_ok o, by simp [bads0, odds], fun x hx => hx⟩ ?_ ?_
  · rintro x r ρ _ ⟨bl, rfl, hb, hl, hr⟩
    have hx := hr x List.mem_cons_self
    have hr2 : ∀ y ∈ r, y ∈ odds R C := fun y hy => hr y (List.mem_cons_of_mem _ hy)
    rw [List.length_cons] at hl
    have e4 : binD .add (.lst ((q.take (q.length - 1)).map pl)) (.lst [x]) = some (.lst ((q.take (q.length - 1)).map pl ++ [x])) := add_ok (by simp; omega)
    have e5 : binD .add (.lst [x]) (.lst ((q.drop 1).map pl)) = some (.lst ([x] ++ (q.drop 1).map pl)) := add_ok (by simp; omega)
    have e6 : binD .add (.lst bl) (.lst (bads2 q x)) = some (.lst (bl ++ bads2 q x)) := add_ok (by simp [bads2]; omega)
    simp only [bads2] at e6
    simp only [evG_v, st_s, st_0, bind_okk, evB_cons, evB_nil, evS_asg, evE_lst, evA_cons, evA_nil, evE_v, evE_slc, evE_bin, evE_neg, evE_int, gt_s, gt_0, optR_some, isNonT_non, nonT_int, nonT_neg, partR_tt, partR_ff, intO_int, e1, e3, e4, e5, e6, e7, map_okk, maskFl_nx, ok_ok, E6, E0]
    exact ⟨_, rfl, fun y hy => (List.mem_append.mp hy).elim (hb y) (bads2_ok o hx y), by simp; omega, hr2⟩
  · rintro ρ ⟨bl, rfl, hb, _⟩
    exact ⟨bl, rfl, hb⟩
theorem t8_ok (o : Ord R C q) {bl : List D} (hb : ∀ x ∈ bl, Bad R C x) : Ok (evS (CC (n + 7)) t8 (E6 S g (.lst (q.map pl)) k R C none none (some (.lst bl)) none none)) fun fl => fl = .nx (E6 S g (.lst (q.map pl)) k R C none none (some (.lst bl)) none none) := by
  simp [t8, nthS, fn_1032, E6, E0]
  refine forR_inv bl (fun r ρ => ρ = E6 S g (.lst (q.map pl)) k R C none none (some (.lst bl)) none none ∧ ∀ x ∈ r, Bad R C x) _ ⟨rfl, hb⟩ ?_ ?_
  · rintro x r ρ _ ⟨rfl, hr⟩
    have hx := hr x List.mem_cons_self
    have hr2 : ∀ y ∈ r, Bad R C y := fun y hy => hr y (List.mem_cons_of_mem _ hy)
    simp
    refine (compR_inv fives (fun s (acc : List D) ρ => acc = [] ∧ (∃ oc, ρ = E6 S g (.lst (q.map pl)) k R C oc (some x) (some (.lst bl)) none none) ∧ ∀ x ∈ s, Is5 x) (Q := fun (a : List D × Env) => a.1 = [] ∧ ∃ oc, a.2 = E6 S g (.lst (q.map pl)) k R C oc (some x) (some (.lst bl)) none none) _ [] ⟨rfl, ⟨none, rfl⟩, is5⟩ ?_ ?_).mono ?_
    · rintro y s ρ acc _ ⟨rfl, ⟨oc, rfl⟩, hs⟩
      obtain ⟨f, rfl, hf⟩ := hs y List.mem_cons_self
      have hs2 : ∀ y ∈ s, Is5 y := fun y hy => hs y (List.mem_cons_of_mem _ hy)
      obtain ⟨w, e2, e3⟩ := door_bad (n := n) o.rc hx hf
      simp [e2, e3, told_neO]
      exact hs2
    · rintro acc ρ ⟨rfl, ⟨oc, rfl⟩, _⟩
      exact ⟨rfl, oc, rfl⟩
    · rintro ⟨acc, ρ⟩ ⟨e1, oc, e2⟩
      replace e1 : acc = [] := e1
      replace e2 : ρ = _ := e2
      subst e1 e2
      simp [back, ne_nn]
      exact hr2
  · rintro ρ ⟨rfl, _⟩
    rfl
theorem t9_ok (o : Ord R C q) {bl : Option D} : Ok (evS (CC (n + 7)) t9 (E6 S g (.lst (q.map pl)) k R C none none bl none none)) fun fl => fl = .nx (E6 S g (.lst (q.map pl)) k R C none none bl none none) := by
  have e0 := door_non (n := n) o.rc
  simp [t9, nthS, fn_1032, E6, E0]
  refine (compR_inv fives (fun s (acc : List D) ρ => acc = [] ∧ (∃ oc, ρ = E6 S g (.lst (q.map pl)) k R C oc none bl none none) ∧ ∀ x ∈ s, Is5 x) (Q := fun (a : List D × Env) => a.1 = [] ∧ ∃ oc, a.2 = E6 S g (.lst (q.map pl)) k R C oc none bl none none) _ [] ⟨rfl, ⟨none, rfl⟩, is5⟩ ?_ ?_).mono ?_
  · rintro y s ρ acc _ ⟨rfl, ⟨oc, rfl⟩, hs⟩
    obtain ⟨f, rfl, hf⟩ := hs y List.mem_cons_self
    have hs2 : ∀ y ∈ s, Is5 y := fun y hy => hs y (List.mem_cons_of_mem _ hy)
    have e3 := door_ok (n := n) o hf
    simp [e3]
    exact hs2
  · rintro acc ρ ⟨rfl, ⟨oc, rfl⟩, _⟩
    exact ⟨rfl, oc, rfl⟩
  · rintro ⟨acc, ρ⟩ ⟨e1, oc, e2⟩
    replace e1 : acc = [] := e1
    replace e2 : ρ = _ := e2
    subst e1 e2
    simp [back, ne_nn, e0]
theorem t10_ok {s : List Nat} {R C : Int} {bl : Option D} (h : reprD (.lst (q.map pl)) = some (.str s)) : Ok (evS (CC (n + 7)) t10 (E6 S g (.lst (q.map pl)) (.str s) R C none none bl none none)) fun fl => fl = .rt (.bl true) (E6 S g (.lst (q.map pl)) (.str s) R C none none bl none none) := by
  have e : cmpB .eq (.str s) (.str s) = some true := eq_self rfl
  simp [t10, nthS, fn_1032, E6, E0, h, e]
theorem law_n (n : Nat) (ns : List Int) : Ok (run prog (n + 8) 1032 [.lst (ns.map D.int)]) fun r => r = (.bl true, []) := by
  rw [run_succ]
  simp only [p1032, optR_some, bind_okk, runFn_eq]
  rw [if_pos (by rfl)]
  have ens : fn_1032.ns = 12 := rfl
  have eio : fn_1032.io = [] := rfl
  have enp : fn_1032.np = 1 := rfl
  rw [b_eq, ok_bind]
  simp only [ens, eio, enp, initE, List.map_cons, List.map_nil, List.length_cons, List.length_nil, Nat.reduceSub, Nat.reduceAdd, List.replicate_succ, List.replicate_zero, List.cons_append, List.nil_append]
  refine seq_ok t1_ok ?_
  rintro _ ⟨g, rfl, hg⟩
  dsimp only
  refine seq_ok (t2_ok hg) ?_
  rintro _ ⟨g, R, C, rfl, rc, hg⟩
  dsimp only
  refine seq_ok (t3_ok rc hg) ?_
  rintro _ ⟨g, q, rfl, o, hg⟩
  dsimp only
  refine seq_ok (t4_ok o) ?_
  rintro _ ⟨s, rfl, hs⟩
  dsimp only
  refine seq_ok (t5_ok o hg) ?_
  rintro _ ⟨g, rfl, hg⟩
  dsimp only
  refine seq_ok (t6_ok o) ?_
  rintro _ rfl
  dsimp only
  refine seq_ok (t7_ok o) ?_
  rintro _ ⟨bl, rfl, hb⟩
  dsimp only
  refine seq_ok (t8_ok o hb) ?_
  rintro _ rfl
  dsimp only
  refine seq_ok (t9_ok o) ?_
  rintro _ rfl
  dsimp only
  refine seq_ok (t10_ok hs) ?_
  rintro _ rfl
  simp [eio]
theorem law_true (ns : List Int) (h : ns.length ≤ 63) : run prog 30 1032 [.lst (ns.map D.int)] = .ok (.bl true, []) := (law_n 22 ns).eq
end
end Pz.K74
end
section
set_option Elab.async false
set_option linter.all false
set_option maxRecDepth 100000
set_option maxHeartbeats 0
namespace Pz.K74
open Pz PySem PySem.Spec PyProof.Rows L2
abbrev loose : List PySem.Str := ("PuzzleError" : PySem.Str) :: ("InvalidTable" : PySem.Str) :: ("InvalidOrder" : PySem.Str) :: ("is_whole" : PySem.Str) :: ("is_count" : PySem.Str) :: ("is_table" : PySem.Str) :: ("check_table" : PySem.Str) :: ("places_of_table" : PySem.Str) :: ("beside_place" : PySem.Str) :: ("is_spot" : PySem.Str) :: ("order_there" : PySem.Str) :: ("is_place_order" : PySem.Str) :: ("check_order" : PySem.Str) :: ("fits_there" : PySem.Str) :: ("fits_along" : PySem.Str) :: ("heap_with" : PySem.Str) :: ("heaps_in" : PySem.Str) :: ("heaps_along" : PySem.Str) :: ("rims_along" : PySem.Str) :: ("bare_steps" : PySem.Str) :: ("hard_steps" : PySem.Str) :: ("least_hard" : PySem.Str) :: ("Easy" : PySem.Str) :: ("easy_order" : PySem.Str) :: ("Ways" : PySem.Str) :: ("touches" : PySem.Str) :: ("is_touching" : PySem.Str) :: ("touching_number" : PySem.Str) :: ("_law_hash" : PySem.Str) :: ("_law_random" : PySem.Str) :: ("_law_cell" : PySem.Str) :: ("_law_generator" : PySem.Str) :: ("_law_pick" : PySem.Str) :: ("_law_same" : PySem.Str) :: ("_law_shuffled" : PySem.Str) :: ("_law_places" : PySem.Str) :: ("_law_near" : PySem.Str) :: ("_law_fits" : PySem.Str) :: ("_law_heaps" : PySem.Str) :: ("_law_is_order" : PySem.Str) :: ("_law_no_tables" : PySem.Str) :: ("_law_caught" : PySem.Str) :: []
abbrev fa : List He.Fa := faOf ds tb
abbrev fnl : List He.DefD := fnOf ds
abbrev R : PySem.W.OpenRow := PySem.W.OpenLaw.row PySem.Challenge.rw_puzzlebox_k74_orders_refused
abbrev file : PySem.Str := PySem.Challenge.rw_puzzlebox_k74_orders_refused.prog.main.file
abbrev eb : Option EbD := some ⟨5, ⟨4, 17, 4, 21⟩, ⟨4, 23, 4, 28⟩, ⟨5, 8, 5, 13⟩, ⟨5, 8, 5, 15⟩, ⟨5, 25, 5, 30⟩, ⟨5, 8, 5, 31⟩, ⟨6, 8, 6, 12⟩, ⟨6, 8, 6, 18⟩, ⟨6, 21, 6, 26⟩, ⟨6, 8, 6, 26⟩⟩
abbrev hk : PySem.W.Hook := hookP 8 fa fnl file eb tb.ex
def ob (s : PySem.W.SharedT) : AlP := obsP 8 fa fnl file eb tb.ex (HandSHeadRun.getT s)
theorem ob_eq (s : PySem.W.SharedT) : ob s = hk.obs s.abs := obsP_eq (HandSHeadRun.getT_eq s)
theorem run_ (w : World) : HandSHeadRun.RunEq R (PySem.W.view R.prog [48]) hk ob 4000 Pz.K74.loose w := by
  intro os
  kernel_rfl
end Pz.K74
open PySem PySem.W PySem.Calls PyProof.Rows
theorem PySem.Challenge.cw_puzzlebox_k74_orders_refused_holds : PySem.Challenge.rw_puzzlebox_k74_orders_refused.Holds := by
  w_on; o_law
  refine HandSHeadRun.head_any (r := OpenLaw.row PySem.Challenge.rw_puzzlebox_k74_orders_refused) (q := view (OpenLaw.row PySem.Challenge.rw_puzzlebox_k74_orders_refused).prog [48]) (H := Pz.K74.hk) (ob := Pz.K74.ob) (M := 4000) (loose := Pz.K74.loose) (d := HandSHeadRun.topDef (OpenLaw.row PySem.Challenge.rw_puzzlebox_k74_orders_refused).prog 48) (kwd := []) Pz.K74.ob_eq
    (by kernel_rfl) (fun s => by kernel_rfl) Pz.K74.run_ (by kernel_rfl) (by kernel_rfl) (by kernel_rfl) (by rfl) (by first | assumption | decide +kernel) (by decide +kernel) ⟨rfl, rfl, rfl, rfl, rfl, by decide +kernel⟩ ?hw ?hc
  case hw => w_witness2
  case hc =>
    refine Pz.walkG (eb := Pz.K74.eb) (file := Pz.K74.file) (l := PySem.Challenge.rw_puzzlebox_k74_orders_refused) (m := 63) (n := 30) (t := Pz.K74.tb) (Pg := Pz.K74.prog) (dl := Pz.K74.df_1032) rfl (by decide) (by kernel_rfl) ⟨rfl, by decide, by decide⟩ (by kernel_rfl) ?_ Pz.K74.tbOk (by simp [Pz.K74.ds]) rfl rfl rfl rfl rfl (by first | exact .inl ⟨rfl, rfl⟩ | exact .inr ⟨_, rfl, by decide⟩) rfl (by decide +kernel) Pz.K74.law_true
    intro w h mg Y G
    exact Y
end
