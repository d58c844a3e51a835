import PyProof.Rows.All
import Wide.All
import OpenK.AllK
import Wide.FinOn
import HandS.ForMost
import HandS.ForExc
import HandS.CallSlots
import PyProof.ReprReads
import PySem.Str
import HandS.Wide
import HandS.WideMore
import HandS.Flow
import HandS.TupAny
import HandS.TupMul
import HandS.List
import PyProof.Rows.StrOr
import HandS.Deep
import KE.DataEq
import KE.DataCmp
import HandS.Text
import HandS.TupLe
import HandS.Style
import HandS.WideBits
import HandS.Codes
import HandS.Walk
import HandS.Iter
import HandS.HeadEnd
import HandS.Ends
import HandS.Comp
import HandS.IsInst
import HandS.Conv
import HandS.RaiseMore
import KE.SortData
import KE.DataMinMax
import PyProof.ListStr
import KE.SortLaws
import HandS.Zip
import KE.KExcSuper
import KE.KSuper
import HandS.ExcInit
import HandS.Exc
import KE.KExcIs
import HandS.ExcField
import HandS.SetFor
import KE.KRevSl
import HandS.Defaults
import HandS.HeadHook1
import HandS.HeadHook2
import HandS.HeadHook4
import HandS.Head0
import HandS.Head1
import HandS.Head2
import PyProof.ReprText
import PyProof.StrLawsRepr
import PyProof.Rows.RegStrFacts
import PyProof.Rows.StrIntSpec
import PySem.Challenge.RW_puzzlebox_k15_whole_pieces_turned
section
/-! The IR and its evaluator over pure data. -/
namespace Pz

/-- plain data of Python, by value -/
inductive D where
  | non
  | bl (b : Bool)
  | int (i : Int)
  | str (s : List Nat)
  | lst (l : List D)
  | tup (l : List D)
  | dic (ks vs : List D)
  | set (l : List D)
  | fn (f : Nat)
  | exc (c : Nat) (fs : List D)
  deriving Inhabited

/-- how an evaluation fails: not told, or an exception of the text's own class -/
inductive Ex where
  | stuck
  | exc (c : Nat) (fs : List D)

abbrev R := Except Ex
abbrev Env := List (Option D)
abbrev bad {α : Type} : R α := .error .stuck

def lim : Nat := 16777216

/-! ### values -/
def b2i (b : Bool) : Int := if b then 1 else 0

mutual
/-- Python's == -/
def eqD : D → D → Bool
  | .non, y => match y with | .non => true | _ => false
  | .bl a, y => match y with | .bl b => a == b | .int j => b2i a == j | _ => false
  | .int i, y => match y with | .bl b => i == b2i b | .int j => i == j | _ => false
  | .str s, y => match y with | .str t => s == t | _ => false
  | .lst l, y => match y with | .lst m => eqL l m | _ => false
  | .tup l, y => match y with | .tup m => eqL l m | _ => false
  | .dic ks vs, y => match y with | .dic ks' vs' => ks.length == ks'.length && (match eqKV ks (ks'.zip vs') with | some ws => eqL vs ws | none => false) | _ => false
  | .set _, _ => false
  | .fn f, y => match y with | .fn g => f == g | _ => false
  | .exc _ _, _ => false
def eqL : List D → List D → Bool
  | [], m => m.isEmpty
  | x :: l, m => match m with | y :: m => eqD x y && eqL l m | [] => false
/-- the other dict's values of these keys -/
def eqKV : List D → List (D × D) → Option (List D)
  | [], _ => some []
  | k :: ks, m => match m.find? (fun p => eqD k p.1) with
    | some p => (eqKV ks m).map (p.2 :: ·)
    | none => none
end

/-- Python's order of texts -/
def ltS : List Nat → List Nat → Bool
  | [], [] => false
  | [], _ :: _ => true
  | _ :: _, [] => false
  | x :: l, y :: m => if x == y then ltS l m else decide (x < y)

mutual
/-- Python's <; none: not comparable -/
def ltD : D → D → Option Bool
  | .bl a, y => match y with | .bl b => some (decide (b2i a < b2i b)) | .int j => some (decide (b2i a < j)) | _ => none
  | .int i, y => match y with | .bl b => some (decide (i < b2i b)) | .int j => some (decide (i < j)) | _ => none
  | .str s, y => match y with | .str t => some (ltS s t) | _ => none
  | .lst l, y => match y with | .lst m => ltL l m | _ => none
  | .tup l, y => match y with | .tup m => ltL l m | _ => none
  | .non, _ | .dic _ _, _ | .set _, _ | .fn _, _ | .exc _ _, _ => none
def ltL : List D → List D → Option Bool
  | [], m => some (!m.isEmpty)
  | x :: l, m => match m with
    | [] => some false
    | y :: m => if eqD x y then ltL l m else ltD x y
end

/-- every two can be compared -/
def cmpAll (l : List D) : Bool := l.all fun x => l.all fun y => (ltD x y).isSome
def ltB (x y : D) : Bool := (ltD x y).getD false
/-- x stands ahead of the first that is not less -/
def insD (x : D) : List D → List D
  | [] => [x]
  | y :: l => if ltB y x then y :: insD x l else x :: y :: l
def insSort : List D → List D
  | [] => []
  | x :: l => insD x (insSort l)
def sortD (l : List D) : Option (List D) := if cmpAll l then some (insSort l) else none

def memD (x : D) (l : List D) : Bool := l.any fun y => eqD y x
def dedup : List D → List D → List D
  | acc, [] => acc.reverse
  | acc, x :: l => if memD x acc then dedup acc l else dedup (x :: acc) l

mutual
/-- may be a key: nothing that changes within -/
def keyOk : D → Bool
  | .non | .bl _ | .int _ | .str _ => true
  | .tup l => keysOk l
  | .lst _ | .dic _ _ | .set _ | .fn _ | .exc _ _ => false
def keysOk : List D → Bool
  | [] => true
  | x :: l => keyOk x && keysOk l
end

def isAtom : D → Bool
  | .non | .bl _ | .int _ | .str _ | .fn _ => true
  | _ => false

def truD : D → Bool
  | .non => false
  | .bl b => b
  | .int i => i != 0
  | .str s => !s.isEmpty
  | .lst l => !l.isEmpty
  | .tup l => !l.isEmpty
  | .dic ks _ => !ks.isEmpty
  | .set l => !l.isEmpty
  | .fn _ | .exc _ _ => true

def truO : D → Option Bool
  | .non => some false
  | .bl b => some b
  | .int i => some (i != 0)
  | .str s => if s.length ≤ lim then some (!s.isEmpty) else none
  | .lst l => some (!l.isEmpty)
  | .tup l => some (!l.isEmpty)
  | .dic ks _ => some (!ks.isEmpty)
  | .set _ | .fn _ | .exc _ _ => none

/-! ### dicts by parallel lists -/
def lookD (k : D) : List D → List D → Option D
  | k' :: ks, v :: vs => if eqD k' k then some v else lookD k ks vs
  | _, _ => none
def hasD (k : D) (ks : List D) : Bool := ks.any fun k' => eqD k' k
def putV (k v : D) : List D → List D → List D
  | k' :: ks, w :: vs => if eqD k' k then v :: vs else w :: putV k v ks vs
  | _, _ => [v]
def putK (k : D) (ks : List D) : List D := if hasD k ks then ks else ks ++ [k]
def delK (k : D) : List D → List D
  | [] => []
  | k' :: ks => if eqD k' k then ks else k' :: delK k ks
def delV (k : D) : List D → List D → List D
  | k' :: ks, w :: vs => if eqD k' k then vs else w :: delV k ks vs
  | _, vs => vs
def putD (d : D) (k v : D) : Option D := match d with
  | .dic ks vs => if keyOk k then some (.dic (putK k ks) (putV k v ks vs)) else none
  | _ => none
def dictOf : List D → List D → D → Option D
  | k :: ks, v :: vs, d => (putD d k v).bind (dictOf ks vs)
  | _, _, d => some d

/-! ### repr -/
def sOf (s : String) : List Nat := s.toList.map (·.toNat)
end Pz
end
section
/-! The IR and its evaluator. -/
namespace Pz
open PySem (PyData Str)

mutual
def toPy : D → PyData
  | .non => .none
  | .bl b => .bool b
  | .int i => .int i
  | .str s => .str ⟨s.toArray⟩
  | .lst l => .list (toPyL l)
  | .tup l => .tuple (toPyL l)
  | .dic ks vs => .dict ((toPyL ks).zip (toPyL vs))
  | .set _ | .fn _ | .exc _ _ => .none
def toPyL : List D → List PyData
  | [] => []
  | x :: l => toPy x :: toPyL l
end
mutual
/-- has a repr -/
def plainD : D → Bool
  | .non | .bl _ | .int _ | .str _ => true
  | .lst l | .tup l => plainL l
  | .dic ks vs => plainL ks && plainL vs && ks.length == vs.length
  | .set _ | .fn _ | .exc _ _ => false
def plainL : List D → Bool
  | [] => true
  | x :: l => plainD x && plainL l
end
mutual
def depthD : D → Nat
  | .lst l | .tup l => depthL l + 1
  | .dic ks vs => max (depthL ks) (depthL vs) + 1
  | .set l => depthL l + 1
  | .exc _ fs => depthL fs + 1
  | .non | .bl _ | .int _ | .str _ | .fn _ => 0
def depthL : List D → Nat
  | [] => 0
  | x :: l => max (depthD x) (depthL l)
end
mutual
/-- no set, no function within -/
def noLst : D → Bool
  | .non | .bl _ | .int _ | .str _ => true
  | .lst l => noLstL l
  | .tup l => noLstL l
  | .dic _ vs => noLstL vs
  | .set _ | .fn _ | .exc _ _ => false
def noLstL : List D → Bool
  | [] => true
  | x :: l => noLst x && noLstL l
end
mutual
/-- no dict, set, function within; at most so deep -/
def okD : Nat → D → Bool
  | _, .non | _, .bl _ | _, .int _ | _, .str _ => true
  | n, .lst l => (match n with | 0 => false | n + 1 => okL n l)
  | n, .tup l => (match n with | 0 => false | n + 1 => okL n l)
  | _, .dic _ _ | _, .set _ | _, .fn _ | _, .exc _ _ => false
def okL : Nat → List D → Bool
  | _, [] => true
  | n, x :: l => okD n x && okL n l
end
def reprD (d : D) : Option D :=
  if (okD 60 d || noLst d) && (toPy d).showable && decide ((toPy d).depth ≤ 60) && decide ((toPy d).shown.length ≤ lim) then some (.str (toPy d).shown.cps.toList) else none

/-! ### operators -/
inductive Bop where | add | cat | sub | mul | rep | fdiv | mod | pow
  deriving DecidableEq
inductive Cop where | eq | ne | lt | le | gt | ge | isin | notin | is | isnot
  deriving DecidableEq
/-- what isinstance asks -/
inductive Ty where | int | bool | str | list | tuple | dict | cls (c : Nat)
  deriving DecidableEq
/-- built-in functions of plain values -/
inductive Bi where | len | int | abs | repr | str | sum | sum2 | min | max | min2 | max2 | min3 | list | tuple | dict | set | sorted | all | any
  deriving DecidableEq
/-- methods that change nothing -/
inductive Me where | lenset | get | get2 | index | count | join | split | replace | bitlen | copy
  deriving DecidableEq

def bits (i : Int) : Nat := i.natAbs.log2 + 1
def mulOk (i j : Int) : Bool := decide (i.natAbs < 2 ^ 64) || decide (j.natAbs < 2 ^ 64) || decide (bits i + bits j < 900000)

def repL (n : Nat) (l : List D) : List D := (List.replicate n l).flatten

def two2 : D → D → Option (Int × Int)
  | .int i, y => match y with | .int j => some (i, j) | _ => none
  | _, _ => none
def addD : D → D → Option D
  | .int i, y => match y with | .int j => some (.int (i + j)) | _ => none
  | .str s, y => match y with | .str t => if s.length + t.length ≤ lim then some (.str (s ++ t)) else none | _ => none
  | .lst l, y => match y with | .lst m => if l.length + m.length ≤ lim then some (.lst (l ++ m)) else none | _ => none
  | .tup l, y => match y with | .tup m => if l.length + m.length ≤ lim then some (.tup (l ++ m)) else none | _ => none
  | _, _ => none
def catD : D → D → Option D
  | .lst l, y => match y with | .lst m => if l.length + m.length ≤ lim then some (.lst (l ++ m)) else none | _ => none
  | _, _ => none
def mulD : D → D → Option D
  | .int i, y => match y with | .int j => if mulOk i j then some (.int (i * j)) else none | _ => none
  | .str s, y => match y with | .int j => if 2 ≤ j ∧ j < 16777216 ∧ 0 < s.length ∧ s.length * j.toNat ≤ lim then some (.str ((List.replicate j.toNat s).flatten)) else none | _ => none
  | _, _ => none
def repD : D → D → Option D
  | .lst l, y => match y with | .int j => if -1000 ≤ j ∧ j < 16777216 ∧ l.length * j.toNat ≤ lim then some (.lst (repL j.toNat l)) else none | _ => none
  | _, _ => none
def binD (op : Bop) (x y : D) : Option D := match op with
  | .add => addD x y
  | .cat => catD x y
  | .mul => mulD x y
  | .rep => repD x y
  | .sub => (two2 x y).map fun p => .int (p.1 - p.2)
  | .fdiv => (two2 x y).bind fun p => if p.2 ≠ 0 ∧ p.2.natAbs.log2 < 8000 then some (.int (p.1.fdiv p.2)) else none
  | .mod => (two2 x y).bind fun p => if p.2 ≠ 0 then some (.int (p.1.fmod p.2)) else none
  | .pow => (two2 x y).bind fun p => if 0 ≤ p.2 ∧ bits p.1 * p.2.toNat ≤ 100000 then some (.int (p.1 ^ p.2.toNat)) else none

/-- sign by sign: does a text stand in another? -/
def subS (x : List Nat) : List Nat → Bool
  | [] => x.isEmpty
  | c :: l => x.isPrefixOf (c :: l) || subS x l
/-- is: told of None, and of two bools -/
def isD (x y : D) : Option Bool := match y with
  | .non => (match x with | .non => some true | .bl _ => some false | .int _ => some false | .str _ => some false | .lst _ => some false | .tup _ => some false | .dic _ _ => some false | .exc _ _ => some false | _ => none)
  | .bl b => (match x with | .bl a => some (a == b) | .non => some false | .int _ => some false | .str _ => some false | .lst _ => some false | .tup _ => some false | .dic _ _ => some false | _ => none)
  | _ => none
def eqO (x y : D) : Option Bool := if okD 60 x && okD 60 y then some (eqD x y) else none
/-! ### order -/
mutual
/-- place by place of one kind -/
def alk : D → D → Bool
  | .non, y => match y with | .non => true | _ => false
  | .bl _, y => match y with | .bl _ => true | _ => false
  | .int _, y => match y with | .int _ => true | _ => false
  | .str _, y => match y with | .str _ => true | _ => false
  | .lst l, y => match y with | .lst m => alkL l m | _ => false
  | .tup l, y => match y with | .tup m => alkL l m | _ => false
  | .dic _ _, _ | .set _, _ | .fn _, _ | .exc _ _, _ => false
def alkL : List D → List D → Bool
  | [], _ => true
  | x :: l, m => match m with | y :: m => alk x y && alkL l m | [] => true
end
mutual
/-- x < y, both of one kind -/
def ltT : D → D → Bool
  | .bl a, y => match y with | .bl b => decide (b2i a < b2i b) | _ => false
  | .int i, y => match y with | .int j => decide (i < j) | _ => false
  | .str s, y => match y with | .str t => decide (s < t) | _ => false
  | .lst l, y => match y with | .lst m => ltTL l m | _ => false
  | .tup l, y => match y with | .tup m => ltTL l m | _ => false
  | .non, _ | .dic _ _, _ | .set _, _ | .fn _, _ | .exc _ _, _ => false
def ltTL : List D → List D → Bool
  | [], m => !m.isEmpty
  | x :: l, m => match m with
    | [] => false
    | y :: m => if eqD x y then ltTL l m else ltT x y
end
def isNonD : D → Bool
  | .non => true
  | _ => false
def ltG (x y : D) : Option Bool := if alk x y && !isNonD x && okD 60 x && okD 60 y then some (ltT x y) else none
/-- x < y -/
def ltO : D → D → Option Bool
  | .int i, y => match y with | .int j => some (decide (i < j)) | _ => none
  | .str s, y => match y with | .str t => some (decide (s < t)) | _ => none
  | x, y => ltG x y
/-- x <= y -/
def leO : D → D → Option Bool
  | .int i, y => match y with | .int j => some (decide (i ≤ j)) | _ => none
  | .str s, y => match y with | .str t => some (!decide (t < s)) | _ => none
  | x, y => (ltG y x).map (!·)
/-- all of one kind -/
def allAlk (l : List D) : Bool := l.all fun x => !isNonD x && l.all fun y => alk x y
/-- the first of the least -/
def minO : List D → Option D
  | [] => none
  | x :: l => if allAlk (x :: l) && okL 60 (x :: l) then some (l.foldl (fun a y => if ltT y a then y else a) x) else none
def maxO : List D → Option D
  | [] => none
  | x :: l => if allAlk (x :: l) && okL 60 (x :: l) then some (l.foldl (fun a y => if ltT a y then y else a) x) else none
def insT (x : D) : List D → List D
  | [] => [x]
  | y :: l => if ltT y x then y :: insT x l else x :: y :: l
def isort : List D → List D
  | [] => []
  | x :: l => insT x (isort l)
def srtOk (l : List D) : Bool := (l.all fun x => match x with | .tup (_ :: _) => true | _ => false) || (l.all fun x => match x with | .tup _ => false | _ => true)
def sortO (l : List D) : Option (List D) := if allAlk l && okL 60 l && srtOk l && decide (l.length ≤ lim) then some (isort l) else none
def inD (x y : D) : Option Bool := match y with
  | .lst l => if okD 60 x && okL 60 l then some (memD x l) else none
  | .tup l => if okD 60 x && okL 60 l then some (memD x l) else none
  | .str s => (match x with | .str [c] => some (s.contains c) | _ => none)
  | .dic ks vs => (match x with | .int i => some (lookD (.int i) ks vs).isSome | .str s => some (lookD (.str s) ks vs).isSome | _ => none)
  | _ => none
def cmpB (op : Cop) (x y : D) : Option Bool := match op with
  | .eq => eqO x y
  | .ne => (eqO x y).map (!·)
  | .lt => ltO x y
  | .gt => ltO y x
  | .le => leO x y
  | .ge => leO y x
  | .isin => inD x y
  | .notin => (inD x y).map (!·)
  | .is => isD x y
  | .isnot => (isD x y).map (!·)

def isTy (d : D) : Ty → Bool
  | .int => match d with | .int _ | .bl _ => true | _ => false
  | .bool => match d with | .bl _ => true | _ => false
  | .str => match d with | .str _ => true | _ => false
  | .list => match d with | .lst _ => true | _ => false
  | .tuple => match d with | .tup _ => true | _ => false
  | .dict => match d with | .dic _ _ => true | _ => false
  | .cls c => match d with | .exc c' _ => c == 0 || c == c' | _ => false

/-- isinstance is told -/
def tyOk : D → Bool
  | .set _ | .fn _ | .exc _ _ => false
  | _ => true
/-- isinstance of an own error's class -/
def isCls (j : Nat) : D → Option Bool
  | .exc k _ => some (j == 0 || j == k)
  | d => if tyOk d then some false else none
def isTs (d : D) : List Ty → Option Bool
  | [] => some false
  | t :: ts => (match t with
    | .cls j => if ts.isEmpty then isCls j d else none
    | t => if tyOk d then (if isTy d t then some true else isTs d ts) else none)
/-- an index from either end -/
def ixI (n : Nat) (i : Int) : Option Nat :=
  if 0 ≤ i then (if i < n then some i.toNat else none) else (if -(n : Int) ≤ i then some (i + n).toNat else none)
def asIx : D → Option Int
  | .int i => some i
  | .bl b => some (b2i b)
  | _ => none
/-- a dict's key: an int or a text -/
def atomK : D → Bool
  | .int _ | .str _ => true
  | _ => false
def dicO : D → Option Unit
  | .dic _ _ => some ()
  | _ => none
def getD (o k : D) : Option D := match o with
  | .dic ks vs => if atomK k then lookD k ks vs else none
  | .lst l => (match k with | .int i => ((ixI l.length i).bind fun n => l[n]?) | _ => none)
  | .tup l => (match k with | .int i => ((ixI l.length i).bind fun n => l[n]?) | _ => none)
  | .str s => (match k with | .int i => if s.length ≤ lim then ((ixI s.length i).bind fun n => (s[n]?).map fun c => .str [c]) else none | _ => none)
  | _ => none
/-- a slice's end -/
def cut (n : Nat) (i : Int) : Nat := if i < 0 then (i + n).toNat else min i.toNat n
def slcL {α : Type} (l : List α) (lo hi : Option Int) : List α :=
  let a := match lo with | none => 0 | some i => cut l.length i
  let b := match hi with | none => l.length | some i => cut l.length i
  (l.drop a).take (b - a)
def intO : D → Option Int
  | .int i => some i
  | _ => none
def slcV (lo hi : Option Int) : D → Option D
  | .lst l => some (.lst (slcL l lo hi))
  | .tup l => some (.tup (slcL l lo hi))
  | .str s => if s.length ≤ lim then some (.str (slcL s lo hi)) else none
  | _ => none
/-- [::-1] -/
def revD : D → Option D
  | .lst l => some (.lst l.reverse)
  | .tup l => some (.tup l.reverse)
  | _ => none
def lenD : D → Option D
  | .lst l | .tup l => some (.int l.length)
  | .str s => if s.length ≤ lim then some (.int s.length) else none
  | .set l => some (.int l.length)
  | _ => none
/-- what a for walks -/
def itemsD : D → Option (List D)
  | .lst l | .tup l => some l
  | .str s => some (s.map fun c => .str [c])
  | _ => none
def rangeL (lo hi : Int) : List D := (List.range (hi - lo).toNat).map fun (i : Nat) => .int (lo + i)
def rangeDown (lo hi : Int) : List D := (List.range (lo - hi).toNat).map fun (i : Nat) => .int (lo - i)

def digits (i : Int) : List Nat := (toString i).toList.map (·.toNat)
def sumL : Int → List D → Option Int
  | a, [] => some a
  | a, .int i :: l => sumL (a + i) l
  | _, _ => none
def catL : List D → List D → Option (List D)
  | a, [] => some a
  | a, .lst m :: l => if a.length + m.length ≤ lim then catL (a ++ m) l else none
  | _, _ => none
def allB : List D → Option Bool
  | [] => some true
  | .bl b :: l => (allB l).map (b && ·)
  | _ => none
def anyB : List D → Option Bool
  | [] => some false
  | .bl b :: l => (anyB l).map (b || ·)
  | _ => none
def seqO : D → Option (List D)
  | .lst l | .tup l => some l
  | _ => none
def pairsD : List D → D → Option D
  | [], d => some d
  | .tup [k, v] :: l, d => (putD d k v).bind (pairsD l)
  | _, _ => none
def biD (b : Bi) (as : List D) : Option D := match b, as with
  | .len, [x] => lenD x
  | .int, [.int i] => some (.int i)
  | .int, [.bl b] => some (.int (b2i b))
  | .abs, [.int i] => some (.int (if i < 0 then -i else i))
  | .repr, [x] => reprD x
  | .str, [.int i] => if i.natAbs.log2 < 12900 then some (.str (digits i)) else none
  | .str, [.str s] => some (.str s)
  | .sum, [.lst l] => (sumL 0 l).map D.int
  | .sum2, [x, .lst l] => (itemsD x).bind fun m => (catL l m).map D.lst
  | .min, [x] => (seqO x).bind minO
  | .max, [x] => (seqO x).bind maxO
  | .min2, [.int i, .int j] => some (.int (if j < i then j else i))
  | .max2, [.int i, .int j] => some (.int (if j > i then j else i))
  | .min3, [x, y, z] => minO [x, y, z]
  | .list, [.str s] => if s.length ≤ lim then some (.lst (s.map fun c => .str [c])) else none
  | .list, [x] => (seqO x).map D.lst
  | .tuple, [x] => (seqO x).map D.tup
  | .dict, [.dic ks vs] => some (.dic ks vs)
  | .dict, [.lst l] => pairsD l (.dic [] [])
  | .set, [x] => (seqO x).bind fun l => if (l.all fun y => match y with | .int _ => true | _ => false) && decide (l.length ≤ 4000) then some (.set (dedup [] l)) else none
  | .sorted, [.set l] => (sortO l).map D.lst
  | .sorted, [.lst l] => (sortO l).map D.lst
  | .all, [.lst l] => (allB l).map D.bl
  | .any, [.lst l] => (anyB l).map D.bl
  | _, _ => none

def firstIx (x : D) : List D → Nat → Option Nat
  | [], _ => none
  | y :: l, n => if eqD y x then some n else firstIx x l (n + 1)
def strsOf : List D → Option (List (List Nat))
  | [] => some []
  | .str s :: l => (strsOf l).map (s :: ·)
  | _ :: _ => none
def joinS (sep : List Nat) : List (List Nat) → List Nat
  | [] => []
  | [x] => x
  | x :: l => x ++ sep ++ joinS sep l
/-- split at one sign -/
def splitS (c : Nat) : List Nat → List (List Nat)
  | [] => [[]]
  | x :: l => if x == c then [] :: splitS c l else (match splitS c l with | w :: r => (x :: w) :: r | [] => [[x]])
def bitLen (i : Int) : Nat := if i == 0 then 0 else i.natAbs.log2 + 1
/-- what a method's receiver must be ahead of its arguments -/
def meOk (m : Me) (o : D) : Option Unit := match m with
  | .get | .get2 => dicO o
  | _ => some ()
def meD (m : Me) (o : D) (as : List D) : Option D := match m, o, as with
  | .lenset, x, [] => (biD .set [x]).bind lenD
  | .get, .dic ks vs, [k] => if atomK k then some ((lookD k ks vs).getD .non) else none
  | .get2, .dic ks vs, [k, z] => if atomK k then some ((lookD k ks vs).getD z) else none
  | .index, .lst l, [x] => if okD 60 x && okL 60 l then ((firstIx x l 0).map fun n : Nat => D.int n) else none
  | .count, .lst l, [x] => if okD 60 x && okL 60 l then some (.int ((l.filter fun y => eqD y x).length)) else none
  | .count, .tup l, [x] => if okD 60 x && okL 60 l then some (.int ((l.filter fun y => eqD y x).length)) else none
  | .join, .str sep, [.lst l] => ((strsOf l)).bind fun ws => if (joinS sep ws).length ≤ lim ∧ (ws.map (·.length)).sum + ws.length * sep.length ≤ lim then some (.str (joinS sep ws)) else none
  | .split, .str s, [.str [c]] => some (.lst ((splitS c s).map .str))
  | .bitlen, .int i, [] => some (.int (bitLen i))
  | _, _, _ => none


def negD : D → Option D
  | .int i => some (.int (-i))
  | _ => none
def atomD (d : D) : Option D := if isAtom d then some d else none
/-- what pop hands back, and leaves -/
def popD : D → List D → Option (D × D)
  | .lst l, as => (match as with
    | [] => l.getLast?.map fun x => (x, .lst l.dropLast)
    | [.int k] => (ixI l.length k).bind fun n => l[n]?.map fun x => (x, .lst (l.eraseIdx n))
    | _ => none)
  | .dic ks vs, as => (match as with
    | [k] => (lookD k ks vs).map fun x => (x, .dic (delK k ks) (delV k ks vs))
    | _ => none)
  | _, _ => none
/-- pop(k) of a list: what it hands back, and leaves -/
def popL (o : D) (k : D) : Option (D × D) := match o with
  | .lst l => (match k with
    | .int k => if l.length ≤ lim then ((ixI l.length k).bind fun n => l[n]?.map fun x => (x, .lst (l.eraseIdx n))) else none
    | _ => none)
  | _ => none
def attrD (n : Nat) : D → Option D
  | .exc _ fs => fs[n]?
  | _ => none
def zipD : List D → List D → List D
  | x :: l, y :: m => .tup [x, y] :: zipD l m
  | _, _ => []
def lstO : D → Option (List D)
  | .lst l => some l
  | _ => none
def zipO : D → D → Option (List D)
  | .lst l, y => match y with | .lst m => some (zipD l m) | _ => none
  | .tup l, y => match y with | .tup m => some (zipD l m) | _ => none
  | _, _ => none
def enumD : Nat → List D → List D
  | _, [] => []
  | n, x :: l => .tup [.int n, x] :: enumD (n + 1) l
def pairsOf : D → Option (List D)
  | .dic ks vs => some (zipD ks vs)
  | _ => none
def valsOf : D → Option (List D)
  | .dic _ vs => some vs
  | _ => none
def small (i : Int) : Bool := decide (i.natAbs < 2 ^ 62)
def rngD : List D → Option (List D)
  | [.int n] => if small n then some (rangeL 0 n) else none
  | [.int a, .int b] => if small a && small b then some (rangeL a b) else none
  | [.int a, .int b, .int c] => if small a && small b && decide (c = -1) then some (rangeDown a b) else none
  | _ => none
def itemsT (n : Nat) : D → Option (List D)
  | .tup l => if l.length = n then some l else none
  | _ => none

/-! ### environments -/
def gt (ρ : Env) (i : Nat) : Option D := match ρ[i]? with
  | some (some d) => some d
  | _ => none
def st (ρ : Env) (i : Nat) (d : D) : Env := ρ.set i (some d)
def unset (ρ : Env) : List Nat → Env
  | [] => ρ
  | i :: l => unset (ρ.set i none) l
/-- the slots of a block's own names as they were outside -/
def back (ρ₀ ρ : Env) : List Nat → Env
  | [] => ρ
  | i :: l => back ρ₀ (ρ.set i ((ρ₀[i]?).getD none)) l
/-- what is lent, as it stands now: the arguments at these places -/
def lend (ρ : Env) (as : List D) : List (Nat × Nat) → Option (List D)
  | [] => some as
  | (j, i) :: l => (gt ρ i).bind fun d => lend ρ (as.set j d) l
/-- .. and what comes back -/
def setIO (ρ : Env) : List (Nat × Nat) → List D → Env
  | (_, i) :: l, d :: ds => setIO (st ρ i d) l ds
  | _, _ => ρ
/-- keywords: the arguments by the parameters' order -/
def permD (as : List D) : List Nat → Option (List D)
  | [] => some []
  | i :: l => as[i]?.bind fun d => (permD as l).map (d :: ·)

/-- a path of keys: what stands there is turned by f -/
def updAt (f : D → Option D) : List D → D → Option D
  | [], o => f o
  | k :: ks, o => match o with
    | .lst l => (match k with
      | .int i => (ixI l.length i).bind fun n => l[n]?.bind fun x => (updAt f ks x).map fun x' => .lst (l.set n x')
      | _ => none)
    | .tup l => (match k with
      | .int i => (ixI l.length i).bind fun n => l[n]?.bind fun x => (updAt f ks x).map fun x' => .tup (l.set n x')
      | _ => none)
    | .dic dk dv => (lookD k dk dv).bind fun x => (updAt f ks x).map fun x' => .dic dk (putV k x' dk dv)
    | _ => none
def setItemD (k v : D) : D → Option D
  | .lst l => (match k with
    | .int i => (ixI l.length i).map fun n => .lst (l.set n v)
    | _ => none)
  | _ => none
def appD (v : D) : D → Option D
  | .lst l => if l.length < lim then some (.lst (l ++ [v])) else none
  | _ => none
/-- a def's number -/
def fnO : D → Option Nat
  | .fn f => some f
  | _ => none
def lstD : D → Option D
  | .lst l => some (.lst l)
  | _ => none
def insD' (k : D) (v : D) : D → Option D
  | .lst l => (match k with
    | .int i => if l.length < lim then some (.lst (l.take (cut l.length i) ++ v :: l.drop (cut l.length i))) else none
    | _ => none)
  | _ => none

/-! ### the IR -/
inductive T where
  -- expressions
  | v (i : Nat)
  | non | tt | ff | int (i : Int) | str (s : List Nat)
  | glob (g : Nat)
  | fnv (f : Nat)
  | atm (a : T)
  | bin (op : Bop) (a b : T)
  | neg (a : T) | not (a : T)
  | and (a b : T) | or (a b : T)
  | cmp (op : Cop) (a b : T)
  | chain (o1 o2 : Cop) (a b c : T)
  | ite (c a b : T)
  | isi (a : T) (ts : List Ty)
  | call (f : Nat) (as : T) (io : List (Nat × Nat))
  | callk (f : Nat) (as : T) (perm : List Nat) (io : List (Nat × Nat))
  | callv (i : Nat) (as : T)
  | bi (b : Bi) (as : T)
  | biw (b : Bi) (it : T)
  | me (m : Me) (o as : T)
  | pop (i : Nat) (a : T)
  | idx (a k : T) | slc (a lo hi : T) | rev (a : T)
  | tup (as : T) | lst (n : Nat) (as : T) | dct (ks vs : T)
  | lc (e tg it c : T) (own : List Nat)
  | lc2 (e tg it c tg2 it2 c2 : T) (own own2 : List Nat)
  | dc (k e tg it c : T) (own : List Nat)
  | dc2 (k e tg it c tg2 it2 c2 : T) (own own2 : List Nat)
  | tupo (n : Nat) (as : T)
  | lcw (e : T) (j i : Nat)
  | attr (a : T) (n : Nat)
  -- what is walked
  | rng (as : T) | enum (it : T) | zip (a b : T) | items (a : T) | vals (a : T) | rvd (a : T) | wlk (a : T)
  -- lists
  | nil | cons (a b : T)
  -- statements
  | asg (tg e : T)
  | mov (j i : Nat)
  | par (tgs es : T)
  | aug (i : Nat) (e : T)
  | app (o e : T)
  | ins (o k e : T)
  | upd (o e : T)
  | exp (e : T)
  | sif (c a b : T)
  | whl (c b : T) (mask : List Nat)
  | for (tg it b : T) (mask : List Nat)
  | ret (e : T)
  | retv (i : Nat)
  | retn
  | rai (c : Nat) (as : T)
  | try (b : T) (c : Nat) (i : Nat) (h : T) (mask : List Nat)
  | pas | brk | cnt
  | frz (i n : Nat)
  | mask (l : List Nat)
  deriving Inhabited

inductive Fl where
  | nx (ρ : Env)
  | rt (d : D) (ρ : Env)
  | bk (ρ : Env)
  | ct (ρ : Env)

def lenT : T → Nat
  | .cons _ b => lenT b + 1
  | _ => 0
def optR {α : Type} : Option α → R α
  | some a => .ok a
  | none => bad

/-- the constants of a display's keys -/
def keysT : T → List D
  | .cons a r => (match a with | .str s => .str s | .int i => .int i | _ => .non) :: keysT r
  | _ => []
structure Cfg where
  call : Nat → List D → R (D × List D)
  glob : Nat → D
  fuel : Nat

def isNonT : T → Bool
  | .non => true
  | _ => false
/-- a slice's end -/
def partR (n : Bool) (f : Env → R (D × Env)) (ρ : Env) : R (Option Int × Env) := if n then .ok (none, ρ) else (f ρ).bind fun p => (optR (intO p.1)).bind fun i => .ok (some i, p.2)
/-- no exception of the text's own here -/
def nox {α : Type} : R α → R α
  | .ok a => .ok a
  | .error _ => bad
/-- a comprehension's walk -/
def compR {α : Type} (f : D → Env → α → R (α × Env)) : List D → Env → α → R (α × Env)
  | [], ρ, acc => .ok (acc, ρ)
  | x :: l, ρ, acc => (f x ρ acc).bind fun p => compR f l p.2 p.1

/-- the items of an own list or tuple -/
def ownI : D → Option (Bool × List D)
  | .lst l => some (false, l)
  | .tup l => some (true, l)
  | _ => none
def mkO : Bool → List D → D
  | false, l => .lst l
  | true, l => .tup l
/-- a comprehension that lends each item of an own list -/
def lcwR (f : Env → R (D × Env)) (j i : Nat) : List D → Env → List D → List D → R (List D × List D × Env)
  | [], ρ, its, acc => .ok (its, acc, ρ)
  | x :: l, ρ, its, acc => (f (st ρ j x)).bind fun p => (optR (gt p.2 j)).bind fun x' => if acc.length < lim then lcwR f j i l ((p.2.set i none).set j none) (its ++ [x']) (acc ++ [p.1]) else bad
def backO (ρ0 ρ : Env) (j : Nat) : Env := ρ.set j ((ρ0[j]?).getD none)
/-- a for's walk -/
def forR (f : D → Env → R Fl) : List D → Env → R Fl
  | [], ρ => .ok (.nx ρ)
  | x :: l, ρ => (f x ρ).bind fun r => match r with
    | .nx ρ' => forR f l ρ'
    | .ct ρ' => forR f l ρ'
    | .bk ρ' => .ok (.nx ρ')
    | .rt d ρ' => .ok (.rt d ρ')
def whlR (c : Env → R (Bool × Env)) (b : Env → R Fl) : Nat → Env → R Fl
  | 0, _ => bad
  | n + 1, ρ => (c ρ).bind fun p => if p.1 then (b p.2).bind fun r => match r with
      | .nx ρ' => whlR c b n ρ'
      | .ct ρ' => whlR c b n ρ'
      | .bk ρ' => .ok (.nx ρ')
      | .rt d ρ' => .ok (.rt d ρ')
    else .ok (.nx p.2)
def maskFl (m : List Nat) : Fl → Fl
  | .nx ρ => .nx (unset ρ m)
  | .ct ρ => .ct (unset ρ m)
  | .bk ρ => .bk (unset ρ m)
  | .rt d ρ => .rt d ρ
/-- behind an except suite its name is gone -/
def sufFl (i : Nat) : Fl → Fl
  | .nx ρ => .nx (ρ.set i none)
  | .ct ρ => .ct (ρ.set i none)
  | .bk ρ => .bk (ρ.set i none)
  | .rt d ρ => .rt d ρ
/-- one more item of a list that is made -/
def push (acc : List D) (p : D × Env) : R (List D × Env) := if acc.length < lim then .ok (acc ++ [p.1], p.2) else bad

mutual
/-- the slot and the keys of a place that is changed -/
def evP (C : Cfg) : T → Env → R (Nat × List D × Env)
  | .v i, ρ => (optR (gt ρ i)).bind fun _ => .ok (i, [], ρ)
  | .idx a k, ρ => (evP C a ρ).bind fun p => (evE C k p.2.2).bind fun q => .ok (p.1, p.2.1 ++ [q.1], q.2)
  | _, _ => bad
/-- an assignment's target -/
def evG (C : Cfg) : T → D → Env → R Env
  | .v i, d, ρ => .ok (st ρ i d)
  | .tup as, d, ρ => (optR (itemsT (lenT as) d)).bind fun l => evGs C as l ρ
  | .idx a k, d, ρ => (evP C a ρ).bind fun p => (evE C k p.2.2).bind fun q =>
      (optR (gt q.2 p.1)).bind fun o => (optR (updAt (setItemD q.1 d) p.2.1 o)).bind fun o' => .ok (st q.2 p.1 o')
  | _, _, _ => bad
def evGs (C : Cfg) : T → List D → Env → R Env
  | .nil, l, ρ => if l.isEmpty then .ok ρ else bad
  | .cons a b, l, ρ => (match l with
    | x :: l => (evG C a x ρ).bind fun ρ' => evGs C b l ρ'
    | [] => bad)
  | _, _, _ => bad
/-- an expression's list -/
def evA (C : Cfg) : T → Env → R (List D × Env)
  | .nil, ρ => .ok ([], ρ)
  | .cons a b, ρ => (evE C a ρ).bind fun p => (evA C b p.2).bind fun q => .ok (p.1 :: q.1, q.2)
  | _, _ => bad
/-- what is walked -/
def evI (C : Cfg) : T → Env → R (List D × Env)
  | .rng as, ρ => (evA C as ρ).bind fun p => (optR (rngD p.1)).bind fun l => .ok (l, p.2)
  | .enum a, ρ => (evE C a ρ).bind fun p => (optR (lstO p.1)).bind fun l => .ok (enumD 0 l, p.2)
  | .zip a b, ρ => (evE C a ρ).bind fun p => (evE C b p.2).bind fun q => (optR (zipO p.1 q.1)).bind fun l => .ok (l, q.2)
  | .items a, ρ => (evE C a ρ).bind fun p => (optR (pairsOf p.1)).bind fun l => .ok (l, p.2)
  | .vals a, ρ => (evE C a ρ).bind fun p => (optR (valsOf p.1)).bind fun l => .ok (l, p.2)
  | .rvd a, ρ => (evI C a ρ).bind fun p => .ok (p.1.reverse, p.2)
  | .wlk a, ρ => (evE C a ρ).bind fun p => (optR (itemsD p.1)).bind fun l => .ok (l, p.2)
  | _, _ => bad
def evE (C : Cfg) : T → Env → R (D × Env)
  | .v i, ρ => (optR (gt ρ i)).bind fun d => .ok (d, ρ)
  | .non, ρ => .ok (.non, ρ)
  | .tt, ρ => .ok (.bl true, ρ)
  | .ff, ρ => .ok (.bl false, ρ)
  | .int i, ρ => .ok (.int i, ρ)
  | .str s, ρ => .ok (.str s, ρ)
  | .glob g, ρ => .ok (C.glob g, ρ)
  | .fnv f, ρ => .ok (.fn f, ρ)
  | .atm a, ρ => (evE C a ρ).bind fun p => (optR (atomD p.1)).bind fun d => .ok (d, p.2)
  | .bin op a b, ρ => (evE C a ρ).bind fun p => (evE C b p.2).bind fun q => (optR (binD op p.1 q.1)).bind fun d => .ok (d, q.2)
  | .neg a, ρ => (evE C a ρ).bind fun p => (optR (negD p.1)).bind fun d => .ok (d, p.2)
  | .not a, ρ => (evE C a ρ).bind fun p => (optR (truO p.1)).bind fun b => .ok (.bl (!b), p.2)
  | .and a b, ρ => (evE C a ρ).bind fun p => (optR (truO p.1)).bind fun t => if t then evE C b p.2 else .ok p
  | .or a b, ρ => (evE C a ρ).bind fun p => (optR (truO p.1)).bind fun t => if t then .ok p else evE C b p.2
  | .cmp op a b, ρ => (evE C a ρ).bind fun p => (evE C b p.2).bind fun q => (optR (cmpB op p.1 q.1)).bind fun d => .ok (.bl d, q.2)
  | .chain o1 o2 a b c, ρ => (evE C a ρ).bind fun p => (evE C b p.2).bind fun q => (optR (cmpB o1 p.1 q.1)).bind fun d =>
      if d then (evE C c q.2).bind fun r => (optR (cmpB o2 q.1 r.1)).bind fun d' => .ok (.bl d', r.2) else .ok (.bl false, q.2)
  | .ite c a b, ρ => (evE C c ρ).bind fun p => (optR (truO p.1)).bind fun t => if t then evE C a p.2 else evE C b p.2
  | .isi a ts, ρ => (evE C a ρ).bind fun p => (optR (isTs p.1 ts)).bind fun b => .ok (.bl b, p.2)
  | .call f as io, ρ => (evA C as ρ).bind fun p => (optR (lend p.2 p.1 io)).bind fun ds => (C.call f ds).bind fun r => .ok (r.1, setIO p.2 io r.2)
  | .callk f as pm io, ρ => (evA C as ρ).bind fun p => (optR (permD p.1 pm)).bind fun as' => (optR (lend p.2 as' io)).bind fun ds => (C.call f ds).bind fun r => .ok (r.1, setIO p.2 io r.2)
  | .callv i as, ρ => (optR ((gt ρ i).bind fnO)).bind fun f => (evA C as ρ).bind fun p => (C.call f p.1).bind fun r => .ok (r.1, p.2)
  | .bi b as, ρ => (evA C as ρ).bind fun p => (optR (biD b p.1)).bind fun d => .ok (d, p.2)
  | .biw b it, ρ => (evI C it ρ).bind fun p => (optR (biD b [.lst p.1])).bind fun d => .ok (d, p.2)
  | .me m o as, ρ => (evE C o ρ).bind fun p => (optR (meOk m p.1)).bind fun _ => (evA C as p.2).bind fun q => (optR (meD m p.1 q.1)).bind fun d => .ok (d, q.2)
  | .pop i a, ρ => (optR ((gt ρ i).bind lstD)).bind fun _ => (evE C a ρ).bind fun q => (optR ((gt q.2 i).bind lstD)).bind fun o => (optR (popL o q.1)).bind fun r => .ok (r.1, st q.2 i r.2)
  | .idx a k, ρ => (evE C a ρ).bind fun p => (evE C k p.2).bind fun q => (optR (getD p.1 q.1)).bind fun d => .ok (d, q.2)
  | .slc a lo hi, ρ => (evE C a ρ).bind fun p => (partR (isNonT lo) (evE C lo) p.2).bind fun q => (partR (isNonT hi) (evE C hi) q.2).bind fun r => (optR (slcV q.1 r.1 p.1)).bind fun d => .ok (d, r.2)
  | .rev a, ρ => (evE C a ρ).bind fun p => (optR (revD p.1)).bind fun d => .ok (d, p.2)
  | .tup as, ρ => (evA C as ρ).bind fun p => .ok (.tup p.1, p.2)
  | .lst _ as, ρ => (evA C as ρ).bind fun p => .ok (.lst p.1, p.2)
  | .dct ks vs, ρ => (evA C vs ρ).bind fun p => .ok (.dic (keysT ks) p.1, p.2)
  | .lc e tg it c own, ρ => (evI C it ρ).bind fun p =>
      (nox (compR (fun x ρ acc => (evG C tg x (unset ρ own)).bind fun ρ1 => (evC C c ρ1).bind fun t => if t.1 then (evE C e t.2).bind (push acc) else .ok (acc, t.2)) p.1 p.2 [])).bind fun r =>
      .ok (.lst r.1, back p.2 r.2 own)
  | .lc2 e tg it c tg2 it2 c2 own own2, ρ => (evI C it ρ).bind fun p =>
      (nox (compR (fun x ρ acc => (evG C tg x (unset ρ own)).bind fun ρ1 => (evC C c ρ1).bind fun t => if t.1 then (evI C it2 t.2).bind fun p2 =>
        compR (fun x ρ acc => (evG C tg2 x (unset ρ own2)).bind fun ρ1 => (evC C c2 ρ1).bind fun t => if t.1 then (evE C e t.2).bind (push acc) else .ok (acc, t.2)) p2.1 p2.2 acc else .ok (acc, t.2)) p.1 p.2 [])).bind fun r =>
      .ok (.lst r.1, back p.2 r.2 own)
  | .dc k e tg it c own, ρ => (evI C it ρ).bind fun p =>
      (compR (fun x ρ acc => (evG C tg x (unset ρ own)).bind fun ρ1 => (evC C c ρ1).bind fun t => if t.1 then (evE C k t.2).bind fun q1 => (evE C e q1.2).bind fun q => (optR (putD acc q1.1 q.1)).bind fun d => .ok (d, q.2) else .ok (acc, t.2)) p.1 p.2 (D.dic [] [])).bind fun r =>
      .ok (r.1, back p.2 r.2 own)
  | .dc2 k e tg it c tg2 it2 c2 own own2, ρ => (evI C it ρ).bind fun p =>
      (compR (fun x ρ acc => (evG C tg x (unset ρ own)).bind fun ρ1 => (evC C c ρ1).bind fun t => if t.1 then (evI C it2 t.2).bind fun p2 =>
        compR (fun x ρ acc => (evG C tg2 x (unset ρ own2)).bind fun ρ1 => (evC C c2 ρ1).bind fun t => if t.1 then (evE C k t.2).bind fun q1 => (evE C e q1.2).bind fun q => (optR (putD acc q1.1 q.1)).bind fun d => .ok (d, q.2) else .ok (acc, t.2)) p2.1 p2.2 acc else .ok (acc, t.2)) p.1 p.2 (D.dic [] [])).bind fun r =>
      .ok (r.1, back p.2 r.2 own)
  | .tupo _ as, ρ => (evA C as ρ).bind fun p => .ok (.tup p.1, p.2)
  | .lcw e j i, ρ => (optR ((gt ρ i).bind ownI)).bind fun p => (nox (lcwR (evE C e) j i p.2 ((ρ.set i none).set j none) [] [])).bind fun r => .ok (.lst r.2.1, st (backO ρ r.2.2 j) i (mkO p.1 r.1))
  | .attr a n, ρ => (evE C a ρ).bind fun p => (optR (attrD n p.1)).bind fun d => .ok (d, p.2)
  | _, _ => bad
/-- a comprehension's test -/
def evC (C : Cfg) : T → Env → R (Bool × Env)
  | .nil, ρ => .ok (true, ρ)
  | .cons a _, ρ => (evE C a ρ).bind fun p => (optR (truO p.1)).bind fun t => .ok (t, p.2)
  | _, _ => bad
end

/-- the values of several targets, stored one behind the other -/
def parG (C : Cfg) (tgs : T) (l : List D) (ρ : Env) : R Env := evGs C tgs l ρ

mutual
def evS (C : Cfg) : T → Env → R Fl
  | .asg tg e, ρ => (evE C e ρ).bind fun p => (evG C tg p.1 p.2).bind fun ρ' => .ok (.nx ρ')
  | .mov j i, ρ => (optR (gt ρ i)).bind fun d => .ok (.nx (st (ρ.set i none) j d))
  | .par tgs es, ρ => (evA C es ρ).bind fun p => (optR (itemsT (lenT tgs) (.tup p.1))).bind fun l => (evGs C tgs l p.2).bind fun ρ' => .ok (.nx ρ')
  | .aug i e, ρ => (optR (gt ρ i)).bind fun x => (evE C e ρ).bind fun p => (optR (binD .add x p.1)).bind fun d => .ok (.nx (st p.2 i d))
  | .app o e, ρ => (evP C o ρ).bind fun p => (optR ((gt p.2.2 p.1).bind (updAt lstD p.2.1))).bind fun _ => (evE C e p.2.2).bind fun q => (optR (gt q.2 p.1)).bind fun x => (optR (updAt (appD q.1) p.2.1 x)).bind fun x' => .ok (.nx (st q.2 p.1 x'))
  | .ins o k e, ρ => (evP C o ρ).bind fun p => (evE C k p.2.2).bind fun r => (evE C e r.2).bind fun q => (optR (gt q.2 p.1)).bind fun x => (optR (updAt (insD' r.1 q.1) p.2.1 x)).bind fun x' => .ok (.nx (st q.2 p.1 x'))
  | .exp e, ρ => (evE C e ρ).bind fun p => .ok (.nx p.2)
  | .sif c a b, ρ => (evE C c ρ).bind fun p => (optR (truO p.1)).bind fun t => if t then evB C a p.2 else evB C b p.2
  | .whl c b m, ρ => whlR (fun ρ => (evE C c ρ).bind fun p => (optR (truO p.1)).bind fun t => .ok (t, p.2)) (fun ρ => (evB C b ρ).map (maskFl m)) C.fuel ρ
  | .for tg it b m, ρ => (evI C it ρ).bind fun p => forR (fun x ρ => (evG C tg x ρ).bind fun ρ' => (evB C b ρ').map (maskFl m)) p.1 p.2
  | .ret e, ρ => (evE C e ρ).bind fun p => .ok (.rt p.1 p.2)
  | .retv i, ρ => (optR (gt ρ i)).bind fun d => .ok (.rt d (ρ.set i none))
  | .retn, ρ => .ok (.rt .non ρ)
  | .rai k as, ρ => (match as with
    | .cons a .nil => (evE C a ρ).bind fun p => .error (.exc k [p.1])
    | _ => bad)
  | .try b c i h m, ρ => (match evB C b ρ with
    | .ok r => .ok r
    | .error .stuck => bad
    | .error (.exc c' fs) => if c == 0 || c == c' then (evB C h (st (unset ρ m) i (.exc c' fs))).map (sufFl i) else .error (.exc c' fs))
  | .pas, ρ => .ok (.nx ρ)
  | .brk, ρ => .ok (.bk ρ)
  | .cnt, ρ => .ok (.ct ρ)
  | .frz _ _, ρ => .ok (.nx ρ)
  | .mask l, ρ => .ok (.nx (unset ρ l))
  | _, _ => bad
def evB (C : Cfg) : T → Env → R Fl
  | .nil, ρ => .ok (.nx ρ)
  | .cons a b, ρ => (evS C a ρ).bind fun r => (match r with
    | .nx ρ' => evB C b ρ'
    | r => .ok r)
  | _, _ => bad
end

/-- a def: how many parameters, which of them are lent, how many slots, the body -/
structure Fn where
  np : Nat
  io : List Nat
  ns : Nat
  body : T

def initE (f : Fn) (as : List D) : Env := as.map some ++ List.replicate (f.ns - f.np) none
def outs (ρ : Env) : List Nat → Option (List D)
  | [] => some []
  | i :: l => (gt ρ i).bind fun d => (outs ρ l).map (d :: ·)
def endFn (f : Fn) : Fl → R (D × List D)
  | .nx ρ => (optR (outs ρ f.io)).bind fun o => .ok (.non, o)
  | .rt d ρ => (optR (outs ρ f.io)).bind fun o => .ok (d, o)
  | _ => bad
def runFn (C : Cfg) (f : Fn) (as : List D) : R (D × List D) :=
  if as.length = f.np then (evB C f.body (initE f as)).bind (endFn f) else bad

structure Prog where
  fn : Nat → Option Fn
  glob : Nat → D

def FUEL : Nat := 1000000000

def run (P : Prog) : Nat → Nat → List D → R (D × List D)
  | 0, _, _ => bad
  | n + 1, f, as => (optR (P.fn f)).bind fun F => runFn { call := run P n, glob := P.glob, fuel := FUEL } F as
end Pz
end
section
set_option Elab.async false
set_option linter.all false
/-! What a value of the machine says as plain data: frozen (RD), owned (OT), a frame's slots (Rep). -/
namespace Pz
open PySem PySem.Spec PyProof.Rows L2

abbrev sV (s : List Nat) : V := .str ⟨s.toArray⟩

/-- where the text's defs and classes stand -/
structure Tx where
  K : PySem.W.Frag
  fa : Nat → Option Addr
  ca : Nat → Option Addr
/-- at a: an exception that was caught, of the class at C, its dict at dx -/
def CaO (a C dx : Addr) : HO := .ext fun h => ∃ oe vs, h.get? a = some oe ∧ Zc (.ref C) (some dx) oe ∧ oe.data = .fields vs

/-- a key that is an int or a text, as data -/
def kD : Key → D
  | .inl i => .int i
  | .inr x => .str x.cps.toList
abbrev Sl := L2.St

inductive RD (X : Tx) (F : Hp) : V → D → Prop
  | non : RD X F .non .non
  | bl (b : Bool) : RD X F (.bl b) (.bl b)
  | int (i : Int) : RD X F (.int i) (.int i)
  | str (s : List Nat) : RD X F (sV s) (.str s)
  | fn {f : Nat} {a : Addr} : X.fa f = some a → RD X F (.ref a) (.fn f)
  | lst {a : Addr} {l : List D} (ps : List (V × D)) : l = ps.map (·.2) → SqL X.K F a (ps.map (·.1)) → (∀ p ∈ ps, RD X F p.1 p.2) → RD X F (.ref a) (.lst l)
  | tup {a : Addr} {l : List D} (ps : List (V × D)) : l = ps.map (·.2) → SqT X.K F a (ps.map (·.1)) → (∀ p ∈ ps, RD X F p.1 p.2) → RD X F (.ref a) (.tup l)
  | dic {a : Addr} {ks vs : List D} (ps : List (Key × V × D)) (ds : List D) : vs = ps.map (·.2.2) → F a = some (.dK (ps.map fun p => (p.1, p.2.1))) → ks = ps.map (fun p => kD p.1) →
      (∀ p ∈ ps, RD X F p.2.1 p.2.2) → RD X F (.ref a) (.dic ks vs)
  | exc {a C dx : Addr} {k : Nat} {v : V} {d : D} : X.ca k = some C → F a = some (CaO a C dx) → F dx = some (.xd [("value", v)]) → RD X F v d → RD X F (.ref a) (.exc k [d])

/-- a heap that grows -/
abbrev Sub (F G : Hp) : Prop := ∀ a o, F a = some o → G a = some o
theorem Sub.refl (F : Hp) : Sub F F := fun _ _ h => h
theorem Sub.trans {F G H : Hp} (a : Sub F G) (b : Sub G H) : Sub F H := fun c o h => b c o (a c o h)
theorem Sub.rd {F G : Hp} (h : Sub F G) {a : Addr} {u : HO} (r : Rd F a u) : Rd G a u := r.elim (fun z => .inl (h _ _ z)) fun ⟨o, z⟩ => .inr ⟨o, h _ _ z⟩
theorem Sub.sqL {K : PySem.W.Frag} {F G : Hp} (h : Sub F G) {a : Addr} {xs : List V} (r : SqL K F a xs) : SqL K G a xs := r.elim (fun z => .inl (h.rd z)) .inr
theorem Sub.sqT {K : PySem.W.Frag} {F G : Hp} (h : Sub F G) {a : Addr} {xs : List V} (r : SqT K F a xs) : SqT K G a xs := r.elim (fun z => .inl (h.rd z)) .inr
theorem RD.mono {X : Tx} {F G : Hp} (h : Sub F G) {v : V} {d : D} (r : RD X F v d) : RD X G v d := by
  induction r with
  | non => exact .non
  | bl b => exact .bl b
  | int i => exact .int i
  | str s => exact .str s
  | fn e => exact .fn e
  | lst ps e s _ ih => exact .lst ps e (h.sqL s) ih
  | tup ps e s _ ih => exact .tup ps e (h.sqT s) ih
  | dic ps ds e s k _ ih => exact .dic ps ds e (h _ _ s) k ih
  | exc e1 e2 e3 _ ih => exact .exc e1 (h _ _ e2) (h _ _ e3) ih

/-! ### owned trees -/
section
variable (X : Tx) (H F : Hp)
def OT : Nat → V → D → List Addr → Prop
  | 0, v, d, A => A = [] ∧ RD X F v d
  | n + 1, v, d, A => match d with
    | .lst l => ∃ (a : Addr) (qs : List (V × D × List Addr)), v = .ref a ∧ l = qs.map (·.2.1) ∧ H a = some (.lst (qs.map (·.1))) ∧ F a = none ∧ A = a :: (qs.map (·.2.2)).flatten ∧ ∀ q ∈ qs, OT n q.1 q.2.1 q.2.2
    | .tup l => ∃ (a : Addr) (qs : List (V × D × List Addr)), v = .ref a ∧ l = qs.map (·.2.1) ∧ H a = some (.tup (qs.map (·.1))) ∧ F a = none ∧ A = a :: (qs.map (·.2.2)).flatten ∧ ∀ q ∈ qs, OT n q.1 q.2.1 q.2.2
    | .dic ks vs => ∃ (a : Addr) (qs : List (Key × V × D × List Addr)), v = .ref a ∧ vs = qs.map (·.2.2.1) ∧ H a = some (.dK (qs.map fun q => (q.1, q.2.1))) ∧ F a = none ∧
        ks = qs.map (fun p => kD p.1) ∧ A = a :: (qs.map (·.2.2.2)).flatten ∧ ∀ q ∈ qs, OT n q.2.1 q.2.2.1 q.2.2.2
    | _ => A = [] ∧ RD X F v d
end

/-- the heaps, and what was owned, go on -/
structure Nxt (H F : Hp) (P : Addr → Prop) (H' F' : Hp) (P' : Addr → Prop) : Prop where
  keep : ∀ a o, H a = some o → ¬ P a → H' a = some o
  fro : Sub F F'
  new : ∀ a, F' a ≠ none → F a ≠ none ∨ P a ∨ H a = none
  own : ∀ a, P' a → P a ∨ H a = none
theorem Nxt.refl {H F : Hp} {P : Addr → Prop} : Nxt H F P H F P := ⟨fun _ _ h _ => h, Sub.refl F, fun _ h => .inl h, fun _ h => .inl h⟩
theorem Nxt.free {H F H' F' : Hp} {P P' : Addr → Prop} (n : Nxt H F P H' F' P') {a : Addr} (h : H' a = none) : P a ∨ H a = none := by
  by_cases p : P a
  · exact .inl p
  · cases e : H a with
    | none => exact .inr rfl
    | some o => rw [n.keep a o e p] at h; cases h
theorem Nxt.trans {H F H1 F1 H2 F2 : Hp} {P P1 P2 : Addr → Prop} (m : Nxt H F P H1 F1 P1) (n : Nxt H1 F1 P1 H2 F2 P2) : Nxt H F P H2 F2 P2 := by
  refine ⟨fun a o h p => n.keep a o (m.keep a o h p) fun q => ?_, m.fro.trans n.fro, fun a h => ?_, fun a h => ?_⟩
  · rcases m.own a q with z | z
    · exact p z
    · rw [h] at z; cases z
  · rcases n.new a h with z | z | z
    · exact m.new a z
    · exact .inr (m.own a z)
    · exact .inr (m.free z)
  · rcases n.own a h with z | z
    · exact m.own a z
    · exact m.free z
/-- .. beside something else that is owned -/
theorem Nxt.beside {H F H' F' : Hp} {P P' B : Addr → Prop} (n : Nxt H F P H' F' P') : Nxt H F (fun a => P a ∨ B a) H' F' (fun a => P' a ∨ B a) :=
  ⟨fun a o h p => n.keep a o h fun q => p (.inl q), n.fro, fun a h => (n.new a h).elim .inl fun z => .inr (z.elim (fun q => .inl (.inl q)) .inr),
   fun a h => h.elim (fun q => (n.own a q).elim (fun z => .inl (.inl z)) .inr) fun q => .inl (.inr q)⟩
theorem Nxt.weak {H F H' F' : Hp} {P P' Q Q' : Addr → Prop} (n : Nxt H F P H' F' P') (h : ∀ a, P a → Q a) (h' : ∀ a, Q' a → P' a ∨ Q a) : Nxt H F Q H' F' Q' :=
  ⟨fun a o e p => n.keep a o e fun q => p (h a q), n.fro, fun a e => (n.new a e).elim .inl fun z => .inr (z.elim (fun q => .inl (h a q)) .inr),
   fun a e => (h' a e).elim (fun q => (n.own a q).elim (fun z => .inl (h a z)) .inr) .inl⟩
/-- the heap grows alone -/
theorem Nxt.grow {H F H' : Hp} {P : Addr → Prop} (s : Sub H H') : Nxt H F P H' F P := ⟨fun a o h _ => s a o h, Sub.refl F, fun _ h => .inl h, fun _ h => .inl h⟩

section
variable {X : Tx} {H F H' F' : Hp}
theorem OT.atom {n : Nat} {v : V} {d : D} (h : RD X F v d) (a : isAtom d = true) : OT X H F n v d [] := by
  cases n with
  | zero => exact ⟨rfl, h⟩
  | succ n => cases d <;> first | exact ⟨rfl, h⟩ | exact absurd a (by simp [isAtom])
theorem flat_mem {α : Type} {qs : List α} {f : α → List Addr} {q : α} {a : Addr} (h : q ∈ qs) (m : a ∈ f q) : a ∈ (qs.map f).flatten :=
  List.mem_flatten.mpr ⟨f q, List.mem_map.mpr ⟨q, h, rfl⟩, m⟩
/-- what is owned stands, and isn't frozen -/
theorem OT.dom : ∀ {n : Nat} {v : V} {d : D} {A : List Addr}, OT X H F n v d A → ∀ a ∈ A, H a ≠ none ∧ F a = none
  | 0, _, _, _, h, a, m => by rw [h.1] at m; cases m
  | n + 1, v, d, A, h, a, m => by
    cases d <;> try (have h : A = [] ∧ RD X F v _ := h; rw [h.1] at m; cases m; done)
    · obtain ⟨b, qs, _, _, e3, e4, e5, e6⟩ := h
      rw [e5] at m
      rcases List.mem_cons.mp m with rfl | m
      · exact ⟨by rw [e3]; simp, e4⟩
      · obtain ⟨x, hx, m⟩ := List.mem_flatten.mp m
        obtain ⟨q, hq, rfl⟩ := List.mem_map.mp hx
        exact OT.dom (e6 q hq) a m
    · obtain ⟨b, qs, _, _, e3, e4, e5, e6⟩ := h
      rw [e5] at m
      rcases List.mem_cons.mp m with rfl | m
      · exact ⟨by rw [e3]; simp, e4⟩
      · obtain ⟨x, hx, m⟩ := List.mem_flatten.mp m
        obtain ⟨q, hq, rfl⟩ := List.mem_map.mp hx
        exact OT.dom (e6 q hq) a m
    · obtain ⟨b, qs, _, _, e3, e4, _, e5, e6⟩ := h
      rw [e5] at m
      rcases List.mem_cons.mp m with rfl | m
      · exact ⟨by rw [e3]; simp, e4⟩
      · obtain ⟨x, hx, m⟩ := List.mem_flatten.mp m
        obtain ⟨q, hq, rfl⟩ := List.mem_map.mp hx
        exact OT.dom (e6 q hq) a m
/-- it stays where its objects stay -/
theorem OT.stay : ∀ {n : Nat} {v : V} {d : D} {A : List Addr}, OT X H F n v d A → (∀ a ∈ A, ∀ o, H a = some o → H' a = some o) → Sub F F' → (∀ a ∈ A, F' a = none) → OT X H' F' n v d A
  | 0, _, _, _, h, _, s, _ => ⟨h.1, h.2.mono s⟩
  | n + 1, v, d, A, h, k, s, z => by
    cases d <;> try (have h : A = [] ∧ RD X F v _ := h; exact ⟨h.1, h.2.mono s⟩)
    · obtain ⟨b, qs, e1, e2, e3, e4, e5, e6⟩ := h
      subst e5
      exact ⟨b, qs, e1, e2, k b List.mem_cons_self _ e3, z b List.mem_cons_self, rfl, fun q hq => OT.stay (e6 q hq) (fun a m => k a (List.mem_cons_of_mem _ (flat_mem (f := fun q : V × D × List Addr => q.2.2) hq m))) s fun a m => z a (List.mem_cons_of_mem _ (flat_mem (f := fun q : V × D × List Addr => q.2.2) hq m))⟩
    · obtain ⟨b, qs, e1, e2, e3, e4, e5, e6⟩ := h
      subst e5
      exact ⟨b, qs, e1, e2, k b List.mem_cons_self _ e3, z b List.mem_cons_self, rfl, fun q hq => OT.stay (e6 q hq) (fun a m => k a (List.mem_cons_of_mem _ (flat_mem (f := fun q : V × D × List Addr => q.2.2) hq m))) s fun a m => z a (List.mem_cons_of_mem _ (flat_mem (f := fun q : V × D × List Addr => q.2.2) hq m))⟩
    · obtain ⟨b, qs, e1, e2, e3, e4, e7, e5, e6⟩ := h
      subst e5
      exact ⟨b, qs, e1, e2, k b List.mem_cons_self _ e3, z b List.mem_cons_self, e7, rfl, fun q hq => OT.stay (e6 q hq) (fun a m => k a (List.mem_cons_of_mem _ (flat_mem (f := fun q : Key × V × D × List Addr => q.2.2.2) hq m))) s fun a m => z a (List.mem_cons_of_mem _ (flat_mem (f := fun q : Key × V × D × List Addr => q.2.2.2) hq m))⟩
/-- .. over a step by which it isn't touched -/
theorem OT.step {P P' : Addr → Prop} {n : Nat} {v : V} {d : D} {A : List Addr} (h : OT X H F n v d A) (nx : Nxt H F P H' F' P') (hp : ∀ a ∈ A, ¬ P a) : OT X H' F' n v d A :=
  h.stay (fun a m o e => nx.keep a o e (hp a m)) nx.fro fun a m => by
    obtain ⟨d1, d2⟩ := h.dom a m
    cases e : F' a with
    | none => rfl
    | some o =>
      rcases nx.new a (by rw [e]; simp) with z | z | z
      · exact absurd d2 z
      · exact absurd z (hp a m)
      · exact absurd z d1
theorem map_fst_snd {α β γ : Type} (qs : List (α × β × γ)) : (qs.map fun q => (q.1, q.2.1)).map (·.1) = qs.map (·.1) ∧ (qs.map fun q => (q.1, q.2.1)).map (·.2) = qs.map (·.2.1) := by
  constructor <;> rw [List.map_map] <;> rfl
/-- all of it frozen: read in any heap that holds what is frozen and what is owned -/
theorem OT.frozen : ∀ {n : Nat} {v : V} {d : D} {A : List Addr}, OT X H F n v d A → ∀ {G : Hp}, Sub F G → (∀ a ∈ A, G a = H a) → RD X G v d
  | 0, _, _, _, h, _, s, _ => h.2.mono s
  | n + 1, v, d, A, h, G, s, z => by
    cases d <;> try (have h : A = [] ∧ RD X F v _ := h; exact h.2.mono s)
    · obtain ⟨b, qs, rfl, e2, e3, e4, e5, e6⟩ := h
      subst e5
      refine .lst (qs.map fun q => (q.1, q.2.1)) (by rw [e2, (map_fst_snd qs).2]) (by rw [(map_fst_snd qs).1]; exact .of (by rw [z b List.mem_cons_self]; exact e3)) fun p hp => ?_
      obtain ⟨q, hq, rfl⟩ := List.mem_map.mp hp
      exact OT.frozen (e6 q hq) s fun a m => z a (List.mem_cons_of_mem _ (flat_mem (f := fun q : V × D × List Addr => q.2.2) hq m))
    · obtain ⟨b, qs, rfl, e2, e3, e4, e5, e6⟩ := h
      subst e5
      refine .tup (qs.map fun q => (q.1, q.2.1)) (by rw [e2, (map_fst_snd qs).2]) (by rw [(map_fst_snd qs).1]; exact .of (by rw [z b List.mem_cons_self]; exact e3)) fun p hp => ?_
      obtain ⟨q, hq, rfl⟩ := List.mem_map.mp hp
      exact OT.frozen (e6 q hq) s fun a m => z a (List.mem_cons_of_mem _ (flat_mem (f := fun q : V × D × List Addr => q.2.2) hq m))
    · obtain ⟨b, qs, rfl, e2, e3, e4, e7, e5, e6⟩ := h
      subst e5
      refine .dic (qs.map fun q => (q.1, q.2.1, q.2.2.1)) [] (by rw [e2, List.map_map]; rfl) (by rw [z b List.mem_cons_self, e3, List.map_map]; rfl) (by rw [e7, List.map_map]; rfl) fun p hp => ?_
      obtain ⟨q, hq, rfl⟩ := List.mem_map.mp hp
      exact OT.frozen (e6 q hq) s fun a m => z a (List.mem_cons_of_mem _ (flat_mem (f := fun q : Key × V × D × List Addr => q.2.2.2) hq m))
theorem OT.read {n : Nat} {v : V} {d : D} {A : List Addr} (h : OT X H F n v d A) (s : Sub F H) : RD X H v d := h.frozen s fun _ _ => rfl
end
end Pz
end
section
set_option Elab.async false
set_option linter.all false
/-! A frame's slots as data; what an expression's evaluation says of the machine. -/
namespace Pz
open PySem PySem.Spec PyProof.Rows L2

section
variable {X : Tx} {H F : Hp}
/-- less is owned: the rest is frozen -/
theorem OT.lower : ∀ {m n : Nat} {v : V} {d : D} {A : List Addr}, OT X H F n v d A → A.Nodup → m ≤ n →
    ∃ A', (∀ a ∈ A', a ∈ A) ∧ A'.Nodup ∧ ∀ F', Sub F F' → (∀ b ∈ A, b ∉ A' → F' b = H b) → (∀ b ∈ A', F' b = none) → OT X H F' m v d A'
  | 0, n, v, d, A, h, nd, _ => ⟨[], fun _ z => absurd z (by simp), List.nodup_nil, fun F' s k _ => ⟨rfl, h.frozen s fun a m => k a m (by simp)⟩⟩
  | m + 1, 0, _, _, _, _, _, hm => absurd hm (by omega)
  | m + 1, n + 1, v, d, A, h, nd, hm => by
    have kids : ∀ (qs : List (V × D × List Addr)), (qs.map (·.2.2)).flatten.Nodup → (∀ q ∈ qs, OT X H F n q.1 q.2.1 q.2.2) →
        ∃ rs : List (V × D × List Addr), rs.map (·.1) = qs.map (·.1) ∧ rs.map (·.2.1) = qs.map (·.2.1) ∧ (∀ a ∈ (rs.map (·.2.2)).flatten, a ∈ (qs.map (·.2.2)).flatten) ∧ (rs.map (·.2.2)).flatten.Nodup ∧
          ∀ F', Sub F F' → (∀ b ∈ (qs.map (·.2.2)).flatten, b ∉ (rs.map (·.2.2)).flatten → F' b = H b) → (∀ b ∈ (rs.map (·.2.2)).flatten, F' b = none) → ∀ q ∈ rs, OT X H F' m q.1 q.2.1 q.2.2 := by
      intro qs
      induction qs with
      | nil => exact fun _ _ => ⟨[], rfl, rfl, fun a z => z, List.nodup_nil, fun _ _ _ _ q hq => absurd hq (by simp)⟩
      | cons q qs ih =>
        intro nd' hq
        simp only [List.map_cons, List.flatten_cons] at nd'
        obtain ⟨n1, n2, n3⟩ := List.nodup_append.mp nd'
        obtain ⟨rs, e1, e2, e3, e4, e5⟩ := ih n2 fun q' h' => hq q' (List.mem_cons_of_mem _ h')
        obtain ⟨B, b1, b2, b3⟩ := OT.lower (m := m) (hq q List.mem_cons_self) n1 (by omega)
        refine ⟨(q.1, q.2.1, B) :: rs, by simp [e1], by simp [e2], ?_, ?_, ?_⟩
        · intro a ha
          simp only [List.map_cons, List.flatten_cons, List.mem_append] at ha ⊢
          exact ha.elim (fun z => .inl (b1 a z)) fun z => .inr (e3 a z)
        · simp only [List.map_cons, List.flatten_cons]
          exact List.nodup_append.mpr ⟨b2, e4, fun a ha b hb => n3 a (b1 a ha) b (e3 b hb)⟩
        · intro F' s k z q' hq'
          simp only [List.map_cons, List.flatten_cons, List.mem_append] at k z
          rcases List.mem_cons.mp hq' with rfl | hq'
          · exact b3 F' s (fun b hb nb => k b (.inl hb) fun y => y.elim nb fun y => n3 b hb b (e3 b y) rfl) fun b hb => z b (.inl hb)
          · exact e5 F' s (fun b hb nb => k b (.inr hb) fun y => y.elim (fun y => n3 b (b1 b y) b hb rfl) nb) (fun b hb => z b (.inr hb)) q' hq'
    have kidsD : ∀ (qs : List (Key × V × D × List Addr)), (qs.map (·.2.2.2)).flatten.Nodup → (∀ q ∈ qs, OT X H F n q.2.1 q.2.2.1 q.2.2.2) →
        ∃ rs : List (Key × V × D × List Addr), rs.map (fun q => (q.1, q.2.1)) = qs.map (fun q => (q.1, q.2.1)) ∧ rs.map (·.2.2.1) = qs.map (·.2.2.1) ∧ rs.map (·.1) = qs.map (·.1) ∧ (∀ a ∈ (rs.map (·.2.2.2)).flatten, a ∈ (qs.map (·.2.2.2)).flatten) ∧ (rs.map (·.2.2.2)).flatten.Nodup ∧
          ∀ F', Sub F F' → (∀ b ∈ (qs.map (·.2.2.2)).flatten, b ∉ (rs.map (·.2.2.2)).flatten → F' b = H b) → (∀ b ∈ (rs.map (·.2.2.2)).flatten, F' b = none) → ∀ q ∈ rs, OT X H F' m q.2.1 q.2.2.1 q.2.2.2 := by
      intro qs
      induction qs with
      | nil => exact fun _ _ => ⟨[], rfl, rfl, rfl, fun a z => z, List.nodup_nil, fun _ _ _ _ q hq => absurd hq (by simp)⟩
      | cons q qs ih =>
        intro nd' hq
        simp only [List.map_cons, List.flatten_cons] at nd'
        obtain ⟨n1, n2, n3⟩ := List.nodup_append.mp nd'
        obtain ⟨rs, e1, e2, e0, e3, e4, e5⟩ := ih n2 fun q' h' => hq q' (List.mem_cons_of_mem _ h')
        obtain ⟨B, b1, b2, b3⟩ := OT.lower (m := m) (hq q List.mem_cons_self) n1 (by omega)
        refine ⟨(q.1, q.2.1, q.2.2.1, B) :: rs, by simp [e1], by simp [e2], by simp [e0], ?_, ?_, ?_⟩
        · intro a ha
          simp only [List.map_cons, List.flatten_cons, List.mem_append] at ha ⊢
          exact ha.elim (fun z => .inl (b1 a z)) fun z => .inr (e3 a z)
        · simp only [List.map_cons, List.flatten_cons]
          exact List.nodup_append.mpr ⟨b2, e4, fun a ha b hb => n3 a (b1 a ha) b (e3 b hb)⟩
        · intro F' s k z q' hq'
          simp only [List.map_cons, List.flatten_cons, List.mem_append] at k z
          rcases List.mem_cons.mp hq' with rfl | hq'
          · exact b3 F' s (fun b hb nb => k b (.inl hb) fun y => y.elim nb fun y => n3 b hb b (e3 b y) rfl) fun b hb => z b (.inl hb)
          · exact e5 F' s (fun b hb nb => k b (.inr hb) fun y => y.elim (fun y => n3 b (b1 b y) b hb rfl) nb) (fun b hb => z b (.inr hb)) q' hq'
    cases d <;> try (have h : A = [] ∧ RD X F v _ := h; exact ⟨[], fun _ z => absurd z (by simp), List.nodup_nil, fun F' s _ _ => ⟨rfl, h.2.mono s⟩⟩)
    · obtain ⟨b, qs, r1, r2, r3, r4, r5, r6⟩ := h
      subst r5
      obtain ⟨nb, nd2⟩ := List.nodup_cons.mp nd
      obtain ⟨rs, e1, e2, e3, e4, e5⟩ := kids qs nd2 r6
      refine ⟨b :: (rs.map (·.2.2)).flatten, fun a ha => ?_, List.nodup_cons.mpr ⟨fun z => nb (e3 b z), e4⟩, fun F' s k z => ⟨b, rs, r1, by rw [e2]; exact r2, by rw [e1]; exact r3, z b List.mem_cons_self, rfl, e5 F' s (fun c hc nc => ?_) fun c hc => z c (List.mem_cons_of_mem _ hc)⟩⟩
      · rcases List.mem_cons.mp ha with rfl | ha
        · exact List.mem_cons_self
        · exact List.mem_cons_of_mem _ (e3 a ha)
      · exact k c (List.mem_cons_of_mem _ hc) fun y => (List.mem_cons.mp y).elim (fun y => nb (y ▸ hc)) nc
    · obtain ⟨b, qs, r1, r2, r3, r4, r5, r6⟩ := h
      subst r5
      obtain ⟨nb, nd2⟩ := List.nodup_cons.mp nd
      obtain ⟨rs, e1, e2, e3, e4, e5⟩ := kids qs nd2 r6
      refine ⟨b :: (rs.map (·.2.2)).flatten, fun a ha => ?_, List.nodup_cons.mpr ⟨fun z => nb (e3 b z), e4⟩, fun F' s k z => ⟨b, rs, r1, by rw [e2]; exact r2, by rw [e1]; exact r3, z b List.mem_cons_self, rfl, e5 F' s (fun c hc nc => ?_) fun c hc => z c (List.mem_cons_of_mem _ hc)⟩⟩
      · rcases List.mem_cons.mp ha with rfl | ha
        · exact List.mem_cons_self
        · exact List.mem_cons_of_mem _ (e3 a ha)
      · exact k c (List.mem_cons_of_mem _ hc) fun y => (List.mem_cons.mp y).elim (fun y => nb (y ▸ hc)) nc
    · obtain ⟨b, qs, r1, r2, r3, r4, r7, r5, r6⟩ := h
      subst r5
      obtain ⟨nb, nd2⟩ := List.nodup_cons.mp nd
      obtain ⟨rs, e1, e2, e0, e3, e4, e5⟩ := kidsD qs nd2 r6
      have ek : ∀ f : Key → D, rs.map (fun q => f q.1) = qs.map (fun q => f q.1) := fun f => by
        have := congrArg (List.map f) e0
        rw [List.map_map, List.map_map] at this
        exact this
      refine ⟨b :: (rs.map (·.2.2.2)).flatten, fun a ha => ?_, List.nodup_cons.mpr ⟨fun z => nb (e3 b z), e4⟩, fun F' s k z => ⟨b, rs, r1, by rw [e2]; exact r2, by rw [e1]; exact r3, z b List.mem_cons_self, by rw [r7]; exact (ek kD).symm, rfl, e5 F' s (fun c hc nc => ?_) fun c hc => z c (List.mem_cons_of_mem _ hc)⟩⟩
      · rcases List.mem_cons.mp ha with rfl | ha
        · exact List.mem_cons_self
        · exact List.mem_cons_of_mem _ (e3 a ha)
      · exact k c (List.mem_cons_of_mem _ hc) fun y => (List.mem_cons.mp y).elim (fun y => nb (y ▸ hc)) nc
end

/-! ### a frame's slots -/
abbrev Own (A : Nat → List Addr) : Addr → Prop := fun a => ∃ i, a ∈ A i
structure Rep (X : Tx) (Γ : List Nat) (ρ : Env) (σ : Sl) (H F : Hp) (A : Nat → List Addr) : Prop where
  sub : Sub F H
  len : ρ.length = σ.length
  val : ∀ i d, ρ[i]? = some (some d) → ∃ v, σ[i]? = some (some v) ∧ OT X H F (Γ.getD i 0) v d (A i)
  non : ∀ i, (∀ d, ρ[i]? ≠ some (some d)) → A i = []
  nd : ∀ i, (A i).Nodup
  dis : ∀ i j, i ≠ j → ∀ a ∈ A i, a ∉ A j
section
variable {X : Tx} {Γ : List Nat} {ρ : Env} {σ : Sl} {H F H' F' : Hp} {A : Nat → List Addr}
theorem gt_ok {ρ : Env} {i : Nat} {d : D} (h : gt ρ i = some d) : ρ[i]? = some (some d) := by
  unfold gt at h
  split at h
  · rename_i d' e; cases h; exact e
  · cases h
theorem gt_of {ρ : Env} {i : Nat} {d : D} (h : ρ[i]? = some (some d)) : gt ρ i = some d := by
  unfold gt; rw [h]
theorem Rep.dom (r : Rep X Γ ρ σ H F A) {a : Addr} (h : Own A a) : H a ≠ none ∧ F a = none := by
  obtain ⟨i, h⟩ := h
  by_cases e : ∃ d, ρ[i]? = some (some d)
  · obtain ⟨d, e⟩ := e
    obtain ⟨v, _, o⟩ := r.val i d e
    exact o.dom a h
  · rw [r.non i fun d z => e ⟨d, z⟩] at h; cases h
/-- .. over a step that touches nothing of it -/
theorem Rep.step {P P' : Addr → Prop} (r : Rep X Γ ρ σ H F A) (n : Nxt H F P H' F' P') (s : Sub F' H') (hp : ∀ a, Own A a → ¬ P a) : Rep X Γ ρ σ H' F' A :=
  ⟨s, r.len, fun i d e => let ⟨v, e', o⟩ := r.val i d e; ⟨v, e', o.step n fun a m => hp a ⟨i, m⟩⟩, r.non, r.nd, r.dis⟩
theorem getD_set_self {Γ : List Nat} {i n : Nat} (h : i < Γ.length) : (Γ.set i n).getD i 0 = n := by
  rw [List.getD_eq_getElem?_getD, List.getElem?_set_self h]; rfl
theorem getD_set_ne {Γ : List Nat} {i j n : Nat} (h : i ≠ j) : (Γ.set i n).getD j 0 = Γ.getD j 0 := by
  rw [List.getD_eq_getElem?_getD, List.getElem?_set_ne h, List.getD_eq_getElem?_getD]
/-- a slot gets a value -/
theorem Rep.put {i n : Nat} {v : V} {d : D} {B : List Addr} (r : Rep X Γ ρ σ H F A) (hi : i < ρ.length) (hg : i < Γ.length) (o : OT X H F n v d B) (nb : B.Nodup) (dj : ∀ a ∈ B, ∀ j, j ≠ i → a ∉ A j) :
    Rep X (Γ.set i n) (st ρ i d) (σ.set i (some v)) H F (fun j => if j = i then B else A j) := by
  refine ⟨r.sub, by unfold st; simp [r.len], fun j d' e => ?_, fun j e => ?_, fun j => ?_, fun j k hjk a ha => ?_⟩
  · unfold st at e
    by_cases h : j = i
    · subst h
      rw [List.getElem?_set_self hi] at e
      cases e
      refine ⟨v, by rw [List.getElem?_set_self (by rw [← r.len]; exact hi)], ?_⟩
      rw [getD_set_self hg]; simpa using o
    · rw [List.getElem?_set_ne (Ne.symm h)] at e
      obtain ⟨v', e', o'⟩ := r.val j d' e
      refine ⟨v', by rw [List.getElem?_set_ne (Ne.symm h)]; exact e', ?_⟩
      rw [getD_set_ne (Ne.symm h)]; simpa [h] using o'
  · unfold st at e
    by_cases h : j = i
    · subst h
      exact absurd (List.getElem?_set_self hi) (e d)
    · simp only [h, if_false]
      exact r.non j fun d' z => e d' (by rw [List.getElem?_set_ne (Ne.symm h)]; exact z)
  · by_cases h : j = i <;> simp only [h, if_true, if_false]
    · exact nb
    · exact r.nd j
  · by_cases h : j = i <;> by_cases h' : k = i <;> simp only [h, h', if_true, if_false] at ha ⊢
    · exact absurd (h.trans h'.symm) hjk
    · exact dj a ha k h'
    · exact fun z => dj a z j h ha
    · exact r.dis j k hjk a ha
/-- a slot is forgotten -/
theorem Rep.drop (r : Rep X Γ ρ σ H F A) (i : Nat) : Rep X Γ (ρ.set i none) σ H F (fun j => if j = i then [] else A j) := by
  refine ⟨r.sub, by simp [r.len], fun j d' e => ?_, fun j e => ?_, fun j => ?_, fun j k hjk a ha => ?_⟩
  · by_cases h : j = i
    · subst h
      by_cases hl : j < ρ.length
      · rw [List.getElem?_set_self hl] at e; cases e
      · rw [List.getElem?_eq_none (by simpa using hl)] at e; cases e
    · rw [List.getElem?_set_ne (Ne.symm h)] at e
      simpa [h] using r.val j d' e
  · by_cases h : j = i
    · simp [h]
    · simp only [h, if_false]
      exact r.non j fun d' z => e d' (by rw [List.getElem?_set_ne (Ne.symm h)]; exact z)
  · by_cases h : j = i <;> simp only [h, if_true, if_false]
    · exact List.nodup_nil
    · exact r.nd j
  · by_cases h : j = i <;> by_cases h' : k = i <;> simp only [h, h', if_true, if_false] at ha ⊢
    · cases ha
    · cases ha
    · simp
    · exact r.dis j k hjk a ha
theorem Rep.unset (r : Rep X Γ ρ σ H F A) : ∀ l : List Nat, ∃ A', Rep X Γ (unset ρ l) σ H F A' ∧ ∀ a, Own A' a → Own A a := by
  intro l
  induction l generalizing ρ A with
  | nil => exact ⟨A, r, fun _ h => h⟩
  | cons i l ih =>
    obtain ⟨A', r', h'⟩ := ih (r.drop i)
    refine ⟨A', r', fun a h => ?_⟩
    obtain ⟨j, hj⟩ := h' a h
    by_cases e : j = i
    · simp [e] at hj
    · simp only [e, if_false] at hj; exact ⟨j, hj⟩
/-- the levels of slots that hold nothing don't matter; a lower level: by freezing -/
theorem Rep.relevel {Γ' : List Nat} (r : Rep X Γ ρ σ H F A) (h : ∀ i d, ρ[i]? = some (some d) → Γ'.getD i 0 ≤ Γ.getD i 0) :
    ∃ F' A', Rep X Γ' ρ σ H F' A' ∧ Nxt H F (Own A) H F' (Own A') := by
  classical
  -- what each slot keeps
  have ex : ∀ i, ∃ B : List Addr, (∀ a ∈ B, a ∈ A i) ∧ B.Nodup ∧ ((∀ d, ρ[i]? ≠ some (some d)) → B = []) ∧ ∀ d, ρ[i]? = some (some d) → ∀ v, σ[i]? = some (some v) → OT X H F (Γ.getD i 0) v d (A i) → ∀ F', Sub F F' → (∀ b ∈ A i, b ∉ B → F' b = H b) → (∀ b ∈ B, F' b = none) → OT X H F' (Γ'.getD i 0) v d B := by
    intro i
    by_cases e : ∃ d, ρ[i]? = some (some d)
    · obtain ⟨d, e⟩ := e
      obtain ⟨v, ev, o⟩ := r.val i d e
      obtain ⟨B, b1, b2, b3⟩ := o.lower (r.nd i) (h i d e)
      refine ⟨B, b1, b2, fun z => absurd e (z d), fun d' e' v' ev' o' F' => ?_⟩
      rw [e] at e'; rw [ev] at ev'; cases e'; cases ev'
      exact b3 F'
    · exact ⟨[], fun a z => absurd z (by simp), List.nodup_nil, fun _ => rfl, fun d e' => absurd ⟨d, e'⟩ e⟩
  obtain ⟨B, hB⟩ := Classical.axiomOfChoice ex
  refine ⟨fun a => if ∃ i, a ∈ A i ∧ a ∉ B i then H a else F a, B, ⟨fun a o e => ?_, r.len, fun i d e => ?_, fun i e => (hB i).2.2.1 e, fun i => (hB i).2.1, fun i j hij a ha hb => r.dis i j hij a ((hB i).1 a ha) ((hB j).1 a hb)⟩, ⟨fun a o e _ => e, fun a o e => ?_, fun a e => ?_, fun a ⟨i, ha⟩ => .inl ⟨i, (hB i).1 a ha⟩⟩⟩
  · have e : (if ∃ i, a ∈ A i ∧ a ∉ B i then H a else F a) = some o := e
    split at e
    · exact e
    · exact r.sub a o e
  · obtain ⟨v, ev, o⟩ := r.val i d e
    refine ⟨v, ev, (hB i).2.2.2 d e v ev o _ (fun a o' e' => ?_) (fun b hb nb => if_pos ⟨i, hb, nb⟩) fun b hb => ?_⟩
    · show (if ∃ i, a ∈ A i ∧ a ∉ B i then H a else F a) = some o'
      split
      · exact r.sub a o' e'
      · exact e'
    · show (if ∃ i, b ∈ A i ∧ b ∉ B i then H b else F b) = none
      rw [if_neg]
      · exact (r.dom ⟨i, (hB i).1 b hb⟩).2
      · rintro ⟨j, hj, nj⟩
        by_cases hij : j = i
        · exact nj (hij ▸ hb)
        · exact r.dis j i hij b hj ((hB i).1 b hb)
  · show (if ∃ i, a ∈ A i ∧ a ∉ B i then H a else F a) = some o
    split
    · exact r.sub a o e
    · exact e
  · have e : (if ∃ i, a ∈ A i ∧ a ∉ B i then H a else F a) ≠ none := e
    split at e
    · rename_i z; obtain ⟨i, hi, _⟩ := z; exact .inr (.inl ⟨i, hi⟩)
    · exact .inl e
end

/-! ### what an evaluation says -/
/-- an exception's class and fields, as it lies behind -/
structure XP (X : Tx) (H F : Hp) (P : Addr → Prop) (k : Nat) (fs : List D) (cls : Value) (dx : Option Addr) (H' : Hp) : Prop where
  ex : ∃ (F' : Hp) (C d : Addr) (v : V) (x : D), X.ca k = some C ∧ cls = .ref C ∧ dx = some d ∧ fs = [x] ∧ F' d = some (.xd [("value", v)]) ∧ RD X F' v x ∧ Sub F' H' ∧ Sub F F' ∧
    (∀ a, F' a ≠ none → F a ≠ none ∨ P a ∨ H a = none) ∧ (∀ a o, H a = some o → ¬ P a → H' a = some o) ∧ (∀ a, H' a = none → P a ∨ H a = none)
end Pz
end
section
set_option Elab.async false
set_option linter.all false
/-! The judgement of an expression: what its evaluation over data says of the machine. -/
namespace Pz
open PySem PySem.Spec PyProof.Rows L2

/-- fixed for the law: the text, the exceptions' classes -/
structure Cf where
  X : Tx

/-- m ends well (then ok), or raises (then the wish is met) -/
def Run (c : Cf) (W : WX) (σ : Sl) (H F : Hp) (P : Addr → Prop) {β : Type} (m : R β) (ok : β → Prop) : Prop :=
  match m with
  | .ok b => ok b
  | .error (.exc k fs) => ∀ cls dx H', XP c.X H F P k fs cls dx H' → W cls dx σ H'
  | .error .stuck => False
section
variable {c : Cf} {W : WX} {σ : Sl} {H F H' F' : Hp} {P P' Q' : Addr → Prop} {β γ : Type}
theorem Run.bind {m : R β} {k : β → R γ} {ok : γ → Prop} (h : Run c W σ H F P (m.bind k) ok) : Run c W σ H F P m fun b => Run c W σ H F P (k b) ok := by
  cases m with
  | ok b => exact h
  | error e => cases e <;> exact h
theorem Run.imp {m : R β} {ok ok' : β → Prop} (h : Run c W σ H F P m ok) (i : ∀ b, m = .ok b → ok b → ok' b) : Run c W σ H F P m ok' := by
  cases m with
  | ok b => exact i b rfl h
  | error e => cases e <;> exact h
theorem XP.back {X : Tx} {k : Nat} {fs : List D} {cls : Value} {dx : Option Addr} {H2 : Hp} (n : Nxt H F P H' F' P') (s : ∀ a, Q' a → P' a) (x : XP X H' F' Q' k fs cls dx H2) : XP X H F P k fs cls dx H2 := by
  obtain ⟨G, C, d, v, y, e1, e2, e3, e4, e5, e6, e7, e8, e9, e10, e11⟩ := x.ex
  refine ⟨G, C, d, v, y, e1, e2, e3, e4, e5, e6, e7, n.fro.trans e8, fun a h => ?_, fun a o h p => e10 a o (n.keep a o h p) fun q => ?_, fun a h => ?_⟩
  · rcases e9 a h with z | z | z
    · exact n.new a z
    · exact .inr (n.own a (s a z))
    · exact .inr (n.free z)
  · rcases n.own a (s a q) with z | z
    · exact p z
    · rw [h] at z; cases z
  · rcases e11 a h with z | z
    · exact n.own a (s a z)
    · exact n.free z
/-- .. seen from a later state -/
theorem Run.at {m : R β} {ok : β → Prop} (h : Run c W σ H F P m ok) (n : Nxt H F P H' F' P') (s : ∀ a, Q' a → P' a) : Run c W σ H' F' Q' m ok := by
  cases m with
  | ok b => exact h
  | error e =>
    cases e with
    | stuck => exact h
    | exc k fs => exact fun cls dx H2 x => h cls dx H2 (x.back n s)
end

/-- an expression's kind: what it hands on is its own (or borrowed), it changes nothing, how deep it is owned -/
structure Kd where
  own : Bool
  pu : Bool
  lv : Nat
  deriving DecidableEq

/-- a state behind some evaluations: q what is owned beside the slots, p nothing of the slots was changed -/
structure Mid (c : Cf) (Γ : List Nat) (σ : Sl) (ρ : Env) (H F : Hp) (A : Nat → List Addr) (ρ' : Env) (H' F' : Hp) (A' : Nat → List Addr) (q : Addr → Prop) (p : Bool) : Prop where
  rep : Rep c.X Γ ρ' σ H' F' A'
  nx : Nxt H F (Own A) H' F' fun a => Own A' a ∨ q a
  pu : p = true → ρ' = ρ ∧ A' = A ∧ Nxt H F (fun _ => False) H' F' (fun _ => False)
/-- .. and a value v, that reads d -/
structure Out (c : Cf) (Γ : List Nat) (k : Kd) (σ : Sl) (ρ : Env) (H F : Hp) (A : Nat → List Addr) (ρ' : Env) (H' F' : Hp) (A' : Nat → List Addr) (v : V) (d : D) (B : List Addr) : Prop where
  mid : Mid c Γ σ ρ H F A ρ' H' F' A' (fun a => k.own = true ∧ a ∈ B) k.pu
  ot : OT c.X H' F' k.lv v d B
  nd : k.own = true → B.Nodup
  dj : k.own = true → ∀ a ∈ B, ¬ Own A' a

def tX (c : Cf) (W : WX) (Γ : List Nat) (k : Kd) (f : Env → R (D × Env)) : TE := fun σ H Q =>
  ∃ F A ρ, Rep c.X Γ ρ σ H F A ∧ Run c W σ H F (Own A) (f ρ) fun p => ∀ v H' F' A' B, Out c Γ k σ ρ H F A p.2 H' F' A' v p.1 B → Q v H'
abbrev SX (c : Cf) (W : WX) (Γ : List Nat) (k : Kd) (Y : Cx) (e : Expr) (f : Env → R (D × Env)) : Prop := PE Y e (tX c W Γ k f)

theorem PE.imp {Y : Cx} {e : Expr} {t u : TE} (h : PE Y e t) (i : ∀ σ H Q, u σ H Q → t σ H Q) : PE Y e u := ⟨fun pins s σ H Q I z => h.run pins s σ H Q I (i σ H Q z)⟩

section
variable {X : Tx} {H F : Hp} {n : Nat} {v : V} {A : List Addr}
theorem RD.non_eq (h : RD X F v .non) : v = .non := by cases h; rfl
theorem RD.bl_eq {b : Bool} (h : RD X F v (.bl b)) : v = .bl b := by cases h; rfl
theorem RD.int_eq {i : Int} (h : RD X F v (.int i)) : v = .int i := by cases h; rfl
theorem RD.str_eq {s : List Nat} (h : RD X F v (.str s)) : v = sV s := by cases h; rfl
theorem RD.lst_eq {l : List D} (h : RD X F v (.lst l)) : ∃ (a : Addr) (ps : List (V × D)), v = .ref a ∧ l = ps.map (·.2) ∧ SqL X.K F a (ps.map (·.1)) ∧ ∀ p ∈ ps, RD X F p.1 p.2 := by
  cases h with | lst ps e s r => exact ⟨_, ps, rfl, e, s, r⟩
theorem RD.tup_eq {l : List D} (h : RD X F v (.tup l)) : ∃ (a : Addr) (ps : List (V × D)), v = .ref a ∧ l = ps.map (·.2) ∧ SqT X.K F a (ps.map (·.1)) ∧ ∀ p ∈ ps, RD X F p.1 p.2 := by
  cases h with | tup ps e s r => exact ⟨_, ps, rfl, e, s, r⟩
theorem OT.rd_of_atom {d : D} (h : OT X H F n v d A) (a : isAtom d = true) : RD X F v d := by
  cases n with
  | zero => exact h.2
  | succ n => cases d <;> first | exact h.2 | exact absurd a (by simp [isAtom])
theorem OT.non_eq (h : OT X H F n v .non A) : v = .non := (h.rd_of_atom rfl).non_eq
theorem OT.bl_eq {b : Bool} (h : OT X H F n v (.bl b) A) : v = .bl b := (h.rd_of_atom rfl).bl_eq
theorem OT.int_eq {i : Int} (h : OT X H F n v (.int i) A) : v = .int i := (h.rd_of_atom rfl).int_eq
theorem OT.str_eq {s : List Nat} (h : OT X H F n v (.str s) A) : v = sV s := (h.rd_of_atom rfl).str_eq
/-- a list whose items are frozen -/
theorem OT.lst1 {l : List D} (h : OT X H F n v (.lst l) A) (hn : n ≤ 1) (s : Sub F H) : ∃ (a : Addr) (ps : List (V × D)), v = .ref a ∧ l = ps.map (·.2) ∧ SqL X.K H a (ps.map (·.1)) ∧ ∀ p ∈ ps, RD X F p.1 p.2 := by
  match n, h, hn with
  | 0, h, _ =>
    obtain ⟨a, ps, e1, e2, e3, e4⟩ := h.2.lst_eq
    exact ⟨a, ps, e1, e2, s.sqL e3, e4⟩
  | 1, h, _ =>
    obtain ⟨a, qs, e1, e2, e3, _, _, e4⟩ := h
    refine ⟨a, qs.map fun q => (q.1, q.2.1), e1, by rw [e2, (map_fst_snd qs).2], by rw [(map_fst_snd qs).1]; exact .of e3, fun p hp => ?_⟩
    obtain ⟨q, hq, rfl⟩ := List.mem_map.mp hp
    exact (e4 q hq).2
theorem OT.tup1 {l : List D} (h : OT X H F n v (.tup l) A) (hn : n ≤ 1) (s : Sub F H) : ∃ (a : Addr) (ps : List (V × D)), v = .ref a ∧ l = ps.map (·.2) ∧ SqT X.K H a (ps.map (·.1)) ∧ ∀ p ∈ ps, RD X F p.1 p.2 := by
  match n, h, hn with
  | 0, h, _ =>
    obtain ⟨a, ps, e1, e2, e3, e4⟩ := h.2.tup_eq
    exact ⟨a, ps, e1, e2, s.sqT e3, e4⟩
  | 1, h, _ =>
    obtain ⟨a, qs, e1, e2, e3, _, _, e4⟩ := h
    refine ⟨a, qs.map fun q => (q.1, q.2.1), e1, by rw [e2, (map_fst_snd qs).2], by rw [(map_fst_snd qs).1]; exact .of e3, fun p hp => ?_⟩
    obtain ⟨q, hq, rfl⟩ := List.mem_map.mp hp
    exact (e4 q hq).2
end
/-- the heap and what is frozen, with what is owned at B frozen too -/
def frz (H F : Hp) (B : List Addr) : Hp := fun a => if a ∈ B then H a else F a
theorem frz_sub {H F : Hp} {B : List Addr} (s : Sub F H) : Sub F (frz H F B) ∧ Sub (frz H F B) H := by
  refine ⟨fun a o e => ?_, fun a o e => ?_⟩
  · unfold frz; split
    · exact s a o e
    · exact e
  · unfold frz at e; split at e
    · exact e
    · exact s a o e
theorem frz_at {H F : Hp} {B : List Addr} {a : Addr} (h : a ∈ B) : frz H F B a = H a := if_pos h
theorem frz_ne {H F : Hp} {B : List Addr} {a : Addr} (h : frz H F B a ≠ none) : F a ≠ none ∨ a ∈ B := by
  unfold frz at h; split at h
  · rename_i m; exact .inr m
  · exact .inl h
theorem upd_sub {H : Hp} {p : Addr} {o : HO} (h : H p = none) : Sub H (upd H p o) := fun a u e => by rw [upd_ne (ne_of_none e h)]; exact e

section
variable {c : Cf} {W : WX} {Γ : List Nat} {k k' ka kb : Kd} {σ : Sl} {ρ ρ' ρ1 ρ2 : Env} {H F H' F' H1 F1 H2 F2 : Hp} {A A' A1 A2 : Nat → List Addr} {v x y : V} {d d1 d2 : D} {B B1 B2 : List Addr} {q q1 q2 : Addr → Prop} {p p1 p2 : Bool}
theorem Mid.refl (r : Rep c.X Γ ρ σ H F A) : Mid c Γ σ ρ H F A ρ H F A (fun _ => False) p := ⟨r, Nxt.refl.weak (fun _ h => h) fun _ h => h.elim .inl False.elim, fun _ => ⟨rfl, rfl, Nxt.refl⟩⟩
/-- what was owned beside the slots is dropped -/
theorem Mid.weak (m : Mid c Γ σ ρ H F A ρ' H' F' A' q p) (h : ∀ a, q1 a → q a) (hp : p1 = true → p = true) : Mid c Γ σ ρ H F A ρ' H' F' A' q1 p1 :=
  ⟨m.rep, m.nx.weak (fun _ z => z) fun a z => .inl (z.elim .inl fun w => .inr (h a w)), fun z => m.pu (hp z)⟩
theorem Mid.nx0 (m : Mid c Γ σ ρ H F A ρ' H' F' A' q p) : Nxt H F (Own A) H' F' (Own A') := m.nx.weak (fun _ h => h) fun a h => .inl (.inl h)
theorem Mid.trans (m : Mid c Γ σ ρ H F A ρ1 H1 F1 A1 q1 p1) (n : Mid c Γ σ ρ1 H1 F1 A1 ρ2 H2 F2 A2 q2 p2) : Mid c Γ σ ρ H F A ρ2 H2 F2 A2 (fun a => q1 a ∨ q2 a) (p1 && p2) := by
  refine ⟨n.rep, (m.nx.trans (n.nx.beside (B := q1))).weak (fun _ h => h) fun z h => .inl ?_, fun h => ?_⟩
  · rcases h with h | h | h
    · exact .inl (.inl h)
    · exact .inr h
    · exact .inl (.inr h)
  · obtain ⟨h1, h2⟩ : p1 = true ∧ p2 = true := by simpa using h
    obtain ⟨e1, e2, e3⟩ := m.pu h1
    obtain ⟨f1, f2, f3⟩ := n.pu h2
    exact ⟨f1.trans e1, f2.trans e2, e3.trans f3⟩
/-- the heap grows; some of what is new or owned beside the slots is frozen -/
theorem Mid.grow (m : Mid c Γ σ ρ H F A ρ' H' F' A' q p) {H2 F2 : Hp} (s : Sub H' H2) (f : Sub F' F2) (s2 : Sub F2 H2) (new : ∀ a, F2 a ≠ none → F' a ≠ none ∨ (q a ∧ ¬ Own A' a ∧ (p = true → H a = none)) ∨ H' a = none) {q2 : Addr → Prop} (hq : ∀ a, q2 a → q a ∨ H' a = none) :
    Mid c Γ σ ρ H F A ρ' H2 F2 A' q2 p := by
  have n : Nxt H' F' (fun a => q a ∧ ¬ Own A' a) H2 F2 (fun _ => False) := ⟨fun a o e _ => s a o e, f, fun a e => (new a e).elim .inl fun z => .inr (z.elim (fun w => .inl ⟨w.1, w.2.1⟩) .inr), fun _ z => z.elim⟩
  have n2 : Nxt H' F' (fun a => Own A' a ∨ q a) H2 F2 (fun a => Own A' a ∨ q2 a) := ⟨fun a o e _ => s a o e, f, fun a e => (new a e).elim .inl fun z => .inr (z.elim (fun w => .inl (.inr w.1)) .inr), fun a z => z.elim (fun w => .inl (.inl w)) fun w => (hq a w).elim (fun w => .inl (.inr w)) .inr⟩
  refine ⟨m.rep.step n s2 fun a o z => z.2 o, m.nx.trans n2, fun h => ?_⟩
  obtain ⟨e1, e2, e3⟩ := m.pu h
  refine ⟨e1, e2, ⟨fun a o e z => s a o (e3.keep a o e z), e3.fro.trans f, fun a e => ?_, fun _ z => z.elim⟩⟩
  rcases new a e with z | z | z
  · exact e3.new a z
  · exact .inr (.inr (z.2.2 h))
  · exact .inr (e3.free z)
/-- behind a value: its own state -/
theorem Out.rep (o : Out c Γ k σ ρ H F A ρ' H' F' A' v d B) : Rep c.X Γ ρ' σ H' F' A' := o.mid.rep
theorem Out.nx0 (o : Out c Γ k σ ρ H F A ρ' H' F' A' v d B) : Nxt H F (Own A) H' F' (Own A') := o.mid.nx0
/-- a frozen value, an atom -/
theorem Mid.val (m : Mid c Γ σ ρ H F A ρ' H' F' A' q p) (r : RD c.X F' v d) (hp : k.pu = true → p = true) (hk : k.lv = 0 ∨ isAtom d = true) : Out c Γ k σ ρ H F A ρ' H' F' A' v d [] :=
  ⟨m.weak (fun _ z => absurd z.2 (by simp)) hp, hk.elim (fun e => by rw [e]; exact ⟨rfl, r⟩) fun a => .atom r a, fun _ => List.nodup_nil, fun _ _ z => absurd z (by simp)⟩
/-- a new list or tuple whose items are frozen -/
theorem Mid.newL (m : Mid c Γ σ ρ H F A ρ' H' F' A' q p) {a : Addr} {ps : List (V × D)} (ha : H' a = none) (hr : ∀ x ∈ ps, RD c.X F' x.1 x.2) (hp : k.pu = true → p = true) (hk : k.lv = 1) :
    Out c Γ k σ ρ H F A ρ' (upd H' a (.lst (ps.map (·.1)))) F' A' (.ref a) (.lst (ps.map (·.2))) [a] := by
  have sb := upd_sub (o := .lst (ps.map (·.1))) ha
  refine ⟨(m.grow sb (Sub.refl _) (m.rep.sub.trans sb) (fun _ e => .inl e) (q2 := fun b => k.own = true ∧ b ∈ [a]) fun b z => .inr (by rw [List.mem_singleton.mp z.2]; exact ha)).weak (fun _ h => h) hp, ?_, fun _ => by simp, fun _ b hb z => ?_⟩
  · rw [hk]
    refine ⟨a, ps.map fun x => (x.1, x.2, []), rfl, by rw [List.map_map]; rfl, by rw [upd_same, List.map_map]; rfl, ?_, ?_, fun x hx => ?_⟩
    · cases e : F' a with
      | none => rfl
      | some o => rw [m.rep.sub a o e] at ha; cases ha
    · rw [List.map_map]
      have : (List.map ((fun x : V × D × List Addr => x.2.2) ∘ fun x : V × D => (x.1, x.2, [])) ps).flatten = [] := by
        simp [List.flatten_eq_nil_iff]
      rw [this]
    · obtain ⟨y, hy, rfl⟩ := List.mem_map.mp hx
      exact ⟨rfl, hr y hy⟩
  · rw [List.mem_singleton.mp hb] at z
    exact (m.rep.dom z).1 ha
/-- .. frozen at once -/
theorem Mid.newT (m : Mid c Γ σ ρ H F A ρ' H' F' A' q p) {a : Addr} {ps : List (V × D)} (ha : H' a = none) (hr : ∀ x ∈ ps, RD c.X F' x.1 x.2) (hp : k.pu = true → p = true) (hk : k.lv = 0) :
    Out c Γ k σ ρ H F A ρ' (upd H' a (.tup (ps.map (·.1)))) (upd F' a (.tup (ps.map (·.1)))) A' (.ref a) (.tup (ps.map (·.2))) [] := by
  have sb := upd_sub (o := .tup (ps.map (·.1))) ha
  have hf : F' a = none := by
    cases e : F' a with
    | none => rfl
    | some o => rw [m.rep.sub a o e] at ha; cases ha
  have sf := upd_sub (o := .tup (ps.map (·.1))) hf
  have ss : Sub (upd F' a (.tup (ps.map (·.1)))) (upd H' a (.tup (ps.map (·.1)))) := fun b o e => by
    by_cases hb : b = a
    · rw [hb, upd_same] at e ⊢; exact e
    · rw [upd_ne hb] at e ⊢; exact m.rep.sub b o e
  have g := m.grow sb sf ss (fun b e => by
    by_cases hb : b = a
    · rw [hb]; exact .inr (.inr ha)
    · rw [upd_ne hb] at e; exact .inl e) (q2 := fun _ => False) fun _ z => z.elim
  exact g.val (.tup ps rfl (.of upd_same) fun x hx => (hr x hx).mono sf) hp (.inl hk)
/-- what an own value owns is frozen -/
theorem Out.low (o : Out c Γ k σ ρ H F A ρ' H' F' A' v d B) (ho : k.own = true) (hk : k'.lv ≤ k.lv) (hp : k'.pu = true → k.pu = true) : ∃ F2 B2, Out c Γ k' σ ρ H F A ρ' H' F2 A' v d B2 := by
  obtain ⟨B2, b1, b2, b3⟩ := o.ot.lower (o.nd ho) hk
  refine ⟨frz H' F' (B.filter fun a => decide (a ∉ B2)), B2, (o.mid.grow (Sub.refl _) (frz_sub o.rep.sub).1 (frz_sub o.rep.sub).2 (fun a e => ?_) (q2 := fun a => k.own = true ∧ a ∈ B2) fun a z => .inl ⟨ho, b1 a z.2⟩).weak (fun _ z => ⟨ho, z.2⟩) hp, b3 _ (frz_sub o.rep.sub).1 (fun b hb nb => frz_at (List.mem_filter.mpr ⟨hb, by simp [nb]⟩)) (fun b hb => ?_), fun _ => b2, fun _ a ha => o.dj ho a (b1 a ha)⟩
  · rcases frz_ne e with z | z
    · exact .inl z
    · have hb := (List.mem_filter.mp z).1
      refine .inr (.inl ⟨⟨ho, hb⟩, o.dj ho a hb, fun hpu => ?_⟩)
      obtain ⟨_, e2, e3⟩ := o.mid.pu hpu
      rcases o.mid.nx.own a (.inr ⟨ho, hb⟩) with w | w
      · exact absurd (by rw [e2]; exact w) (o.dj ho a hb)
      · exact w
  · unfold frz
    rw [if_neg fun z => by have := (List.mem_filter.mp z).2; simp at this; exact this hb]
    exact (o.ot.dom b (b1 b hb)).2
end
end Pz
end
section
set_option Elab.async false
set_option linter.all false
/-! Rules of expressions: names, constants, operators. -/
namespace Pz
open PySem PySem.Spec PyProof.Rows L2

section
variable {c : Cf} {W : WX} {Γ : List Nat} {k k' ka kb : Kd} {σ : Sl} {ρ ρ' ρ1 ρ2 : Env} {H F H' F' H1 F1 H2 F2 : Hp} {A A' A1 A2 : Nat → List Addr} {v x y : V} {d d1 d2 : D} {B B1 B2 : List Addr} {q q1 q2 : Addr → Prop} {p p1 p2 : Bool}

structure Two (c : Cf) (Γ : List Nat) (ka kb : Kd) (σ : Sl) (ρ : Env) (H F : Hp) (A : Nat → List Addr) (ρ2 : Env) (H2 F2 : Hp) (A2 : Nat → List Addr) (x y : V) (d1 d2 : D) (B1 B2 : List Addr) : Prop where
  mid : Mid c Γ σ ρ H F A ρ2 H2 F2 A2 (fun a => (ka.own = true ∧ a ∈ B1) ∨ (kb.own = true ∧ a ∈ B2)) (ka.pu && kb.pu)
  o1 : OT c.X H2 F2 ka.lv x d1 B1
  o2 : OT c.X H2 F2 kb.lv y d2 B2
/-- an own value stays over a further evaluation; a borrowed one if that changes nothing -/
theorem Out.later (a : Out c Γ ka σ ρ H F A ρ1 H1 F1 A1 x d1 B1) (m : Mid c Γ σ ρ1 H1 F1 A1 ρ2 H2 F2 A2 q p) (hc : ka.own = true ∨ p = true) : OT c.X H2 F2 ka.lv x d1 B1 := by
  by_cases ho : ka.own = true
  · exact a.ot.step m.nx0 (a.dj ho)
  · obtain ⟨e1, e2, e3⟩ := m.pu (hc.resolve_left ho)
    exact a.ot.step e3 fun _ _ z => z
theorem Out.two (a : Out c Γ ka σ ρ H F A ρ1 H1 F1 A1 x d1 B1) (b : Out c Γ kb σ ρ1 H1 F1 A1 ρ2 H2 F2 A2 y d2 B2) (hc : ka.own = true ∨ kb.pu = true) : Two c Γ ka kb σ ρ H F A ρ2 H2 F2 A2 x y d1 d2 B1 B2 :=
  ⟨a.mid.trans b.mid, a.later b.mid hc, b.ot⟩
/-- one operand -/
theorem tX.one {fa : Env → R (D × Env)} {β : Type} {g : D → Env → R β} {ok : β → Prop} {Rr : V → Hp → Prop} (r : Rep c.X Γ ρ σ H F A)
    (h : Run c W σ H F (Own A) ((fa ρ).bind fun p => g p.1 p.2) ok)
    (k : ∀ x H1 F1 A1 d ρ1 B, Out c Γ ka σ ρ H F A ρ1 H1 F1 A1 x d B → Run c W σ H1 F1 (Own A1) (g d ρ1) ok → Rr x H1) : tX c W Γ ka fa σ H Rr :=
  ⟨F, A, ρ, r, h.bind.imp fun p _ hp v H' F' A' B o => k v H' F' A' p.1 p.2 B o (hp.at o.nx0 fun _ z => z)⟩
/-- two operands -/
theorem tX.two {fa fb : Env → R (D × Env)} {β : Type} {g : D → D → Env → R β} {ok : β → Prop} {Rr : V → V → Hp → Prop} (hc : ka.own = true ∨ kb.pu = true) (r : Rep c.X Γ ρ σ H F A)
    (h : Run c W σ H F (Own A) ((fa ρ).bind fun p => (fb p.2).bind fun q => g p.1 q.1 q.2) ok)
    (k : ∀ x y H2 F2 A2 d1 d2 ρ2 B1 B2, Two c Γ ka kb σ ρ H F A ρ2 H2 F2 A2 x y d1 d2 B1 B2 → Run c W σ H2 F2 (Own A2) (g d1 d2 ρ2) ok → Rr x y H2) :
    tX c W Γ ka fa σ H fun x H1 => tX c W Γ kb fb σ H1 fun y H2 => Rr x y H2 :=
  tX.one (g := fun d ρ1 => (fb ρ1).bind fun q => g d q.1 q.2) r h fun x H1 F1 A1 d1 ρ1 B1 o1 h1 =>
    tX.one (g := fun d2 ρ2 => g d1 d2 ρ2) o1.rep h1 fun y H2 F2 A2 d2 ρ2 B2 o2 h2 => k x y H2 F2 A2 d1 d2 ρ2 B1 B2 (o1.two o2 hc) h2
/-- what is known of a value whose reading ends -/
abbrev Ends' (c : Cf) (Γ : List Nat) (k : Kd) (σ : Sl) (ρ : Env) (H F : Hp) (A : Nat → List Addr) (Q : VK) : D × Env → Prop :=
  fun p => ∀ v H' F' A' B, Out c Γ k σ ρ H F A p.2 H' F' A' v p.1 B → Q v H'
theorem Run.ok_of {β : Type} {m : R β} {ok : β → Prop} {P : Addr → Prop} {b : β} (h : Run c W σ H F P m ok) (e : m = .ok b) : ok b := by rw [e] at h; exact h
theorem Run.not_bad {β : Type} {m : R β} {ok : β → Prop} {P : Addr → Prop} (h : Run c W σ H F P m ok) (e : m = bad) : False := by rw [e] at h; exact h
end

section
variable {c : Cf} {W : WX} {σ : Sl} {H F : Hp} {P : Addr → Prop} {α β : Type}
/-- a part that may fail alone -/
theorem Run.opt {m : Option α} {k : α → R β} {ok : β → Prop} (h : Run c W σ H F P ((optR m).bind k) ok) : ∃ a, m = some a ∧ Run c W σ H F P (k a) ok := by
  cases m with
  | none => exact False.elim h
  | some a => exact ⟨a, rfl, h⟩
end

section
variable {c : Cf} {W : WX} {Γ : List Nat} {Y : Cx} {e a b : Expr} {pos : Pos} {k ka kb : Kd} {fa fb : Env → R (D × Env)}

/-- an atom's kind -/
abbrev kA (pu : Bool) : Kd := ⟨true, pu, 9⟩

theorem sx_var {i : Nat} {x : Str} (hN : Y.N[i]? = some x) (hv : Vis Y.env.scope x) (hd : (x == ("__debug__" : Str)) = false) (hcd : (x == ("__classdict__" : Str)) = false) :
    SX c W Γ ⟨Γ.getD i 0 == 0, true, Γ.getD i 0⟩ Y (.Name x pos) (fun ρ => (optR (gt ρ i)).bind fun d => .ok (d, ρ)) :=
  PE.imp (pe_var (i := i) hN hv hd hcd) fun σ H Q ⟨F, A, ρ, r, h⟩ => by
    obtain ⟨d, e, h⟩ := Run.opt h
    obtain ⟨v, ev, o⟩ := r.val i d (gt_ok e)
    have own0 : (Γ.getD i 0 == 0) = true → A i = [] := fun z => by
      have z' : Γ.getD i 0 = 0 := by simpa using z
      rw [z'] at o; exact o.1
    refine ⟨v, ev, h v H F A (A i) ⟨⟨r, Nxt.refl.weak (fun _ z => z) fun z hz => ?_, fun _ => ⟨rfl, rfl, Nxt.refl⟩⟩, o, fun _ => r.nd i, fun ho z hz => ?_⟩⟩
    · rcases hz with w | w
      · exact .inl w
      · have := own0 w.1; rw [this] at w; exact absurd w.2 (by simp)
    · rw [own0 ho] at hz; exact absurd hz (by simp)

theorem sx_const {d : D} {v : V} (h : PE Y e (tC v)) (r : ∀ F, RD c.X F v d) (ha : isAtom d = true) : SX c W Γ (kA true) Y e (fun ρ => .ok (d, ρ)) :=
  PE.imp h fun σ H Q ⟨F, A, ρ, rp, hq⟩ => hq v H F A [] ((Mid.refl rp).val (r F) (fun z => z) (.inr ha))
theorem sx_int {i : Int} {j} : SX c W Γ (kA true) Y (.Constant (.int i) j pos) (fun ρ => .ok (.int i, ρ)) := sx_const pe_int (fun _ => .int i) rfl
theorem sx_bl {i : Bool} {j} : SX c W Γ (kA true) Y (.Constant (.bool i) j pos) (fun ρ => .ok (.bl i, ρ)) := sx_const pe_bl (fun _ => .bl i) rfl
theorem sx_non {j} : SX c W Γ (kA true) Y (.Constant .none j pos) (fun ρ => .ok (.non, ρ)) := sx_const pe_non (fun _ => .non) rfl
theorem sx_str {x : Str} {s : List Nat} {j} (h : x = ⟨s.toArray⟩) : SX c W Γ (kA true) Y (.Constant (.str x) j pos) (fun ρ => .ok (.str s, ρ)) := by
  subst h; exact sx_const pe_str (fun _ => .str s) rfl

/-- the value is an atom -/
theorem sx_atm (h : SX c W Γ ka Y e fa) : SX c W Γ (kA ka.pu) Y e (fun ρ => (fa ρ).bind fun p => (optR (atomD p.1)).bind fun d => .ok (d, p.2)) :=
  PE.imp h fun σ H Q ⟨F, A, ρ, r, h⟩ => tX.one (g := fun d ρ1 => (optR (atomD d)).bind fun d => .ok (d, ρ1)) r h fun x H1 F1 A1 d ρ1 B o h1 => by
    obtain ⟨d', e, h1⟩ := Run.opt h1
    unfold atomD at e
    split at e
    · rename_i ha
      cases e
      exact h1 x H1 F1 A1 [] (o.mid.val (o.ot.rd_of_atom ha) (fun z => z) (.inr ha))
    · cases e
/-- less is owned -/
theorem sx_low (h : SX c W Γ k Y e fa) (ho : k.own = true) {n : Nat} (hn : n ≤ k.lv) : SX c W Γ ⟨true, k.pu, n⟩ Y e fa :=
  PE.imp h fun σ H Q ⟨F, A, ρ, r, h⟩ => ⟨F, A, ρ, r, h.imp fun p _ hp v H' F' A' B o => by
    obtain ⟨F2, B2, o2⟩ := o.low (k' := ⟨true, k.pu, n⟩) ho hn fun z => z
    exact hp v H' F2 A' B2 o2⟩

/-- a binary operator whose result is an atom -/
theorem sx_bin_atom {op : Operator} {r : R2} {g : D → D → Option D} (ho : OpR Y (binaryOp op) r) (ha : SX c W Γ ka Y a fa) (hb : SX c W Γ kb Y b fb) (hc : ka.own = true ∨ kb.pu = true)
    (hr : ∀ (X : Tx) (H F : Hp) (x y : V) (d1 d2 d : D) (n m : Nat) (A B : List Addr), Sub F H → OT X H F n x d1 A → OT X H F m y d2 B → g d1 d2 = some d → ∃ v, RD X F v d ∧ isAtom d = true ∧ ∀ Q : VK, Q v H → r x y H Q) :
    SX c W Γ (kA (ka.pu && kb.pu)) Y (.BinOp a op b pos) (fun ρ => (fa ρ).bind fun p => (fb p.2).bind fun q => (optR (g p.1 q.1)).bind fun d => .ok (d, q.2)) :=
  PE.imp (pe_op ho ha hb) fun σ H Q ⟨F, A, ρ, rp, h⟩ => tX.two (g := fun d1 d2 ρ2 => (optR (g d1 d2)).bind fun d => .ok (d, ρ2)) hc rp h fun x y H2 F2 A2 d1 d2 ρ2 B1 B2 t h2 => by
    obtain ⟨d, e, h2⟩ := Run.opt h2
    obtain ⟨v, rv, av, hq⟩ := hr c.X H2 F2 x y d1 d2 d _ _ _ _ t.mid.rep.sub t.o1 t.o2 e
    exact hq _ (h2 v H2 F2 A2 [] (t.mid.val rv (fun z => z) (.inr av)))

theorem two2_inv {d1 d2 : D} {p : Int × Int} (e : two2 d1 d2 = some p) : d1 = .int p.1 ∧ d2 = .int p.2 := by
  cases d1 <;> first | cases e | skip
  cases d2 <;> cases e
  exact ⟨rfl, rfl⟩
theorem op_pow' {X : Cx} : OpR X (binaryOp .Pow) (rI (fun i j => 0 ≤ j ∧ (Builtin.Int.intBits i : Int) * j ≤ 2 ^ 27) fun i j => .int (i ^ j.toNat)) := opI fun _ _ _ _ _ _ _ hc q => pow_int hc.1 hc.2 q
theorem intBits_le (x : Int) : Builtin.Int.intBits x ≤ x.natAbs.log2 + 1 := by
  unfold Builtin.Int.intBits
  split <;> omega

theorem sx_sub (ha : SX c W Γ ka Y a fa) (hb : SX c W Γ kb Y b fb) (hc : ka.own = true ∨ kb.pu = true) :
    SX c W Γ (kA (ka.pu && kb.pu)) Y (.BinOp a .Sub b pos) (fun ρ => (fa ρ).bind fun p => (fb p.2).bind fun q => (optR (binD .sub p.1 q.1)).bind fun d => .ok (d, q.2)) :=
  sx_bin_atom op_sub ha hb hc fun X H F x y d1 d2 d n m A B _ o1 o2 e => by
    obtain ⟨p, ep, e'⟩ := Option.map_eq_some_iff.mp e
    obtain ⟨rfl, rfl⟩ := two2_inv ep
    subst e'
    exact ⟨_, .int _, rfl, fun Q q => ⟨p.1, p.2, o1.int_eq, o2.int_eq, q⟩⟩
theorem sx_mod (ha : SX c W Γ ka Y a fa) (hb : SX c W Γ kb Y b fb) (hc : ka.own = true ∨ kb.pu = true) :
    SX c W Γ (kA (ka.pu && kb.pu)) Y (.BinOp a .Mod b pos) (fun ρ => (fa ρ).bind fun p => (fb p.2).bind fun q => (optR (binD .mod p.1 q.1)).bind fun d => .ok (d, q.2)) :=
  sx_bin_atom op_modN ha hb hc fun X H F x y d1 d2 d n m A B _ o1 o2 e => by
    obtain ⟨p, ep, e'⟩ := Option.bind_eq_some_iff.mp e
    obtain ⟨rfl, rfl⟩ := two2_inv ep
    split at e'
    · cases e'; exact ⟨_, .int _, rfl, fun Q q => ⟨p.1, p.2, o1.int_eq, o2.int_eq, by assumption, q⟩⟩
    · cases e'
theorem op_fdivL {X : Cx} : OpR X (binaryOp .FloorDiv) (rI (fun _ j => j ≠ 0 ∧ j.natAbs.log2 < 9000) fun i j => .int (i.fdiv j)) := opI fun i j _ _ _ _ _ hc q => floordiv_int hc.1 q (.inl (PyProof.noPylong_of_log2 hc.2))
theorem sx_fdiv (ha : SX c W Γ ka Y a fa) (hb : SX c W Γ kb Y b fb) (hc : ka.own = true ∨ kb.pu = true) :
    SX c W Γ (kA (ka.pu && kb.pu)) Y (.BinOp a .FloorDiv b pos) (fun ρ => (fa ρ).bind fun p => (fb p.2).bind fun q => (optR (binD .fdiv p.1 q.1)).bind fun d => .ok (d, q.2)) :=
  sx_bin_atom op_fdivL ha hb hc fun X H F x y d1 d2 d n m A B _ o1 o2 e => by
    obtain ⟨p, ep, e'⟩ := Option.bind_eq_some_iff.mp e
    obtain ⟨rfl, rfl⟩ := two2_inv ep
    split at e'
    · rename_i hh
      cases e'; exact ⟨_, .int _, rfl, fun Q q => ⟨p.1, p.2, o1.int_eq, o2.int_eq, ⟨hh.1, by omega⟩, q⟩⟩
    · cases e'
theorem pow_bound {i j : Int} {n : Nat} (h0 : 0 ≤ j) (hn : n ≤ bits i) (h : bits i * j.toNat ≤ 100000) : (n : Int) * j ≤ 2 ^ 27 := by
  have h2 : n * j.toNat ≤ 100000 := Nat.le_trans (Nat.mul_le_mul_right _ hn) h
  have h3 : (j.toNat : Int) = j := Int.toNat_of_nonneg h0
  have h4 : ((n * j.toNat : Nat) : Int) ≤ ((100000 : Nat) : Int) := Int.ofNat_le.mpr h2
  rw [Int.natCast_mul, h3] at h4
  exact Int.le_trans h4 (by decide)
theorem sx_pow (ha : SX c W Γ ka Y a fa) (hb : SX c W Γ kb Y b fb) (hc : ka.own = true ∨ kb.pu = true) :
    SX c W Γ (kA (ka.pu && kb.pu)) Y (.BinOp a .Pow b pos) (fun ρ => (fa ρ).bind fun p => (fb p.2).bind fun q => (optR (binD .pow p.1 q.1)).bind fun d => .ok (d, q.2)) :=
  sx_bin_atom op_pow' ha hb hc fun X H F x y d1 d2 d n m A B _ o1 o2 e => by
    obtain ⟨p, ep, e'⟩ := Option.bind_eq_some_iff.mp e
    obtain ⟨rfl, rfl⟩ := two2_inv ep
    split at e'
    · rename_i hh
      cases e'
      exact ⟨_, .int _, rfl, fun Q q => ⟨p.1, p.2, o1.int_eq, o2.int_eq, ⟨hh.1, pow_bound hh.1 (intBits_le _) hh.2⟩, q⟩⟩
    · cases e'
end
end Pz
end
section
set_option Elab.async false
set_option linter.all false
/-! Rules of expressions: +, * of all kinds. -/
namespace Pz
open PySem PySem.Spec PyProof.Rows L2 HT

/-! ### lists that are read, added -/
section
variable {prog : Program} {w : World} {A : Around} {E : Value → Shared → Prop} {s : Shared}
theorem add_listsP {l b : Addr} {vs ws : List Value} {Q : Value → Shared → Prop} (hl : s.heap.IsList l vs.toArray) (hb : s.heap.IsList b ws.toArray)
    (h : Q (.ref s.heap.objs.size) { s with heap := s.heap.push { cls := .type "list", data := .seq (vs ++ ws).toArray } }) (hsz : vs.length + ws.length ≤ sizeLine) :
    wpAny (model prog w) A (binaryOp .Add (.ref l) (.ref b)) Q E s := by
  obtain ⟨⟨cls, dd, data, sl⟩, ho, hc, n, hd⟩ := id hl
  obtain ⟨⟨cls2, dd2, data2, sl2⟩, ho2, hc2, n2, hd2⟩ := id hb
  simp only at hc hd hc2 hd2
  subst hc hd hc2 hd2
  have e : vs.toArray ++ ws.toArray = (vs ++ ws).toArray := by simp
  refine concat_meets ⟨_, ho, rfl⟩ ⟨_, ho2, rfl⟩ noFill_list_add seq_list_add PySem.F.slot_list_add PySem.F.entry_list_add (PySem.F.args_list_add_2 _ _) (list_addW l b vs.toArray ws.toArray n n2 dd dd2 sl sl2 (by simpa using hsz)) ⟨ho, ho2, ?_⟩
  rw [e]
  exact h
end
def rCatL (K : PySem.W.Frag) : R2 := fun x y H Q => ∃ l b xs zs, x = .ref l ∧ y = .ref b ∧ SqL K H l xs ∧ SqL K H b zs ∧ xs.length + zs.length ≤ sizeLine ∧ ∀ p, H p = none → Q (.ref p) (upd H p (.lst (xs ++ zs)))
theorem op_catL {X : Cx} : OpR X (binaryOp .Add) (rCatL X.K) := by
  intro pins s σ H x y v u Q I rx ry h
  obtain ⟨l, b, xs, zs, rfl, rfl, hH, hB, hz, q⟩ := h
  cases rx
  cases ry
  obtain ⟨its, r, p1, z1⟩ := I.list hH
  obtain ⟨its2, r2, p2, z2⟩ := I.list hB
  refine add_listsP p1.isList p2.isList ?_ (by rw [← r.length, ← r2.length]; exact hz)
  have hf : H s.heap.objs.size = none := I.hok.fresh (Nat.le_refl _)
  exact ⟨.ref s.heap.objs.size, _, I.laid (t' := s.toks) (fun b u e => Heap.get?_push_of_some _ e) (Nat.le_refl _) (show ObjOk X.prog X.w _ _ _ (.lst (xs ++ zs)) from ⟨by rw [List.length_append]; exact hz, its ++ its2, 0, r.append r2, Heap.get?_push_size _ rfl⟩), rfl, q _ hf⟩

section
variable {c : Cf} {W : WX} {Γ : List Nat} {k k' ka kb : Kd} {σ : Sl} {ρ ρ' ρ1 ρ2 : Env} {H F H' F' H1 F1 H2 F2 : Hp} {A A' A1 A2 : Nat → List Addr} {v x y : V} {d d1 d2 : D} {B B1 B2 : List Addr} {q q1 q2 : Addr → Prop} {p p1 p2 : Bool}
/-- a new object, frozen at once -/
theorem Mid.newF (m : Mid c Γ σ ρ H F A ρ' H' F' A' q p) {a : Addr} {o : HO} (ha : H' a = none) (hr : RD c.X (upd F' a o) (.ref a) d) (hp : k.pu = true → p = true) (hk : k.lv = 0) :
    Out c Γ k σ ρ H F A ρ' (upd H' a o) (upd F' a o) A' (.ref a) d [] := by
  have sb := upd_sub (o := o) ha
  have hf : F' a = none := by
    cases e : F' a with
    | none => rfl
    | some o => rw [m.rep.sub a o e] at ha; cases ha
  have sf := upd_sub (o := o) hf
  have ss : Sub (upd F' a o) (upd H' a o) := fun b u e => by
    by_cases hb : b = a
    · rw [hb, upd_same] at e ⊢; exact e
    · rw [upd_ne hb] at e ⊢; exact m.rep.sub b u e
  have g := m.grow sb sf ss (fun b e => by
    by_cases hb : b = a
    · rw [hb]; exact .inr (.inr ha)
    · rw [upd_ne hb] at e; exact .inl e) (q2 := fun _ => False) fun _ z => z.elim
  exact g.val hr hp (.inl hk)
theorem Mid.fresh (m : Mid c Γ σ ρ H F A ρ' H' F' A' q p) {a : Addr} (ha : H' a = none) : F' a = none := by
  cases e : F' a with
  | none => rfl
  | some o => rw [m.rep.sub a o e] at ha; cases ha
theorem Mid.newLF (m : Mid c Γ σ ρ H F A ρ' H' F' A' q p) {a : Addr} {ps : List (V × D)} (ha : H' a = none) (hr : ∀ x ∈ ps, RD c.X F' x.1 x.2) (hp : k.pu = true → p = true) (hk : k.lv = 0) :
    Out c Γ k σ ρ H F A ρ' (upd H' a (.lst (ps.map (·.1)))) (upd F' a (.lst (ps.map (·.1)))) A' (.ref a) (.lst (ps.map (·.2))) [] :=
  m.newF ha (.lst ps rfl (.of upd_same) fun x hx => (hr x hx).mono (upd_sub (m.fresh ha))) hp hk
end

theorem line_lim : lim = sizeLine := by rw [sizeLine_eq]; rfl
theorem sV_append (s t : List Nat) : (⟨s.toArray⟩ : Str) ++ ⟨t.toArray⟩ = ⟨(s ++ t).toArray⟩ := by
  show Str.append _ _ = _
  simp [Str.append]
theorem sV_length (s : List Nat) : (⟨s.toArray⟩ : Str).length = s.length := by simp [Str.length]

section
variable {c : Cf} {W : WX} {Γ : List Nat} {Y : Cx} {e a b : Expr} {pos : Pos} {k ka kb : Kd} {fa fb : Env → R (D × Env)}

def rAddAll (K : PySem.W.Frag) : R2 := fun x y H Q => (∃ i j, x = .int i ∧ y = .int j ∧ Q (.int (i + j)) H) ∨ (∃ i j, x = .str i ∧ y = .str j ∧ i.length + j.length ≤ sizeLine ∧ Q (.str (i ++ j)) H) ∨ rCatL K x y H Q ∨ rCatT K x y H Q ∨
  (∃ t b ys, x = .ref t ∧ y = .ref b ∧ SqT K H t [] ∧ SqT K H b ys ∧ Q (.ref b) H)
theorem op_catT0 {X : Cx} : OpR X (binaryOp .Add) (fun x y H Q => ∃ t b ys, x = .ref t ∧ y = .ref b ∧ SqT X.K H t [] ∧ SqT X.K H b ys ∧ Q (.ref b) H) := by
  intro pins s σ H x y v u Q I rx ry h
  obtain ⟨t, b, ys, rfl, rfl, ht, hb, q⟩ := h
  cases rx
  cases ry
  obtain ⟨its, r1, p1, _⟩ := I.tuple ht
  obtain ⟨its2, r2, p2, _⟩ := I.tuple hb
  cases r1
  exact cat_tup0 p1 p2 ⟨.ref b, H, I, rfl, q⟩
theorem op_addAll {X : Cx} : OpR X (binaryOp .Add) (rAddAll X.K) := op_add.or (op_add_str.or (op_catL.or (op_catT.or op_catT0)))

/-- + of ints, texts, tuples, lists: frozen -/
theorem sx_add (hK : Y.K = c.X.K) (ha : SX c W Γ ka Y a fa) (hb : SX c W Γ kb Y b fb) (hc : ka.own = true ∨ kb.pu = true) (h1 : ka.lv = 0) (h2 : kb.lv = 0) :
    SX c W Γ ⟨true, ka.pu && kb.pu, 0⟩ Y (.BinOp a .Add b pos) (fun ρ => (fa ρ).bind fun p => (fb p.2).bind fun q => (optR (binD .add p.1 q.1)).bind fun d => .ok (d, q.2)) :=
  PE.imp (pe_op op_addAll ha hb) fun σ H Q ⟨F, A, ρ, rp, h⟩ => tX.two (g := fun d1 d2 ρ2 => (optR (binD .add d1 d2)).bind fun d => .ok (d, ρ2)) hc rp h fun x y H2 F2 A2 d1 d2 ρ2 B1 B2 t h2' => by
    obtain ⟨d, e, hq⟩ := Run.opt h2'
    replace hq : Ends' c Γ ⟨true, ka.pu && kb.pu, 0⟩ σ ρ H F A Q (d, ρ2) := hq
    have o1 := t.o1; have o2 := t.o2
    rw [h1] at o1; rw [h2] at o2
    replace e : addD d1 d2 = some d := e
    rw [hK]
    cases d1 <;> first | (cases e; done) | skip
    · rename_i i
      cases d2 <;> first | (cases e; done) | skip
      rename_i j
      cases e
      exact .inl ⟨i, j, o1.int_eq, o2.int_eq, hq _ _ _ _ _ (t.mid.val (.int _) (fun z => z) (.inl rfl))⟩
    · rename_i i
      cases d2 <;> first | (cases e; done) | skip
      rename_i j
      replace e : (if i.length + j.length ≤ lim then some (D.str (i ++ j)) else none) = some d := e
      split at e <;> cases e
      rename_i hl
      refine .inr (.inl ⟨_, _, o1.str_eq, o2.str_eq, by rw [sV_length, sV_length, ← line_lim]; exact hl, ?_⟩)
      rw [sV_append]
      exact hq _ _ _ _ _ (t.mid.val (.str _) (fun z => z) (.inl rfl))
    · rename_i i
      cases d2 <;> first | (cases e; done) | skip
      rename_i j
      replace e : (if i.length + j.length ≤ lim then some (D.lst (i ++ j)) else none) = some d := e
      split at e <;> cases e
      rename_i hl
      obtain ⟨a1, ps, rfl, rfl, s1, r1⟩ := o1.lst1 (Nat.zero_le _) t.mid.rep.sub
      obtain ⟨a2, qs, rfl, rfl, s2, r2⟩ := o2.lst1 (Nat.zero_le _) t.mid.rep.sub
      refine .inr (.inr (.inl ⟨_, _, _, _, rfl, rfl, s1, s2, by simpa [← line_lim] using hl, fun p hp => ?_⟩))
      have o := t.mid.newLF (k := ⟨true, ka.pu && kb.pu, 0⟩) (ps := ps ++ qs) hp (fun z hz => (List.mem_append.mp hz).elim (r1 z) (r2 z)) (fun z => z) rfl
      rw [List.map_append, List.map_append] at o
      exact hq _ _ _ _ _ o
    · rename_i i
      cases d2 <;> first | (cases e; done) | skip
      rename_i j
      replace e : (if i.length + j.length ≤ lim then some (D.tup (i ++ j)) else none) = some d := e
      split at e <;> cases e
      rename_i hl
      have f1 := o1.2; have f2 := o2.2
      obtain ⟨a1, ps, rfl, rfl, s1, r1⟩ := f1.tup_eq
      obtain ⟨a2, qs, rfl, rfl, s2, r2⟩ := f2.tup_eq
      by_cases hp : ps = []
      · subst hp
        refine .inr (.inr (.inr (.inr ⟨_, _, _, rfl, rfl, t.mid.rep.sub.sqT s1, t.mid.rep.sub.sqT s2, hq _ _ _ _ _ (t.mid.val f2 (fun z => z) (.inl rfl))⟩)))
      · refine .inr (.inr (.inr (.inl ⟨_, _, _, _, rfl, rfl, t.mid.rep.sub.sqT s1, t.mid.rep.sub.sqT s2, by simpa using hp, by simpa [← line_lim] using hl, fun hz => ?_, fun _ p hp => ?_⟩)))
        · have : qs = [] := by simpa using hz
          subst this
          simp only [List.map_nil, List.append_nil] at hq ⊢
          exact hq _ _ _ _ _ (t.mid.val f1 (fun z => z) (.inl rfl))
        · have o := t.mid.newT (k := ⟨true, ka.pu && kb.pu, 0⟩) (ps := ps ++ qs) hp (fun z hz => (List.mem_append.mp hz).elim (r1 z) (r2 z)) (fun z => z) rfl
          rw [List.map_append, List.map_append] at o
          exact hq _ _ _ _ _ o
/-- + of lists, the new one owned -/
theorem sx_cat (hK : Y.K = c.X.K) (ha : SX c W Γ ka Y a fa) (hb : SX c W Γ kb Y b fb) (hc : ka.own = true ∨ kb.pu = true) (h1 : ka.lv ≤ 1) (h2 : kb.lv ≤ 1) :
    SX c W Γ ⟨true, ka.pu && kb.pu, 1⟩ Y (.BinOp a .Add b pos) (fun ρ => (fa ρ).bind fun p => (fb p.2).bind fun q => (optR (binD .cat p.1 q.1)).bind fun d => .ok (d, q.2)) :=
  PE.imp (pe_op op_addAll ha hb) fun σ H Q ⟨F, A, ρ, rp, h⟩ => tX.two (g := fun d1 d2 ρ2 => (optR (binD .cat d1 d2)).bind fun d => .ok (d, ρ2)) hc rp h fun x y H2 F2 A2 d1 d2 ρ2 B1 B2 t h2' => by
    obtain ⟨d, e, hq⟩ := Run.opt h2'
    replace hq : Ends' c Γ ⟨true, ka.pu && kb.pu, 1⟩ σ ρ H F A Q (d, ρ2) := hq
    replace e : catD d1 d2 = some d := e
    rw [hK]
    cases d1 <;> first | (cases e; done) | skip
    rename_i i
    cases d2 <;> first | (cases e; done) | skip
    rename_i j
    replace e : (if i.length + j.length ≤ lim then some (D.lst (i ++ j)) else none) = some d := e
    split at e <;> cases e
    rename_i hl
    obtain ⟨a1, ps, rfl, rfl, s1, r1⟩ := t.o1.lst1 h1 t.mid.rep.sub
    obtain ⟨a2, qs, rfl, rfl, s2, r2⟩ := t.o2.lst1 h2 t.mid.rep.sub
    refine .inr (.inr (.inl ⟨_, _, _, _, rfl, rfl, s1, s2, by simpa [← line_lim] using hl, fun p hp => ?_⟩))
    have o := t.mid.newL (k := ⟨true, ka.pu && kb.pu, 1⟩) (ps := ps ++ qs) hp (fun z hz => (List.mem_append.mp hz).elim (r1 z) (r2 z)) (fun z => z) rfl
    rw [List.map_append, List.map_append] at o
    exact hq _ _ _ _ _ o
end
end Pz
end
section
set_option Elab.async false
set_option linter.all false
/-! Rules of expressions: *, unary operators, truth. -/
namespace Pz
open PySem PySem.Spec PyProof.Rows L2 HT

theorem op_mulK {X : Cx} : OpR X (binaryOp .Mult) (rI IntMulOk fun i j => .int (i * j)) := opI fun _ _ _ _ _ _ _ hc q => mul_int q hc
theorem nat64 {i : Int} (h : i.natAbs < 2 ^ 64) : -(2 ^ 64) < i ∧ i < 2 ^ 64 := by omega
theorem mulOk_ok {i j : Int} (h : mulOk i j = true) : IntMulOk i j := by
  unfold mulOk at h
  simp only [Bool.or_eq_true, decide_eq_true_eq] at h
  rcases h with (h | h) | h
  · exact CMul.ok (.inl (nat64 h))
  · exact CMul.ok (.inr (nat64 h))
  · exact CMulW.ok (by unfold bits at h; show i.natAbs.log2 + j.natAbs.log2 < 1000000; omega)
theorem rep_fold (s : List Nat) (n : Nat) : ∀ acc : List Nat, (List.replicate n s.toArray).foldl (· ++ ·) acc.toArray = (acc ++ (List.replicate n s).flatten).toArray := by
  induction n with
  | zero => intro acc; simp
  | succ n ih =>
    intro acc
    rw [List.replicate_succ, List.foldl_cons, List.replicate_succ, List.flatten_cons]
    have e : acc.toArray ++ s.toArray = (acc ++ s).toArray := by simp
    rw [e, ih, List.append_assoc]
def rMulStr : R2 := fun x y H Q => ∃ s j, x = sV s ∧ y = .int j ∧ 2 ≤ j ∧ j < 16777216 ∧ 0 < s.length ∧ s.length * j.toNat ≤ lim ∧ Q (sV (List.replicate j.toNat s).flatten) H
theorem op_mulStr {X : Cx} : OpR X (binaryOp .Mult) rMulStr := by
  intro pins s σ H x y v u Q I rx ry h
  obtain ⟨z, j, rfl, rfl, h1, h2, h3, h4, q⟩ := h
  obtain ⟨t, rfl⟩ := rx
  obtain ⟨t', rfl⟩ := ry
  have hn1 : ¬ j < 1 := by omega
  have hl : (⟨z.toArray⟩ : Str).length = z.length := sV_length z
  have hb : (j == 1 || (⟨z.toArray⟩ : Str).length == 0) = false := by
    rw [hl]
    have a1 : (j == 1) = false := by simp; omega
    have a2 : (z.length == 0) = false := by simp; intro e; rw [e] at h3; exact absurd h3 (by simp)
    rw [a1, a2]; rfl
  have h5 : ((z.length * j.toNat : Nat) : Int) ≤ 16777216 := by
    exact Int.ofNat_le.mpr (show z.length * j.toNat ≤ 16777216 from h4)
  have hj : (j.toNat : Int) = j := Int.toNat_of_nonneg (by omega)
  refine PySem.P.mul_str (by rw [decide_eq_false (by omega), decide_eq_false (by omega)]; rfl) (fun _ _ => ?_) (fun _ _ => ?_) ?_
  · rw [hl]
    have : ((z.length : Int)) * j ≤ 16777216 := by rw [Int.natCast_mul, hj] at h5; exact h5
    have h6 : (z.length : Int) ≤ 16777216 := by
      have : (z.length : Int) * 1 ≤ (z.length : Int) * j := Int.mul_le_mul_of_nonneg_left (by omega) (by omega)
      omega
    have h7 : (2 ^ 63 - 1) / j ≥ 16777216 := by
      have : (16777216 : Int) * j ≤ 2 ^ 63 - 1 := by omega
      exact (Int.le_ediv_iff_mul_le (by omega)).mpr this
    omega
  · rw [hl]
    unfold Builtin.Str.tooLong
    rw [decide_eq_false_iff_not, Nat.not_lt, ← line_lim]
    exact h4
  · rw [if_neg hn1, if_neg (by rw [hb]; exact Bool.false_ne_true)]
    have e : (⟨(List.replicate j.toNat (⟨z.toArray⟩ : Str).cps).foldl (· ++ ·) #[]⟩ : Str) = ⟨(List.replicate j.toNat z).flatten.toArray⟩ := by
      have := rep_fold z j.toNat []
      simp only [List.nil_append] at this
      rw [← this]
    rw [e]
    refine ⟨?_, ⟨sV (List.replicate j.toNat z).flatten, H, I.tok _, ⟨_, rfl⟩, q⟩⟩
    first | (rw [sV_length]; rw [← line_lim]; simp only [List.length_flatten, List.map_replicate, List.sum_replicate_nat]; rw [Nat.mul_comm]; exact h4)
def rMulAll : R2 := fun x y H Q => (∃ i j, x = .int i ∧ y = .int j ∧ IntMulOk i j ∧ Q (.int (i * j)) H) ∨ rMulStr x y H Q ∨ rRep x y H Q
theorem op_mulAll {X : Cx} : OpR X (binaryOp .Mult) rMulAll := op_mulK.or (op_mulStr.or op_rep)

section
variable {c : Cf} {W : WX} {Γ : List Nat} {Y : Cx} {e a b : Expr} {pos : Pos} {k ka kb : Kd} {fa fb : Env → R (D × Env)}
theorem mem_repL {α : Type} {n : Nat} {l : List α} {x : α} (h : x ∈ (List.replicate n l).flatten) : x ∈ l := by
  obtain ⟨m, hm, hx⟩ := List.mem_flatten.mp h
  rw [List.eq_of_mem_replicate hm] at hx
  exact hx
theorem map_rep {α β : Type} (f : α → β) (n : Nat) (l : List α) : ((List.replicate n l).flatten).map f = (List.replicate n (l.map f)).flatten := by
  rw [List.map_flatten, List.map_replicate]
/-- * of ints, of a text by an int -/
theorem sx_mul (ha : SX c W Γ ka Y a fa) (hb : SX c W Γ kb Y b fb) (hc : ka.own = true ∨ kb.pu = true) :
    SX c W Γ (kA (ka.pu && kb.pu)) Y (.BinOp a .Mult b pos) (fun ρ => (fa ρ).bind fun p => (fb p.2).bind fun q => (optR (binD .mul p.1 q.1)).bind fun d => .ok (d, q.2)) :=
  sx_bin_atom op_mulAll ha hb hc fun X H F x y d1 d2 d n m A B _ o1 o2 e => by
    replace e : mulD d1 d2 = some d := e
    cases d1 <;> first | (cases e; done) | skip
    · rename_i i
      cases d2 <;> first | (cases e; done) | skip
      rename_i j
      replace e : (if mulOk i j then some (D.int (i * j)) else none) = some d := e
      split at e <;> cases e
      rename_i hm
      exact ⟨_, .int _, rfl, fun Q q => .inl ⟨i, j, o1.int_eq, o2.int_eq, mulOk_ok hm, q⟩⟩
    · rename_i i
      cases d2 <;> first | (cases e; done) | skip
      rename_i j
      replace e : (if 2 ≤ j ∧ j < 16777216 ∧ 0 < i.length ∧ i.length * j.toNat ≤ lim then some (D.str ((List.replicate j.toNat i).flatten)) else none) = some d := e
      split at e <;> cases e
      rename_i hm
      exact ⟨_, .str _, rfl, fun Q q => .inr (.inl ⟨i, j, o1.str_eq, o2.int_eq, hm.1, hm.2.1, hm.2.2.1, hm.2.2.2, q⟩)⟩
/-- * of a new list by an int -/
theorem sx_rep (ha : SX c W Γ ka Y a fa) (hb : SX c W Γ kb Y b fb) (hc : ka.own = true ∨ kb.pu = true) (h1 : ka.lv = 1) :
    SX c W Γ ⟨true, ka.pu && kb.pu, 1⟩ Y (.BinOp a .Mult b pos) (fun ρ => (fa ρ).bind fun p => (fb p.2).bind fun q => (optR (binD .rep p.1 q.1)).bind fun d => .ok (d, q.2)) :=
  PE.imp (pe_op op_mulAll ha hb) fun σ H Q ⟨F, A, ρ, rp, h⟩ => tX.two (g := fun d1 d2 ρ2 => (optR (binD .rep d1 d2)).bind fun d => .ok (d, ρ2)) hc rp h fun x y H2 F2 A2 d1 d2 ρ2 B1 B2 t h2' => by
    obtain ⟨d, e, hq⟩ := Run.opt h2'
    replace hq : Ends' c Γ ⟨true, ka.pu && kb.pu, 1⟩ σ ρ H F A Q (d, ρ2) := hq
    have o1 := t.o1
    rw [h1] at o1
    replace e : repD d1 d2 = some d := e
    cases d1 <;> first | (cases e; done) | skip
    rename_i i
    cases d2 <;> first | (cases e; done) | skip
    rename_i j
    replace e : (if -1000 ≤ j ∧ j < 16777216 ∧ i.length * j.toNat ≤ lim then some (D.lst (repL j.toNat i)) else none) = some d := e
    split at e <;> cases e
    rename_i hm
    obtain ⟨a1, qs, e1, e2, e3, _, _, e4⟩ := o1
    subst e2
    refine .inr (.inr ⟨a1, j, _, e1, t.o2.int_eq, e3, by omega, by omega, ?_, fun p hp => ?_⟩)
    · have := hm.2.2; rw [List.length_map] at this ⊢; rw [← line_lim]; exact this
    · have o := t.mid.newL (k := ⟨true, ka.pu && kb.pu, 1⟩) (ps := (List.replicate j.toNat (qs.map fun q => (q.1, q.2.1))).flatten) hp (fun z hz => by
        obtain ⟨q, hq', rfl⟩ := List.mem_map.mp (mem_repL hz)
        exact (e4 q hq').2) (fun z => z) rfl
      rw [map_rep, map_rep, (map_fst_snd qs).1, (map_fst_snd qs).2] at o
      exact hq _ _ _ _ _ o

theorem sx_neg (ha : SX c W Γ ka Y a fa) : SX c W Γ (kA ka.pu) Y (.UnaryOp .USub a pos) (fun ρ => (fa ρ).bind fun p => (optR (negD p.1)).bind fun d => .ok (d, p.2)) :=
  PE.imp (pe_un un_neg ha) fun σ H Q ⟨F, A, ρ, r, h⟩ => tX.one (g := fun d ρ1 => (optR (negD d)).bind fun d => .ok (d, ρ1)) r h fun x H1 F1 A1 d ρ1 B o h1 => by
    obtain ⟨d', e, h1⟩ := Run.opt h1
    cases d <;> first | (cases e; done) | skip
    rename_i i
    cases e
    exact ⟨i, o.ot.int_eq, h1 _ H1 F1 A1 [] (o.mid.val (.int _) (fun z => z) (.inr rfl))⟩
end
end Pz
end
section
set_option Elab.async false
set_option linter.all false
/-! Rules of expressions: truth, not, and, or, conditional expressions, comparisons. -/
namespace Pz
open PySem PySem.Spec PyProof.Rows L2

/-- sys.modules is a dict -/
def SmOk (b : Heap) : Prop := ∃ o es n, b.get? sysModules = some o ∧ o.data = .dict es n
/-- what holds of the context all through a def -/
structure Ctx (c : Cf) (W : WX) (Y : Cx) : Prop where
  K : Y.K = c.X.K
  tk : Takes Y W
  hu : Y.A.units + 65 < cLine
  calm : Y.calm = true
  gd : Y.A.guards = some []
  dg : Y.base.NoDigits
  sm : SmOk Y.base

section
variable {X : Tx} {H F : Hp} {n : Nat} {v : V} {d : D} {A : List Addr}
theorem RD.dic_eq {ks vs : List D} (h : RD X F v (.dic ks vs)) : ∃ (a : Addr) (ps : List (Key × V × D)), v = .ref a ∧ vs = ps.map (·.2.2) ∧ F a = some (.dK (ps.map fun p => (p.1, p.2.1))) ∧ ks = ps.map (fun p => kD p.1) ∧ ∀ p ∈ ps, RD X F p.2.1 p.2.2 := by
  cases h with | dic ps ds e s k r => exact ⟨_, ps, rfl, e, s, k, r⟩
theorem eqD_kD (a b : Key) : eqD (kD a) (kD b) = decide (a = b) := by
  cases a with
  | inl i =>
    cases b with
    | inl j =>
      show (i == j) = _
      by_cases h : i = j
      · subst h; simp
      · have : ¬ (Sum.inl i : Key) = .inl j := fun e => h (by cases e; rfl)
        rw [decide_eq_false this]; simpa using h
    | inr t => rfl
  | inr s =>
    cases b with
    | inl j => rfl
    | inr t =>
      show (s.cps.toList == t.cps.toList) = _
      by_cases h : s = t
      · subst h; simp
      · have : ¬ (Sum.inr s : Key) = .inr t := fun e => h (by cases e; rfl)
        rw [decide_eq_false this]
        have h2 : s.cps.toList ≠ t.cps.toList := fun e => h (by
          cases s; cases t
          simp only at e
          congr 1
          exact Array.toList_inj.mp e)
        simpa using h2
/-- a key looked up on both sides -/
theorem look_dk (k : Key) : ∀ ps : List (Key × V × D), (lookD (kD k) (ps.map fun p => kD p.1) (ps.map (·.2.2)) = none ∧ valV (ps.map fun p => (p.1, p.2.1)) k = none) ∨
    ∃ p ∈ ps, lookD (kD k) (ps.map fun p => kD p.1) (ps.map (·.2.2)) = some p.2.2 ∧ valV (ps.map fun p => (p.1, p.2.1)) k = some p.2.1
  | [] => .inl ⟨rfl, rfl⟩
  | p :: ps => by
    have e1 : lookD (kD k) ((p :: ps).map fun p => kD p.1) ((p :: ps).map (·.2.2)) = if eqD (kD p.1) (kD k) then some p.2.2 else lookD (kD k) (ps.map fun p => kD p.1) (ps.map (·.2.2)) := rfl
    have e2 : valV ((p :: ps).map fun p => (p.1, p.2.1)) k = if p.1 = k then some p.2.1 else valV (ps.map fun p => (p.1, p.2.1)) k := by
      unfold valV
      rw [List.map_cons, List.find?_cons]
      by_cases h : p.1 = k
      · rw [if_pos h]; simp [h]
      · rw [if_neg h]; simp [h]
    rw [e1, e2, eqD_kD]
    by_cases h : p.1 = k
    · rw [if_pos h, if_pos (by simpa using h)]
      exact .inr ⟨p, List.mem_cons_self, rfl, rfl⟩
    · rw [if_neg h, if_neg (by simpa using h)]
      rcases look_dk k ps with h | ⟨q, hq, h1, h2⟩
      · exact .inl h
      · exact .inr ⟨q, List.mem_cons_of_mem _ hq, h1, h2⟩
/-- a dict whose values are frozen -/
theorem OT.dic1 {ks vs : List D} (h : OT X H F n v (.dic ks vs) A) (hn : n ≤ 1) (s : Sub F H) : ∃ (a : Addr) (ps : List (Key × V × D)), v = .ref a ∧ vs = ps.map (·.2.2) ∧ H a = some (.dK (ps.map fun p => (p.1, p.2.1))) ∧ ks = ps.map (fun p => kD p.1) ∧ ∀ p ∈ ps, RD X F p.2.1 p.2.2 := by
  match n, h, hn with
  | 0, h, _ =>
    obtain ⟨a, ps, e1, e2, e3, e4, e5⟩ := h.2.dic_eq
    exact ⟨a, ps, e1, e2, s a _ e3, e4, e5⟩
  | 1, h, _ =>
    obtain ⟨a, qs, rfl, e2, e3, _, e4, _, e6⟩ := h
    refine ⟨a, qs.map fun q => (q.1, q.2.1, q.2.2.1), rfl, by rw [e2, List.map_map]; rfl, by rw [e3, List.map_map]; rfl, by rw [e4, List.map_map]; rfl, fun p hp => ?_⟩
    obtain ⟨q, hq, rfl⟩ := List.mem_map.mp hp
    exact (e6 q hq).2
theorem dget_of {ps : List (Key × V × D)} {a : Addr} {y : V} {kd : D} (s : H a = some (.dK (ps.map fun p => (p.1, p.2.1)))) (rr : ∀ p ∈ ps, RD X F p.2.1 p.2.2) {G : Hp} (hy : RD X G y kd) (ha : atomK kd = true) :
    ∃ o, DGet H a y o ∧ ((lookD kd (ps.map fun p => kD p.1) (ps.map (·.2.2)) = none ∧ o = none) ∨ ∃ w d, lookD kd (ps.map fun p => kD p.1) (ps.map (·.2.2)) = some d ∧ o = some w ∧ RD X F w d) := by
  obtain ⟨k, rfl, rfl⟩ : ∃ k : Key, kd = kD k ∧ y = kV k := by
    cases kd <;> first | (cases ha; done) | skip
    · rename_i i
      exact ⟨.inl i, rfl, by cases hy; rfl⟩
    · rename_i s
      refine ⟨.inr ⟨s.toArray⟩, rfl, by cases hy; rfl⟩
  rcases look_dk k ps with ⟨h1, h2⟩ | ⟨p, hp, h1, h2⟩
  · exact ⟨none, .inl ⟨_, k, .inl s, rfl, h2.symm⟩, .inl ⟨h1, rfl⟩⟩
  · exact ⟨some p.2.1, .inl ⟨_, k, .inl s, rfl, h2.symm⟩, .inr ⟨_, _, h1, rfl, rr p hp⟩⟩
/-- a dict that is read at a key -/
theorem RD.dget {ks vs : List D} {y : V} {kd : D} (h : RD X F v (.dic ks vs)) (hy : RD X F y kd) (ha : atomK kd = true) : ∃ a o, v = .ref a ∧ DGet F a y o ∧ ((lookD kd ks vs = none ∧ o = none) ∨ ∃ w d, lookD kd ks vs = some d ∧ o = some w ∧ RD X F w d) := by
  obtain ⟨a, ps, rfl, rfl, s, rfl, rr⟩ := h.dic_eq
  obtain ⟨k, rfl, rfl⟩ : ∃ k : Key, kd = kD k ∧ y = kV k := by
    cases kd <;> first | (cases ha; done) | skip
    · rename_i i
      exact ⟨.inl i, rfl, by cases hy; rfl⟩
    · rename_i s
      refine ⟨.inr ⟨s.toArray⟩, rfl, by cases hy; rfl⟩
  rcases look_dk k ps with ⟨h1, h2⟩ | ⟨p, hp, h1, h2⟩
  · exact ⟨a, none, rfl, .inl ⟨_, k, .inl s, rfl, h2.symm⟩, .inl ⟨h1, rfl⟩⟩
  · exact ⟨a, some p.2.1, rfl, .inl ⟨_, k, .inl s, rfl, h2.symm⟩, .inr ⟨_, _, h1, rfl, rr p hp⟩⟩
theorem isEmpty_map {α β : Type} (l : List α) (f : α → β) : (l.map f).isEmpty = l.isEmpty := by cases l <;> rfl
theorem RD.tru {b : Bool} (h : RD X H v d) (e : truO d = some b) : TruV X.K v H b := by
  cases d <;> try (cases e; done)
  · cases e; rw [h.non_eq]; exact rfl
  · cases e; rw [h.bl_eq]; exact rfl
  · cases e; rw [h.int_eq]; exact rfl
  · rename_i s
    replace e : (if s.length ≤ lim then some (!s.isEmpty) else none) = some b := e
    split at e <;> cases e
    rename_i hl
    rw [h.str_eq]
    refine ⟨by rw [sV_length, ← line_lim]; exact hl, ?_⟩
    rw [sV_length]
    cases s <;> simp
    omega
  · cases e
    obtain ⟨a, ps, rfl, rfl, s, _⟩ := h.lst_eq
    exact .inl ⟨_, s, by rw [isEmpty_map, isEmpty_map]⟩
  · cases e
    obtain ⟨a, ps, rfl, rfl, s, _⟩ := h.tup_eq
    exact .inr (.inl ⟨_, s, by rw [isEmpty_map, isEmpty_map]⟩)
  · cases e
    obtain ⟨a, ps, rfl, rfl, s, rfl, _⟩ := h.dic_eq
    exact .inr (.inr ⟨_, s, by rw [isEmpty_map, isEmpty_map]⟩)
end

section
variable {c : Cf} {W : WX} {Γ : List Nat} {k k' ka kb : Kd} {σ : Sl} {ρ ρ' ρ1 ρ2 : Env} {H F H' F' H1 F1 H2 F2 : Hp} {A A' A1 A2 : Nat → List Addr} {v x y : V} {d d1 d2 : D} {B B1 B2 : List Addr} {q q1 q2 : Addr → Prop} {p p1 p2 : Bool}
/-- a value behind another part that is dropped -/
theorem Out.behind (m : Mid c Γ σ ρ H F A ρ1 H1 F1 A1 q1 p1) (o : Out c Γ kb σ ρ1 H1 F1 A1 ρ2 H2 F2 A2 v d B) (h1 : k.own = kb.own) (h2 : k.lv = kb.lv) (h3 : k.pu = true → p1 = true ∧ kb.pu = true) : Out c Γ k σ ρ H F A ρ2 H2 F2 A2 v d B :=
  ⟨(m.trans o.mid).weak (fun _ h => .inr (by rw [← h1]; exact h)) fun z => by rw [(h3 z).1, (h3 z).2]; rfl, by rw [h2]; exact o.ot, fun z => o.nd (by rw [← h1]; exact z), fun z => o.dj (by rw [← h1]; exact z)⟩
theorem Out.kind (o : Out c Γ ka σ ρ H F A ρ2 H2 F2 A2 v d B) (h1 : k.own = ka.own) (h2 : k.lv = ka.lv) (h3 : k.pu = true → ka.pu = true) : Out c Γ k σ ρ H F A ρ2 H2 F2 A2 v d B :=
  ⟨o.mid.weak (fun _ h => by rw [← h1]; exact h) h3, by rw [h2]; exact o.ot, fun z => o.nd (by rw [← h1]; exact z), fun z => o.dj (by rw [← h1]; exact z)⟩
end

section
variable {c : Cf} {W : WX} {Γ : List Nat} {Y : Cx} {e a b : Expr} {rest : List Expr} {pos : Pos} {k ka kb kc : Kd} {fa fb fc : Env → R (D × Env)} {n : Nat} {pa pb pc : Bool}

theorem sx_not (cx : Ctx c W Y) (ha : SX c W Γ ka Y a fa) :
    SX c W Γ (kA ka.pu) Y (.UnaryOp .Not a pos) (fun ρ => (fa ρ).bind fun p => (optR (truO p.1)).bind fun b => .ok (D.bl (!b), p.2)) :=
  PE.imp (pe_notT ha) fun σ H Q ⟨F, A, ρ, r, h⟩ => tX.one (g := fun d ρ1 => (optR (truO d)).bind fun b => .ok (D.bl (!b), ρ1)) r h fun x H1 F1 A1 d ρ1 B o h1 => by
    obtain ⟨b, e, h1⟩ := Run.opt h1
    replace h1 : Ends' c Γ (kA ka.pu) σ ρ H F A Q (.bl (!b), ρ1) := h1
    rw [cx.K]
    exact ⟨b, (o.ot.read o.rep.sub).tru e, h1 _ _ _ _ _ (o.mid.val (.bl _) (fun z => z) (.inr rfl))⟩
theorem sx_and (cx : Ctx c W Y) (ha : SX c W Γ ⟨true, pa, n⟩ Y a fa) (hb : SX c W Γ ⟨true, pb, n⟩ Y (.BoolOp .And (b :: rest) pos) fb) :
    SX c W Γ ⟨true, pa && pb, n⟩ Y (.BoolOp .And (a :: b :: rest) pos) (fun ρ => (fa ρ).bind fun p => (optR (truO p.1)).bind fun t => if t then fb p.2 else .ok p) :=
  PE.imp (pe_andT ha hb) fun σ H Q ⟨F, A, ρ, r, h⟩ => tX.one (g := fun d ρ1 => (optR (truO d)).bind fun t => if t then fb ρ1 else .ok (d, ρ1)) r h fun x H1 F1 A1 d ρ1 B o h1 => by
    obtain ⟨t, e, h1⟩ := Run.opt h1
    rw [cx.K]
    refine ⟨t, (o.ot.read o.rep.sub).tru e, ?_⟩
    cases t with
    | true =>
      replace h1 : Run c W σ H1 F1 (Own A1) (fb ρ1) _ := h1
      exact ⟨F1, A1, ρ1, o.rep, h1.imp fun p _ hp v H2 F2 A2 B2 o2 => hp v H2 F2 A2 B2 (Out.behind o.mid o2 rfl rfl fun z => by simpa using z)⟩
    | false =>
      replace h1 : Ends' c Γ ⟨true, pa && pb, n⟩ σ ρ H F A Q (d, ρ1) := h1
      exact h1 _ _ _ _ _ (o.kind rfl rfl fun z => (by simpa using z : pa = true ∧ pb = true).1)
theorem sx_or (cx : Ctx c W Y) (ha : SX c W Γ ⟨true, pa, n⟩ Y a fa) (hb : SX c W Γ ⟨true, pb, n⟩ Y (.BoolOp .Or (b :: rest) pos) fb) :
    SX c W Γ ⟨true, pa && pb, n⟩ Y (.BoolOp .Or (a :: b :: rest) pos) (fun ρ => (fa ρ).bind fun p => (optR (truO p.1)).bind fun t => if t then .ok p else fb p.2) :=
  PE.imp (pe_orT ha hb) fun σ H Q ⟨F, A, ρ, r, h⟩ => tX.one (g := fun d ρ1 => (optR (truO d)).bind fun t => if t then .ok (d, ρ1) else fb ρ1) r h fun x H1 F1 A1 d ρ1 B o h1 => by
    obtain ⟨t, e, h1⟩ := Run.opt h1
    rw [cx.K]
    refine ⟨t, (o.ot.read o.rep.sub).tru e, ?_⟩
    cases t with
    | false =>
      replace h1 : Run c W σ H1 F1 (Own A1) (fb ρ1) _ := h1
      exact ⟨F1, A1, ρ1, o.rep, h1.imp fun p _ hp v H2 F2 A2 B2 o2 => hp v H2 F2 A2 B2 (Out.behind o.mid o2 rfl rfl fun z => by simpa using z)⟩
    | true =>
      replace h1 : Ends' c Γ ⟨true, pa && pb, n⟩ σ ρ H F A Q (d, ρ1) := h1
      exact h1 _ _ _ _ _ (o.kind rfl rfl fun z => (by simpa using z : pa = true ∧ pb = true).1)
theorem sx_boolone {op} (ha : SX c W Γ k Y a fa) : SX c W Γ k Y (.BoolOp op [a] pos) fa := pe_one ha

/-! ### tests -/
def tX2 (c : Cf) (W : WX) (Γ : List Nat) (pu : Bool) (f : Env → R (Bool × Env)) : TT := fun σ H Q =>
  ∃ F A ρ, Rep c.X Γ ρ σ H F A ∧ Run c W σ H F (Own A) (f ρ) fun p => ∀ H' F' A', Mid c Γ σ ρ H F A p.2 H' F' A' (fun _ => False) pu → Q p.1 H'
/-- a test: as a condition -/
abbrev SC (c : Cf) (W : WX) (Γ : List Nat) (pu : Bool) (Y : Cx) (e : Expr) (f : Env → R (Bool × Env)) : Prop := PT Y e (tX2 c W Γ pu f)
theorem PT.imp {Y : Cx} {e : Expr} {t u : TT} (h : PT Y e t) (i : ∀ σ H Q, u σ H Q → t σ H Q) : PT Y e u := ⟨fun pins s σ H Q I z => h.run pins s σ H Q I (i σ H Q z)⟩
theorem PW.imp {Y : Cx} {e : Expr} {t u : TT} (h : PW Y e t) (i : ∀ σ H Q, u σ H Q → t σ H Q) : PW Y e u := ⟨fun wh pins s σ H Q I z => h.run wh pins s σ H Q I (i σ H Q z)⟩
/-- the value's truth -/
abbrev truF (f : Env → R (D × Env)) : Env → R (Bool × Env) := fun ρ => (f ρ).bind fun p => (optR (truO p.1)).bind fun t => .ok (t, p.2)
theorem sc_val (cx : Ctx c W Y) (ha : SX c W Γ ka Y a fa) (he : ∀ whole, isTrue a Y.env whole = (do let v ← whole; standAt a.pos; holding [v] (truthy v))) : SC c W Γ ka.pu Y a (truF fa) :=
  PT.imp (pt_truth ha he) fun σ H Q ⟨F, A, ρ, r, h⟩ => tX.one (g := fun d ρ1 => (optR (truO d)).bind fun b => .ok (b, ρ1)) r h fun x H1 F1 A1 d ρ1 B o h1 => by
    obtain ⟨b, e, h1⟩ := Run.opt h1
    rw [cx.K]
    exact ⟨b, (o.ot.read o.rep.sub).tru e, h1 _ _ _ (o.mid.weak (fun _ z => z.elim) fun z => z)⟩

/-- a comparison's rule -/
def CmpR (c : Cf) (Y : Cx) (op : CmpOp) (n m : Nat) (g : D → D → Option Bool) : Prop :=
  ∃ r, OpR Y (compareOp op) r ∧ ∀ (H F : Hp) (x y : V) (d1 d2 : D) (b : Bool) (A B : List Addr), Sub F H → OT c.X H F n x d1 A → OT c.X H F m y d2 B → g d1 d2 = some b → ∀ Q : VK, Q (.bl b) H → r x y H Q
theorem sx_cmp {op : CmpOp} {g : D → D → Option Bool} (hr : CmpR c Y op ka.lv kb.lv g) (hm : behindInMarks op b = false) (ha : SX c W Γ ka Y a fa) (hb : SX c W Γ kb Y b fb) (hc : ka.own = true ∨ kb.pu = true) :
    SX c W Γ (kA (ka.pu && kb.pu)) Y (.Compare a [op] [b] pos) (fun ρ => (fa ρ).bind fun p => (fb p.2).bind fun q => (optR (g p.1 q.1)).bind fun d => .ok (D.bl d, q.2)) := by
  obtain ⟨r, ho, hr⟩ := hr
  exact PE.imp (pe_cmpR ho ha hb hm) fun σ H Q ⟨F, A, ρ, rp, h⟩ => tX.two (g := fun d1 d2 ρ2 => (optR (g d1 d2)).bind fun d => .ok (D.bl d, ρ2)) hc rp h fun x y H2 F2 A2 d1 d2 ρ2 B1 B2 t h2 => by
    obtain ⟨d, e, h2⟩ := Run.opt h2
    replace h2 : Ends' c Γ (kA (ka.pu && kb.pu)) σ ρ H F A Q (.bl d, ρ2) := h2
    exact hr H2 F2 x y d1 d2 d _ _ t.mid.rep.sub t.o1 t.o2 e _ (h2 _ _ _ _ _ (t.mid.val (.bl _) (fun z => z) (.inr rfl)))
theorem sc_cmp {op : CmpOp} {g : D → D → Option Bool} (hr : CmpR c Y op ka.lv kb.lv g) (hm : behindInMarks op b = false) (ha : SX c W Γ ka Y a fa) (hb : SX c W Γ kb Y b fb) (hc : ka.own = true ∨ kb.pu = true) :
    SC c W Γ (ka.pu && kb.pu) Y (.Compare a [op] [b] pos) (truF fun ρ => (fa ρ).bind fun p => (fb p.2).bind fun q => (optR (g p.1 q.1)).bind fun d => .ok (D.bl d, q.2)) := by
  obtain ⟨r, ho, hr⟩ := hr
  refine PT.imp (pt_cmpR ho ha hb hm) fun σ H Q ⟨F, A, ρ, rp, h⟩ => ?_
  replace h : Run c W σ H F (Own A) ((fa ρ).bind fun p => (fb p.2).bind fun q => (optR (g p.1 q.1)).bind fun d => .ok (d, q.2)) fun p => ∀ H' F' A', Mid c Γ σ ρ H F A p.2 H' F' A' (fun _ => False) (ka.pu && kb.pu) → Q p.1 H' := by
    have e : ∀ ρ, ((fa ρ).bind fun p => (fb p.2).bind fun q => (optR (g p.1 q.1)).bind fun d => .ok (D.bl d, q.2)).bind (fun p : D × Env => (optR (truO p.1)).bind fun t => .ok (t, p.2)) = ((fa ρ).bind fun p => (fb p.2).bind fun q => (optR (g p.1 q.1)).bind fun d => .ok (d, q.2)) := by
      intro ρ
      cases fa ρ with
      | error e => rfl
      | ok p =>
        show ((fb p.2).bind _).bind _ = (fb p.2).bind _
        cases fb p.2 with
        | error e => rfl
        | ok q =>
          show ((optR (g p.1 q.1)).bind _).bind _ = (optR (g p.1 q.1)).bind _
          cases g p.1 q.1 <;> rfl
    rw [← e]; exact h
  exact tX.two (g := fun d1 d2 ρ2 => (optR (g d1 d2)).bind fun d => .ok (d, ρ2)) hc rp h fun x y H2 F2 A2 d1 d2 ρ2 B1 B2 t h2 => by
    obtain ⟨d, e, h2⟩ := Run.opt h2
    replace h2 : ∀ H' F' A', Mid c Γ σ ρ H F A ρ2 H' F' A' (fun _ => False) (ka.pu && kb.pu) → Q d H' := h2
    exact hr H2 F2 x y d1 d2 d _ _ t.mid.rep.sub t.o1 t.o2 e _ ⟨d, rfl, h2 _ _ _ (t.mid.weak (fun _ z => z.elim) fun z => z)⟩
/-- a test seen as one -/
theorem tX2.seq {Γ : List Nat} {pu : Bool} {f : Env → R (Bool × Env)} {σ : Sl} {H F : Hp} {A : Nat → List Addr} {ρ : Env} {β : Type} {g : Bool → Env → R β} {ok : β → Prop} {Rr : Bool → Hp → Prop} (r : Rep c.X Γ ρ σ H F A)
    (h : Run c W σ H F (Own A) ((f ρ).bind fun p => g p.1 p.2) ok)
    (k : ∀ b H1 F1 A1 ρ1, Mid c Γ σ ρ H F A ρ1 H1 F1 A1 (fun _ => False) pu → Run c W σ H1 F1 (Own A1) (g b ρ1) ok → Rr b H1) : tX2 c W Γ pu f σ H Rr :=
  ⟨F, A, ρ, r, h.bind.imp fun p _ hp H' F' A' m => k p.1 H' F' A' p.2 m (hp.at m.nx0 fun _ z => z)⟩
theorem bind_assoc {α β γ : Type} (m : R α) (f : α → R β) (g : β → R γ) : (m.bind f).bind g = m.bind fun a => (f a).bind g := by cases m <;> rfl
theorem bind_ok {α β : Type} (a : α) (f : α → R β) : (Except.ok a : R α).bind f = f a := rfl
theorem sc_not (h : SC c W Γ pa Y a (truF fa)) : SC c W Γ pa Y (.UnaryOp .Not a pos) (truF fun ρ => (fa ρ).bind fun p => (optR (truO p.1)).bind fun b => .ok (D.bl (!b), p.2)) :=
  PT.imp (pt_not h) fun σ H Q ⟨F, A, ρ, r, h⟩ => by
    replace h : Run c W σ H F (Own A) ((truF fa ρ).bind fun p => .ok (!p.1, p.2)) fun p => ∀ H' F' A', Mid c Γ σ ρ H F A p.2 H' F' A' (fun _ => False) pa → Q p.1 H' := by
      have e : ((fa ρ).bind fun p => (optR (truO p.1)).bind fun b => .ok (D.bl (!b), p.2)).bind (fun p : D × Env => (optR (truO p.1)).bind fun t => .ok (t, p.2)) = (truF fa ρ).bind fun p => .ok (!p.1, p.2) := by
        unfold truF
        cases fa ρ with
        | error e => rfl
        | ok p =>
          show ((optR (truO p.1)).bind _).bind _ = ((optR (truO p.1)).bind _).bind _
          cases truO p.1 <;> rfl
      rw [← e]; exact h
    exact tX2.seq (g := fun b ρ1 => .ok (!b, ρ1)) r h fun b H1 F1 A1 ρ1 m h1 => by
      replace h1 : ∀ H' F' A', Mid c Γ σ ρ H F A ρ1 H' F' A' (fun _ => False) pa → Q (!b) H' := h1
      exact h1 _ _ _ m
theorem sc_and (cx : Ctx c W Y) (ha : SC c W Γ pa Y a (truF fa)) (hb : PW Y (.BoolOp .And (b :: rest) pos) (tX2 c W Γ pb (truF fb))) :
    PW Y (.BoolOp .And (a :: b :: rest) pos) (tX2 c W Γ (pa && pb) (truF fun ρ => (fa ρ).bind fun p => (optR (truO p.1)).bind fun t => if t then fb p.2 else .ok p)) :=
  PW.imp (pw_and ha hb) fun σ H Q ⟨F, A, ρ, r, h⟩ => by
    replace h : Run c W σ H F (Own A) ((truF fa ρ).bind fun p => if p.1 then truF fb p.2 else .ok (false, p.2)) fun p => ∀ H' F' A', Mid c Γ σ ρ H F A p.2 H' F' A' (fun _ => False) (pa && pb) → Q p.1 H' := by
      have e : ((fa ρ).bind fun p => (optR (truO p.1)).bind fun t => if t then fb p.2 else .ok p).bind (fun p : D × Env => (optR (truO p.1)).bind fun t => .ok (t, p.2)) = (truF fa ρ).bind fun p => if p.1 then truF fb p.2 else .ok (false, p.2) := by
        unfold truF
        cases fa ρ with
        | error e => rfl
        | ok p =>
          show ((optR (truO p.1)).bind _).bind _ = ((optR (truO p.1)).bind _).bind _
          cases et : truO p.1 with
          | none => rfl
          | some t =>
            cases t with
            | true => rfl
            | false => show (optR (truO p.1)).bind _ = _; rw [et]; rfl
      rw [← e]; exact h
    exact tX2.seq (pu := pa) (g := fun b ρ1 => if b then truF fb ρ1 else .ok (false, ρ1)) r h fun b H1 F1 A1 ρ1 m h1 => by
      cases b with
      | true =>
        replace h1 : Run c W σ H1 F1 (Own A1) (truF fb ρ1) _ := h1
        exact ⟨F1, A1, ρ1, m.rep, h1.imp fun p _ hp H2 F2 A2 m2 => hp H2 F2 A2 ((m.trans m2).weak (fun _ z => z.elim) fun z => z)⟩
      | false =>
        replace h1 : ∀ H' F' A', Mid c Γ σ ρ H F A ρ1 H' F' A' (fun _ => False) (pa && pb) → Q false H' := h1
        exact h1 _ _ _ (m.weak (fun _ z => z) fun z => (by simpa using z : pa = true ∧ pb = true).1)
theorem sc_or (cx : Ctx c W Y) (ha : SC c W Γ pa Y a (truF fa)) (hb : PW Y (.BoolOp .Or (b :: rest) pos) (tX2 c W Γ pb (truF fb))) :
    PW Y (.BoolOp .Or (a :: b :: rest) pos) (tX2 c W Γ (pa && pb) (truF fun ρ => (fa ρ).bind fun p => (optR (truO p.1)).bind fun t => if t then .ok p else fb p.2)) :=
  PW.imp (pw_or ha hb) fun σ H Q ⟨F, A, ρ, r, h⟩ => by
    replace h : Run c W σ H F (Own A) ((truF fa ρ).bind fun p => if p.1 then .ok (true, p.2) else truF fb p.2) fun p => ∀ H' F' A', Mid c Γ σ ρ H F A p.2 H' F' A' (fun _ => False) (pa && pb) → Q p.1 H' := by
      have e : ((fa ρ).bind fun p => (optR (truO p.1)).bind fun t => if t then .ok p else fb p.2).bind (fun p : D × Env => (optR (truO p.1)).bind fun t => .ok (t, p.2)) = (truF fa ρ).bind fun p => if p.1 then .ok (true, p.2) else truF fb p.2 := by
        unfold truF
        cases fa ρ with
        | error e => rfl
        | ok p =>
          show ((optR (truO p.1)).bind _).bind _ = ((optR (truO p.1)).bind _).bind _
          cases et : truO p.1 with
          | none => rfl
          | some t =>
            cases t with
            | false => rfl
            | true => show (optR (truO p.1)).bind _ = _; rw [et]; rfl
      rw [← e]; exact h
    exact tX2.seq (pu := pa) (g := fun b ρ1 => if b then .ok (true, ρ1) else truF fb ρ1) r h fun b H1 F1 A1 ρ1 m h1 => by
      cases b with
      | false =>
        replace h1 : Run c W σ H1 F1 (Own A1) (truF fb ρ1) _ := h1
        exact ⟨F1, A1, ρ1, m.rep, h1.imp fun p _ hp H2 F2 A2 m2 => hp H2 F2 A2 ((m.trans m2).weak (fun _ z => z.elim) fun z => z)⟩
      | true =>
        replace h1 : ∀ H' F' A', Mid c Γ σ ρ H F A ρ1 H' F' A' (fun _ => False) (pa && pb) → Q true H' := h1
        exact h1 _ _ _ (m.weak (fun _ z => z) fun z => (by simpa using z : pa = true ∧ pb = true).1)
/-- a if c else b -/
theorem sx_ite {e₀ : Expr} (hc : SC c W Γ pc Y e₀ (truF fc)) (ha : SX c W Γ ⟨true, pa, n⟩ Y a fa) (hb : SX c W Γ ⟨true, pb, n⟩ Y b fb) :
    SX c W Γ ⟨true, pc && (pa && pb), n⟩ Y (.IfExp e₀ a b pos) (fun ρ => (fc ρ).bind fun p => (optR (truO p.1)).bind fun t => if t then fa p.2 else fb p.2) :=
  PE.imp (pe_ifExp hc ha hb) fun σ H Q ⟨F, A, ρ, r, h⟩ => by
    replace h : Run c W σ H F (Own A) ((truF fc ρ).bind fun p => if p.1 then fa p.2 else fb p.2) (Ends' c Γ ⟨true, pc && (pa && pb), n⟩ σ ρ H F A Q) := by
      have e : ((fc ρ).bind fun p => (optR (truO p.1)).bind fun t => if t then fa p.2 else fb p.2) = (truF fc ρ).bind fun p => if p.1 then fa p.2 else fb p.2 := by
        unfold truF
        cases fc ρ with
        | error e => rfl
        | ok p =>
          show (optR (truO p.1)).bind _ = ((optR (truO p.1)).bind _).bind _
          cases truO p.1 <;> rfl
      rw [← e]; exact h
    exact tX2.seq (pu := pc) (g := fun b ρ1 => if b then fa ρ1 else fb ρ1) r h fun b H1 F1 A1 ρ1 m h1 => by
      cases b with
      | true =>
        replace h1 : Run c W σ H1 F1 (Own A1) (fa ρ1) _ := h1
        exact ⟨F1, A1, ρ1, m.rep, h1.imp fun p _ hp v H2 F2 A2 B2 o2 => hp v H2 F2 A2 B2 (Out.behind m o2 rfl rfl fun z => by
          have z : (pc = true ∧ pa = true ∧ pb = true) := by simpa using z
          exact ⟨z.1, z.2.1⟩)⟩
      | false =>
        replace h1 : Run c W σ H1 F1 (Own A1) (fb ρ1) _ := h1
        exact ⟨F1, A1, ρ1, m.rep, h1.imp fun p _ hp v H2 F2 A2 B2 o2 => hp v H2 F2 A2 B2 (Out.behind m o2 rfl rfl fun z => by
          have z : (pc = true ∧ pa = true ∧ pb = true) := by simpa using z
          exact ⟨z.1, z.2.2⟩)⟩
end
end Pz
end
section
set_option Elab.async false
set_option linter.all false
/-! What reads as data reads so in the library's sense; order of data. -/
namespace Pz
open PySem PySem.Spec PyProof.Rows L2

theorem toPyL_map : ∀ l : List D, toPyL l = l.map toPy
  | [] => rfl
  | d :: l => congrArg (toPy d :: ·) (toPyL_map l)
theorem toPyL_len (l : List D) : (toPyL l).length = l.length := by rw [toPyL_map, List.length_map]
mutual
theorem okD_plain : ∀ (d : D) (n : Nat), okD n d = true → (toPy d).plain = true ∧ (toPy d).depth ≤ n
  | .non, _, _ => ⟨rfl, Nat.zero_le _⟩
  | .bl _, _, _ => ⟨rfl, Nat.zero_le _⟩
  | .int _, _, _ => ⟨rfl, Nat.zero_le _⟩
  | .str s, n, h => ⟨rfl, Nat.zero_le _⟩
  | .lst l, 0, h => by cases h
  | .lst l, n + 1, h => ⟨(okL_plain l n h).1, Nat.succ_le_succ (okL_plain l n h).2⟩
  | .tup l, 0, h => by cases h
  | .tup l, n + 1, h => ⟨(okL_plain l n h).1, Nat.succ_le_succ (okL_plain l n h).2⟩
  | .dic _ _, _, h => by cases h
  | .set _, _, h => by cases h
  | .fn _, _, h => by cases h
  | .exc _ _, _, h => by cases h
theorem okL_plain : ∀ (l : List D) (n : Nat), okL n l = true → PyData.plainAll (toPyL l) = true ∧ PyData.depthAll (toPyL l) ≤ n
  | [], _, _ => ⟨rfl, Nat.zero_le _⟩
  | d :: l, n, h => by
    replace h : (okD n d && okL n l) = true := h
    rw [Bool.and_eq_true] at h
    have h1 := okD_plain d n h.1
    have h2 := okL_plain l n h.2
    refine ⟨?_, ?_⟩
    · show ((toPy d).plain && PyData.plainAll (toPyL l)) = true
      rw [h1.1, h2.1]; rfl
    · show max _ _ ≤ n
      omega
end
theorem str_beq (s t : List Nat) : ((⟨s.toArray⟩ : Str) == ⟨t.toArray⟩) = (s == t) := by
  by_cases h : s = t
  · subst h; simp
  · have : (⟨s.toArray⟩ : Str) ≠ ⟨t.toArray⟩ := fun e => h (by injection e with e; simpa using e)
    have h2 : (s == t) = false := by simpa using h
    rw [h2]
    exact beq_eq_false_iff_ne.mpr this
mutual
theorem eqv_toPy : ∀ (d e : D) (n m : Nat), okD n d = true → okD m e = true → PyData.eqv (toPy d) (toPy e) = eqD d e
  | .non, e, n, m, _, h => by cases e <;> first | rfl | (cases h; done)
  | .bl b, e, n, m, _, h => by cases e <;> first | rfl | (cases h; done)
  | .int i, e, n, m, _, h => by cases e <;> first | rfl | (cases h; done)
  | .str s, e, n, m, _, h => by
    cases e <;> first | rfl | (cases h; done) | skip
    exact str_beq _ _
  | .lst l, e, 0, m, h, _ => by cases h
  | .lst l, e, n + 1, 0, h, h' => by cases e <;> first | rfl | (cases h'; done)
  | .lst l, e, n + 1, m + 1, h, h' => by
    cases e <;> first | rfl | (cases h'; done) | skip
    exact eqvL_toPy l _ n m h h'
  | .tup l, e, 0, m, h, _ => by cases h
  | .tup l, e, n + 1, 0, h, h' => by cases e <;> first | rfl | (cases h'; done)
  | .tup l, e, n + 1, m + 1, h, h' => by
    cases e <;> first | rfl | (cases h'; done) | skip
    exact eqvL_toPy l _ n m h h'
  | .dic _ _, _, _, _, h, _ => by cases h
  | .set _, _, _, _, h, _ => by cases h
  | .fn _, _, _, _, h, _ => by cases h
  | .exc _ _, _, _, _, h, _ => by cases h
theorem eqvL_toPy : ∀ (l k : List D) (n m : Nat), okL n l = true → okL m k = true → PyData.eqvAll (toPyL l) (toPyL k) = eqL l k
  | [], [], _, _, _, _ => rfl
  | [], _ :: _, _, _, _, _ => rfl
  | _ :: _, [], _, _, _, _ => rfl
  | d :: l, e :: k, n, m, h, h' => by
    replace h : (okD n d && okL n l) = true := h
    replace h' : (okD m e && okL m k) = true := h'
    rw [Bool.and_eq_true] at h h'
    show (PyData.eqv (toPy d) (toPy e) && PyData.eqvAll (toPyL l) (toPyL k)) = (eqD d e && eqL l k)
    rw [eqv_toPy d e n m h.1 h'.1, eqvL_toPy l k n m h.2 h'.2]
end
/-! ### Reads -/
inductive RDL (X : Tx) (H : Hp) : List V → List D → Prop
  | nil : RDL X H [] []
  | cons {v d vs ds} : RD X H v d → RDL X H vs ds → RDL X H (v :: vs) (d :: ds)
theorem rdl_of {X : Tx} {H : Hp} : ∀ {ps : List (V × D)}, (∀ p ∈ ps, RD X H p.1 p.2) → RDL X H (ps.map (·.1)) (ps.map (·.2))
  | [], _ => .nil
  | p :: ps, h => .cons (h p List.mem_cons_self) (rdl_of fun q hq => h q (List.mem_cons_of_mem _ hq))
theorem rdl_ps {X : Tx} {H : Hp} {vs : List V} {ds : List D} (h : RDL X H vs ds) : ∃ ps : List (V × D), vs = ps.map (·.1) ∧ ds = ps.map (·.2) ∧ ∀ p ∈ ps, RD X H p.1 p.2 := by
  induction h with
  | nil => exact ⟨[], rfl, rfl, fun _ h => absurd h (by simp)⟩
  | @cons v d vs ds r _ ih =>
    obtain ⟨ps, e1, e2, e3⟩ := ih
    exact ⟨(v, d) :: ps, by rw [e1]; rfl, by rw [e2]; rfl, fun p hp => (List.mem_cons.mp hp).elim (fun e => e ▸ r) (e3 p)⟩
section
variable {X : Tx} {Y : Cx} {pins : List (Addr × Obj)} {σ : Sl} {H : Hp} {s : Shared}
mutual
theorem RD.readsP (I : Inv Y pins σ H s) (hK : Y.K = X.K) : ∀ (d : D) (n : Nat) (v : V) (u : Value), okD n d = true → RD X H v d → RelV v u → ∃ as, Reads s.heap u (toPy d) as
  | .non, _, _, _, _, h, r => by rw [h.non_eq] at r; cases r; exact ⟨_, Reads.none⟩
  | .bl b, _, _, _, _, h, r => by rw [h.bl_eq] at r; cases r; exact ⟨_, Reads.bool b⟩
  | .int i, _, _, _, _, h, r => by rw [h.int_eq] at r; obtain ⟨t, rfl⟩ := r; exact ⟨_, Reads.int i t⟩
  | .str i, _, _, _, _, h, r => by rw [h.str_eq] at r; obtain ⟨t, rfl⟩ := r; exact ⟨_, Reads.str _ t⟩
  | .lst l, 0, _, _, n, _, _ => by cases n
  | .lst l, m + 1, _, _, n, h, r => by
    obtain ⟨a, ps, rfl, e, sq, rr⟩ := h.lst_eq
    cases r
    obtain ⟨its, rv, ⟨o, k, ho, hc, _, hd⟩, _⟩ := I.list (hK ▸ sq)
    obtain ⟨as, hr⟩ := RD.readsLP I hK l m (ps.map (·.1)) its n (e ▸ rdl_of rr) rv
    exact ⟨_, Reads.list ho hc hd hr⟩
  | .tup l, 0, _, _, n, _, _ => by cases n
  | .tup l, m + 1, _, _, n, h, r => by
    obtain ⟨a, ps, rfl, e, sq, rr⟩ := h.tup_eq
    cases r
    obtain ⟨its, rv, ⟨o, ho, hc, k, hd⟩, _⟩ := I.tuple (hK ▸ sq)
    obtain ⟨as, hr⟩ := RD.readsLP I hK l m (ps.map (·.1)) its n (e ▸ rdl_of rr) rv
    exact ⟨_, Reads.tuple ho hc hd hr⟩
  | .dic _ _, _, _, _, n, _, _ => by cases n
  | .set _, _, _, _, n, _, _ => by cases n
  | .fn _, _, _, _, n, _, _ => by cases n
  | .exc _ _, _, _, _, n, _, _ => by cases n
theorem RD.readsLP (I : Inv Y pins σ H s) (hK : Y.K = X.K) : ∀ (l : List D) (n : Nat) (vs : List V) (us : List Value), okL n l = true → RDL X H vs l → Vals vs us → ∃ as, ReadsAll s.heap us (toPyL l) as
  | [], _, _, _, _, h, r => by cases h; cases r; exact ⟨_, .nil⟩
  | d :: l, m, _, _, n, h, r => by
    cases h with
    | cons h1 h2 =>
      cases r with
      | cons r1 r2 =>
        replace n : (okD m d && okL m l) = true := n
        rw [Bool.and_eq_true] at n
        obtain ⟨as, q1⟩ := RD.readsP I hK d m _ _ n.1 h1 r1
        obtain ⟨bs, q3⟩ := RD.readsLP I hK l m _ _ n.2 h2 r2
        exact ⟨_, ReadsAll.cons q1 q3⟩
end
end

/-! ### order -/
mutual
theorem alike_toPy : ∀ d e : D, alk d e = true → PySem.W.alike (toPy d) (toPy e) = true
  | .non, e, h => by cases e <;> first | rfl | (cases h; done)
  | .bl _, e, h => by cases e <;> first | rfl | (cases h; done)
  | .int _, e, h => by cases e <;> first | rfl | (cases h; done)
  | .str _, e, h => by cases e <;> first | rfl | (cases h; done)
  | .lst l, e, h => by
    cases e <;> first | (cases h; done) | skip
    exact alikeL_toPy l _ h
  | .tup l, e, h => by
    cases e <;> first | (cases h; done) | skip
    exact alikeL_toPy l _ h
  | .dic _ _, _, h => by cases h
  | .set _, _, h => by cases h
  | .fn _, _, h => by cases h
  | .exc _ _, _, h => by cases h
theorem alikeL_toPy : ∀ l m : List D, alkL l m = true → PySem.W.alikeAll (toPyL l) (toPyL m) = true
  | [], [], _ => rfl
  | [], _ :: _, _ => rfl
  | _ :: _, [], _ => rfl
  | d :: l, e :: m, h => by
    replace h : (alk d e && alkL l m) = true := h
    rw [Bool.and_eq_true] at h
    show (PySem.W.alike (toPy d) (toPy e) && PySem.W.alikeAll (toPyL l) (toPyL m)) = true
    rw [alike_toPy d e h.1, alikeL_toPy l m h.2]; rfl
end
mutual
theorem alk_comm : ∀ d e : D, alk d e = alk e d
  | .non, e => by cases e <;> rfl
  | .bl _, e => by cases e <;> rfl
  | .int _, e => by cases e <;> rfl
  | .str _, e => by cases e <;> rfl
  | .lst l, e => by
    cases e <;> first | rfl | skip
    exact alkL_comm l _
  | .tup l, e => by
    cases e <;> first | rfl | skip
    exact alkL_comm l _
  | .dic _ _, e => by cases e <;> rfl
  | .set _, e => by cases e <;> rfl
  | .fn _, e => by cases e <;> rfl
  | .exc _ _, e => by cases e <;> rfl
theorem alkL_comm : ∀ l m : List D, alkL l m = alkL m l
  | [], [] => rfl
  | [], _ :: _ => rfl
  | _ :: _, [] => rfl
  | d :: l, e :: m => by
    show (alk d e && alkL l m) = (alk e d && alkL m l)
    rw [alk_comm d e, alkL_comm l m]
end
theorem lexNil (l : List (Int ⊕ List Nat)) : True := trivial
mutual
theorem dataLt_toPy : ∀ (d e : D) (n m : Nat), okD n d = true → okD m e = true → alk d e = true → d ≠ .non → PySem.W.dataLt (toPy d) (toPy e) = ltT d e
  | .non, _, _, _, _, _, _, z => absurd rfl z
  | .bl a, e, _, _, _, _, h, _ => by
    cases e <;> first | (cases h; done) | skip
    exact (PySem.W.dataLt_bool a _).trans (by simp only [ltT]; cases a <;> rename_i b _ _ <;> cases b <;> rfl)
  | .int a, e, _, _, _, _, h, _ => by
    cases e <;> first | (cases h; done) | skip
    exact PySem.W.dataLt_int _ _
  | .str a, e, _, _, _, _, h, _ => by
    cases e <;> first | (cases h; done) | skip
    refine (PySem.W.dataLt_str _ _).trans ?_
    simp [ltT]
  | .lst l, e, n, m, k1, k2, h, _ => by
    cases e <;> first | (cases h; done) | skip
    cases n <;> first | (cases k1; done) | skip
    cases m <;> first | (cases k2; done) | skip
    exact (PySem.W.dataLt_list _ _).trans (dataLtL_toPy l _ _ _ k1 k2 h)
  | .tup l, e, n, m, k1, k2, h, _ => by
    cases e <;> first | (cases h; done) | skip
    cases n <;> first | (cases k1; done) | skip
    cases m <;> first | (cases k2; done) | skip
    exact (PySem.W.dataLt_tuple _ _).trans (dataLtL_toPy l _ _ _ k1 k2 h)
  | .dic _ _, _, _, _, h, _, _, _ => by cases h
  | .set _, _, _, _, h, _, _, _ => by cases h
  | .fn _, _, _, _, h, _, _, _ => by cases h
  | .exc _ _, _, _, _, h, _, _, _ => by cases h
theorem dataLtL_toPy : ∀ (l k : List D) (n m : Nat), okL n l = true → okL m k = true → alkL l k = true → PyProof.Rows.lexLt itemOrd (PySem.W.keyToksAll (toPyL l)) (PySem.W.keyToksAll (toPyL k)) = ltTL l k
  | [], [], _, _, _, _, _ => by decide
  | [], e :: k, _, _, _, _, _ => by
    show PyProof.Rows.lexLt itemOrd [Sum.inl 0] (PySem.W.keyToksAll (toPy e :: toPyL k)) = true
    rw [PySem.W.toks_all_cons]
    rfl
  | d :: l, [], _, _, _, _, _ => by
    show PyProof.Rows.lexLt itemOrd (PySem.W.keyToksAll (toPy d :: toPyL l)) [Sum.inl 0] = false
    rw [PySem.W.toks_all_cons]
    rfl
  | d :: l, e :: k, n, m, k1, k2, h => by
    replace h : (alk d e && alkL l k) = true := h
    replace k1 : (okD n d && okL n l) = true := k1
    replace k2 : (okD m e && okL m k) = true := k2
    rw [Bool.and_eq_true] at h k1 k2
    show PyProof.Rows.lexLt itemOrd (PySem.W.keyToksAll (toPy d :: toPyL l)) (PySem.W.keyToksAll (toPy e :: toPyL k)) = if eqD d e then ltTL l k else ltT d e
    have al := alike_toPy d e h.1
    have ev := eqv_toPy d e n m k1.1 k2.1
    by_cases q : eqD d e = true
    · rw [if_pos q, PySem.W.dataLt_all_yes al (ev.trans q)]
      exact dataLtL_toPy l k n m k1.2 k2.2 h.2
    · have q' : eqD d e = false := by simpa using q
      rw [if_neg q, PySem.W.dataLt_all_no al (ev.trans q')]
      have hn : d ≠ .non := fun z => by
        subst z
        cases e <;> first | (cases h.1; done) | exact q rfl
      exact dataLt_toPy d e n m k1.1 k2.1 h.1 hn
end
end Pz
end
section
set_option Elab.async false
set_option linter.all false
/-! The comparisons. -/
namespace Pz
open PySem PySem.Spec PyProof.Rows L2

section
variable {c : Cf} {W : WX} {Y : Cx} {n m : Nat} {X : Tx}
/-- a comparison of what is read -/
def rD (X : Tx) (g : D → D → Option Bool) : R2 := fun x y H Q => ∃ d e b, RD X H x d ∧ RD X H y e ∧ g d e = some b ∧ Q (.bl b) H
theorem CmpR.of {op : CmpOp} {g : D → D → Option Bool} (h : OpR Y (compareOp op) (rD c.X g)) : CmpR c Y op n m g :=
  ⟨_, h, fun H F x y d1 d2 b A B s o1 o2 e Q q => ⟨d1, d2, b, o1.read s, o2.read s, e, q⟩⟩
theorem ite_some {α : Type} {p : Bool} {a b : α} (h : (if p then some a else none) = some b) : p = true ∧ a = b := by
  cases p with
  | true => exact ⟨rfl, Option.some.inj h⟩
  | false => cases h
theorem op_eqR (hK : Y.K = X.K) (hu : Y.A.units + 65 < cLine) : OpR Y (compareOp .Eq) (rD X (cmpB .eq)) := by
  intro pins s σ H x y v u Q I rx ry ⟨d, e, b, r1, r2, h, q⟩
  obtain ⟨h0, rfl⟩ := ite_some (show (if okD 60 d && okD 60 e then some (eqD d e) else none) = some b from h)
  rw [Bool.and_eq_true] at h0
  obtain ⟨as, q1⟩ := r1.readsP I hK d 60 x v h0.1 rx
  obtain ⟨bs, q2⟩ := r2.readsP I hK e 60 y u h0.2 ry
  have p1 := okD_plain d 60 h0.1
  have p2 := okD_plain e 60 h0.2
  exact SeqAt.eq_plain q1 q2 p1.1 p2.1 (by omega) ⟨.bl _, H, I, by rw [eqv_toPy d e 60 60 h0.1 h0.2]; rfl, q⟩
theorem op_neR (hK : Y.K = X.K) (hu : Y.A.units + 65 < cLine) : OpR Y (compareOp .NotEq) (rD X (cmpB .ne)) := by
  intro pins s σ H x y v u Q I rx ry ⟨d, e, b, r1, r2, h, q⟩
  obtain ⟨b', h1, rfl⟩ := Option.map_eq_some_iff.mp (show (eqO d e).map (!·) = some b from h)
  obtain ⟨h0, rfl⟩ := ite_some (show (if okD 60 d && okD 60 e then some (eqD d e) else none) = some b' from h1)
  rw [Bool.and_eq_true] at h0
  obtain ⟨as, q1⟩ := r1.readsP I hK d 60 x v h0.1 rx
  obtain ⟨bs, q2⟩ := r2.readsP I hK e 60 y u h0.2 ry
  have p1 := okD_plain d 60 h0.1
  have p2 := okD_plain e 60 h0.2
  exact SeqAt.ne_plain q1 q2 p1.1 p2.1 (by omega) ⟨.bl _, H, I, by rw [eqv_toPy d e 60 60 h0.1 h0.2]; rfl, q⟩
theorem nonD_ne {d : D} (h : (!isNonD d) = true) : d ≠ .non := fun z => by subst z; cases h
theorem toPy_ne_none {d e : D} (h : d ≠ .non) (a : alk d e = true) : toPy d ≠ .none := by
  cases d <;> first | exact absurd rfl h | (cases a; done) | (intro z; cases z)
/-- two of one kind, not None -/
theorem ltG_inv {d e : D} {b : Bool} (h : ltG d e = some b) : alk d e = true ∧ d ≠ .non ∧ okD 60 d = true ∧ okD 60 e = true ∧ ltT d e = b := by
  obtain ⟨h0, rfl⟩ := ite_some h
  simp only [Bool.and_eq_true] at h0
  exact ⟨h0.1.1.1, nonD_ne h0.1.1.2, h0.1.2, h0.2, rfl⟩
theorem ltO_G {d e : D} {b : Bool} (h : ltO d e = some b) : ltG d e = some b := by
  cases d <;> first | exact h | skip
  · cases e <;> first | (cases h; done) | exact h
  · cases e <;> first | (cases h; done) | exact h
theorem leO_G {d e : D} {b : Bool} (h : leO d e = some b) : ∃ b', ltG e d = some b' ∧ b = !b' := by
  cases d <;> try (replace h : (ltG e _).map (!·) = some b := h; obtain ⟨b', h1, rfl⟩ := Option.map_eq_some_iff.mp h; exact ⟨b', h1, rfl⟩)
  · cases e <;> first | (cases h; done) | skip
    rename_i i j
    cases h
    refine ⟨decide (j < i), rfl, ?_⟩
    by_cases z : i ≤ j
    · rw [decide_eq_true z, decide_eq_false (by omega)]; rfl
    · rw [decide_eq_false z, decide_eq_true (by omega)]; rfl
  · cases e <;> first | (cases h; done) | skip
    cases h
    exact ⟨_, rfl, rfl⟩
theorem alk_non {d e : D} (h : alk d e = true) (z : e ≠ .non) : d ≠ .non := fun w => by
  subst w
  cases e <;> first | (cases h; done) | exact z rfl
theorem op_ltR (hK : Y.K = X.K) (hu : Y.A.units + 65 < cLine) : OpR Y (compareOp .Lt) (rD X (cmpB .lt)) := by
  intro pins s σ H x y v u Q I rx ry ⟨d, e, b, r1, r2, h, q⟩
  obtain ⟨h1, h2, h3, h4, rfl⟩ := ltG_inv (ltO_G h)
  obtain ⟨as, q1⟩ := r1.readsP I hK d 60 x v h3 rx
  obtain ⟨bs, q2⟩ := r2.readsP I hK e 60 y u h4 ry
  have p1 := (okD_plain d 60 h3).2
  exact PySem.W.lt_data q1 q2 (alike_toPy d e h1) (toPy_ne_none h2 h1) (by omega) ⟨.bl _, H, I, by rw [dataLt_toPy d e 60 60 h3 h4 h1 h2]; rfl, q⟩
theorem op_gtR (hK : Y.K = X.K) (hu : Y.A.units + 65 < cLine) : OpR Y (compareOp .Gt) (rD X (cmpB .gt)) := by
  intro pins s σ H x y v u Q I rx ry ⟨d, e, b, r1, r2, h, q⟩
  obtain ⟨h1, h2, h3, h4, rfl⟩ := ltG_inv (ltO_G h)
  obtain ⟨as, q1⟩ := r1.readsP I hK d 60 x v h4 rx
  obtain ⟨bs, q2⟩ := r2.readsP I hK e 60 y u h3 ry
  have p1 := (okD_plain d 60 h4).2
  have h1' : alk d e = true := (alk_comm d e).trans h1
  exact PySem.W.gt_data q1 q2 (alike_toPy d e h1') (toPy_ne_none (alk_non h1' h2) h1') (by omega) ⟨.bl _, H, I, by rw [dataLt_toPy e d 60 60 h3 h4 h1 h2]; rfl, q⟩
theorem op_leR (hK : Y.K = X.K) (hu : Y.A.units + 65 < cLine) : OpR Y (compareOp .LtE) (rD X (cmpB .le)) := by
  intro pins s σ H x y v u Q I rx ry ⟨d, e, b, r1, r2, h, q⟩
  obtain ⟨b', hh, rfl⟩ := leO_G h
  obtain ⟨h1, h2, h3, h4, rfl⟩ := ltG_inv hh
  obtain ⟨as, q1⟩ := r1.readsP I hK d 60 x v h4 rx
  obtain ⟨bs, q2⟩ := r2.readsP I hK e 60 y u h3 ry
  have p1 := (okD_plain d 60 h4).2
  have h1' : alk d e = true := (alk_comm d e).trans h1
  exact PySem.W.le_data q1 q2 (alike_toPy d e h1') (toPy_ne_none (alk_non h1' h2) h1') (by omega) ⟨.bl _, H, I, by rw [dataLt_toPy e d 60 60 h3 h4 h1 h2]; rfl, q⟩
theorem op_geR (hK : Y.K = X.K) (hu : Y.A.units + 65 < cLine) : OpR Y (compareOp .GtE) (rD X (cmpB .ge)) := by
  intro pins s σ H x y v u Q I rx ry ⟨d, e, b, r1, r2, h, q⟩
  obtain ⟨b', hh, rfl⟩ := leO_G h
  obtain ⟨h1, h2, h3, h4, rfl⟩ := ltG_inv hh
  obtain ⟨as, q1⟩ := r1.readsP I hK d 60 x v h3 rx
  obtain ⟨bs, q2⟩ := r2.readsP I hK e 60 y u h4 ry
  have p1 := (okD_plain d 60 h3).2
  exact PySem.W.ge_data q1 q2 (alike_toPy d e h1) (toPy_ne_none h2 h1) (by omega) ⟨.bl _, H, I, by rw [dataLt_toPy d e 60 60 h3 h4 h1 h2]; rfl, q⟩
theorem memD_any (x : D) : ∀ (l : List D) (n m : Nat), okD n x = true → okL m l = true → ((toPyL l).any fun z => PyData.eqv z (toPy x)) = memD x l
  | [], _, _, _, _ => rfl
  | y :: l, n, m, h1, h2 => by
    replace h2 : (okD m y && okL m l) = true := h2
    rw [Bool.and_eq_true] at h2
    show (PyData.eqv (toPy y) (toPy x) || (toPyL l).any fun z => PyData.eqv z (toPy x)) = _
    rw [eqv_toPy y x m n h2.1 h1, memD_any x l n m h1 h2.2]
    rfl
theorem inR_all (hK : Y.K = X.K) (hu : Y.A.units + 65 < cLine) {pins : List (Addr × Obj)} {s : Shared} {σ : Sl} {H : Hp} {x y : V} {v u : Value} (I : Inv Y pins σ H s) (rx : RelV x v) (ry : RelV y u) {d e : D} {b : Bool} (r1 : RD X H x d) (r2 : RD X H y e) (h : inD d e = some b) :
    (∀ (Q : VK), Q (.bl b) H → wpAny (model Y.prog Y.w) Y.A (compareOp .In v u) (EP Y pins σ Q) Y.xe s) ∧ ∀ (Q : VK), Q (.bl (!b)) H → wpAny (model Y.prog Y.w) Y.A (compareOp .NotIn v u) (EP Y pins σ Q) Y.xe s := by
  cases e <;> first | (cases h; done) | skip
  · rename_i z
    cases d <;> first | (cases h; done) | skip
    rename_i w
    match w, h, r1 with
    | [ch], h, r1 =>
      cases h
      have e1 : z.contains ch = decide (ch ∈ (⟨z.toArray⟩ : Str).cps.toList) := by simp
      rw [r1.str_eq] at rx
      rw [r2.str_eq] at ry
      refine ⟨fun Q q => ?_, fun Q q => ?_⟩
      · exact op_in_sign pins s σ H _ _ v u Q I rx ry ⟨ch, ⟨z.toArray⟩, rfl, rfl, by rw [← e1]; exact q⟩
      · exact op_notIn_sign pins s σ H _ _ v u Q I rx ry ⟨ch, ⟨z.toArray⟩, rfl, rfl, by rw [← e1]; exact q⟩
    | [], h, _ => cases h
    | _ :: _ :: _, h, _ => cases h
  · rename_i l
    obtain ⟨h0, rfl⟩ := ite_some (show (if okD 60 d && okL 60 l then some (memD d l) else none) = some b from h)
    rw [Bool.and_eq_true] at h0
    obtain ⟨as, q1⟩ := r1.readsP I hK d 60 x v h0.1 rx
    obtain ⟨bs, q2⟩ := r2.readsP I hK (.lst l) 61 y u h0.2 ry
    have p1 := okD_plain d 60 h0.1
    have p2 := okL_plain l 60 h0.2
    refine ⟨fun Q q => ?_, fun Q q => ?_⟩
    · exact SeqAt.in_list_data q2 q1 p2.1 p1.1 (by omega) ⟨.bl _, H, I, by rw [memD_any d l 60 60 h0.1 h0.2]; rfl, q⟩
    · exact SeqAt.notIn_list_data q2 q1 p2.1 p1.1 (by omega) ⟨.bl _, H, I, by rw [memD_any d l 60 60 h0.1 h0.2]; rfl, q⟩
  · rename_i l
    obtain ⟨h0, rfl⟩ := ite_some (show (if okD 60 d && okL 60 l then some (memD d l) else none) = some b from h)
    rw [Bool.and_eq_true] at h0
    obtain ⟨as, q1⟩ := r1.readsP I hK d 60 x v h0.1 rx
    obtain ⟨bs, q2⟩ := r2.readsP I hK (.tup l) 61 y u h0.2 ry
    have p1 := okD_plain d 60 h0.1
    have p2 := okL_plain l 60 h0.2
    refine ⟨fun Q q => ?_, fun Q q => ?_⟩
    · exact SeqAt.in_tuple_data q2 q1 p2.1 p1.1 (by omega) ⟨.bl _, H, I, by rw [memD_any d l 60 60 h0.1 h0.2]; rfl, q⟩
    · exact SeqAt.notIn_tuple_data q2 q1 p2.1 p1.1 (by omega) ⟨.bl _, H, I, by rw [memD_any d l 60 60 h0.1 h0.2]; rfl, q⟩
  · rename_i ks vs
    have ha : atomK d = true ∧ (lookD d ks vs).isSome = b := by
      cases d <;> first | (cases h; done) | (cases h; exact ⟨rfl, rfl⟩)
    obtain ⟨a, o, rfl, g, ho⟩ := r2.dget r1 ha.1
    have hb : o.isSome = b := by
      rw [← ha.2]
      rcases ho with ⟨h1, rfl⟩ | ⟨w, z, h1, rfl, _⟩ <;> (rw [h1]; rfl)
    obtain rfl : u = Value.ref a := ry
    have hu1 : Y.A.units + 1 < cLine := by omega
    exact ⟨fun Q q => d_in hu1 I g rx fun s' I' => ⟨.bl _, H, I', by rw [hb]; rfl, q⟩, fun Q q => d_notIn hu1 I g rx fun s' I' => ⟨.bl _, H, I', by rw [hb]; rfl, q⟩⟩
theorem op_inR (hK : Y.K = X.K) (hu : Y.A.units + 65 < cLine) : OpR Y (compareOp .In) (rD X (cmpB .isin)) := by
  intro pins s σ H x y v u Q I rx ry ⟨d, e, b, r1, r2, h, q⟩
  exact (inR_all hK hu I rx ry r1 r2 h).1 Q q
theorem op_notInR (hK : Y.K = X.K) (hu : Y.A.units + 65 < cLine) : OpR Y (compareOp .NotIn) (rD X (cmpB .notin)) := by
  intro pins s σ H x y v u Q I rx ry ⟨d, e, b, r1, r2, h, q⟩
  obtain ⟨b', h1, rfl⟩ := Option.map_eq_some_iff.mp (show (inD d e).map (!·) = some b from h)
  exact (inR_all hK hu I rx ry r1 r2 h1).2 Q q
theorem cmp_eq (cx : Ctx c W Y) : CmpR c Y .Eq n m (cmpB .eq) := .of (op_eqR cx.K cx.hu)
theorem cmp_ne (cx : Ctx c W Y) : CmpR c Y .NotEq n m (cmpB .ne) := .of (op_neR cx.K cx.hu)
theorem cmp_lt (cx : Ctx c W Y) : CmpR c Y .Lt n m (cmpB .lt) := .of (op_ltR cx.K cx.hu)
theorem cmp_gt (cx : Ctx c W Y) : CmpR c Y .Gt n m (cmpB .gt) := .of (op_gtR cx.K cx.hu)
theorem cmp_le (cx : Ctx c W Y) : CmpR c Y .LtE n m (cmpB .le) := .of (op_leR cx.K cx.hu)
theorem cmp_ge (cx : Ctx c W Y) : CmpR c Y .GtE n m (cmpB .ge) := .of (op_geR cx.K cx.hu)
theorem cmp_in (cx : Ctx c W Y) : CmpR c Y .In n m (cmpB .isin) := .of (op_inR cx.K cx.hu)
theorem cmp_notin (cx : Ctx c W Y) : CmpR c Y .NotIn n m (cmpB .notin) := .of (op_notInR cx.K cx.hu)
theorem RD.is_non {X : Tx} {H : Hp} {v : V} {d : D} {b : Bool} (r : RD X H v d) (e : isD d .non = some b) : decide (v = .non) = b := by
  cases d <;> first | (cases e; done) | skip
  · cases e; rw [r.non_eq]; rfl
  · cases e; rw [r.bl_eq]; rfl
  · cases e; rw [r.int_eq]; rfl
  · cases e; rw [r.str_eq]; rfl
  · cases e; obtain ⟨a, ps, rfl, _⟩ := r.lst_eq; rfl
  · cases e; obtain ⟨a, ps, rfl, _⟩ := r.tup_eq; rfl
  · cases e; obtain ⟨a, ps, rfl, _⟩ := r.dic_eq; rfl
  · cases e; cases r; rfl
/-- is True, is False of what is no bool -/
def rIsX : R2 := fun x y H Q => ∃ b, y = .bl b ∧ (∀ a, x ≠ .bl a) ∧ Q (.bl false) H
def rNotX : R2 := fun x y H Q => ∃ b, y = .bl b ∧ (∀ a, x ≠ .bl a) ∧ Q (.bl true) H
theorem op_isX {X : Cx} : OpR X (compareOp .Is) rIsX := by
  intro pins s σ H x y v u Q I rx ry h
  obtain ⟨b, rfl, hx, q⟩ := h
  cases (show u = Value.bool b from ry)
  cases x <;> first
    | exact absurd rfl (hx _)
    | (cases rx; exact wpAny_is_other rfl (fun z => by cases z) ⟨.bl false, H, I, rfl, q⟩)
    | (obtain ⟨t, rfl⟩ := rx; exact wpAny_is_other rfl (fun z => by cases z) ⟨.bl false, H, I, rfl, q⟩)
theorem op_notX {X : Cx} : OpR X (compareOp .IsNot) rNotX := by
  intro pins s σ H x y v u Q I rx ry h
  obtain ⟨b, rfl, hx, q⟩ := h
  cases (show u = Value.bool b from ry)
  cases x <;> first
    | exact absurd rfl (hx _)
    | (cases rx; exact wpAny_isNot_other rfl (fun z => by cases z) ⟨.bl true, H, I, rfl, q⟩)
    | (obtain ⟨t, rfl⟩ := rx; exact wpAny_isNot_other rfl (fun z => by cases z) ⟨.bl true, H, I, rfl, q⟩)
theorem isD_bl {d : D} {b2 b : Bool} (e : isD d (.bl b2) = some b) : (∃ b1, d = .bl b1 ∧ b = (b1 == b2)) ∨ ((∀ a, d ≠ .bl a) ∧ b = false) := by
  cases d <;> first | (cases e; done) | (cases e; exact .inl ⟨_, rfl, rfl⟩) | (cases e; exact .inr ⟨fun a => by simp, rfl⟩)
theorem RD.no_bl {X : Tx} {F : Hp} {v : V} {d : D} {b2 b : Bool} (h : RD X F v d) (hd : ∀ a, d ≠ .bl a) (e : isD d (.bl b2) = some b) : ∀ a, v ≠ .bl a := by
  intro a z
  cases d <;> first | (cases e; done) | exact hd _ rfl | skip
  · rw [h.non_eq] at z; cases z
  · rw [h.int_eq] at z; cases z
  · rw [h.str_eq] at z; cases z
  · obtain ⟨_, _, rfl, _⟩ := h.lst_eq; cases z
  · obtain ⟨_, _, rfl, _⟩ := h.tup_eq; cases z
  · obtain ⟨_, _, rfl, _⟩ := h.dic_eq; cases z
theorem cmp_is : CmpR c Y .Is n m (cmpB .is) := ⟨_, (op_isN.or op_isBl).or op_isX, fun H F x y d1 d2 b A B s o1 o2 e Q q => by
  replace e : isD d1 d2 = some b := e
  cases d2 <;> first | (cases e; done) | skip
  · exact .inl (.inl ⟨o2.non_eq, by rw [(o1.read s).is_non e]; exact q⟩)
  · rename_i b2
    rcases isD_bl e with ⟨b1, rfl, rfl⟩ | ⟨hd, rfl⟩
    · refine .inl (.inr ⟨b1, b2, o1.bl_eq, o2.bl_eq, ?_⟩)
      rw [← Bool.beq_eq_decide_eq]; exact q
    · exact .inr ⟨b2, o2.bl_eq, (o1.read s).no_bl hd e, q⟩⟩
theorem cmp_isnot : CmpR c Y .IsNot n m (cmpB .isnot) := ⟨_, (op_notN.or op_notBl).or op_notX, fun H F x y d1 d2 b A B s o1 o2 e Q q => by
  replace e : (isD d1 d2).map (!·) = some b := e
  obtain ⟨b', e', rfl⟩ := Option.map_eq_some_iff.mp e
  cases d2 <;> first | (cases e'; done) | skip
  · exact .inl (.inl ⟨o2.non_eq, by rw [(o1.read s).is_non e']; exact q⟩)
  · rename_i b2
    rcases isD_bl e' with ⟨b1, rfl, rfl⟩ | ⟨hd, rfl⟩
    · refine .inl (.inr ⟨b1, b2, o1.bl_eq, o2.bl_eq, ?_⟩)
      rw [← Bool.beq_eq_decide_eq]; exact q
    · exact .inr ⟨b2, o2.bl_eq, (o1.read s).no_bl hd e', q⟩⟩
end
end Pz
end
section
set_option Elab.async false
set_option linter.all false
/-! Rules: argument lists, displays, subscripts, slices. -/
namespace Pz
open PySem PySem.Spec PyProof.Rows L2

/-- an argument list's values: frozen, or a slot's own value (lent) -/
inductive ArgP (X : Tx) (σ : Sl) (F : Hp) : List (Option Nat) → List V → List D → Prop
  | nil : ArgP X σ F [] [] []
  | frz {ls vs ds v d} : RD X F v d → ArgP X σ F ls vs ds → ArgP X σ F (none :: ls) (v :: vs) (d :: ds)
  | lent {ls vs ds v d i} : σ[i]? = some (some v) → ArgP X σ F ls vs ds → ArgP X σ F (some i :: ls) (v :: vs) (d :: ds)
theorem ArgP.mono {X : Tx} {σ : Sl} {F G : Hp} (s : Sub F G) {ls vs ds} (h : ArgP X σ F ls vs ds) : ArgP X σ G ls vs ds := by
  induction h with
  | nil => exact .nil
  | frz r _ ih => exact .frz (r.mono s) ih
  | lent r _ ih => exact .lent r ih
theorem ArgP.len {X : Tx} {σ : Sl} {F : Hp} {ls vs ds} (h : ArgP X σ F ls vs ds) : vs.length = ls.length ∧ ds.length = ls.length := by
  induction h with
  | nil => exact ⟨rfl, rfl⟩
  | frz r _ ih => exact ⟨congrArg (· + 1) ih.1, congrArg (· + 1) ih.2⟩
  | lent r _ ih => exact ⟨congrArg (· + 1) ih.1, congrArg (· + 1) ih.2⟩
/-- all frozen -/
def allN (ls : List (Option Nat)) : Bool := ls.all (·.isNone)
theorem ArgP.ps {X : Tx} {σ : Sl} {F : Hp} {ls vs ds} (h : ArgP X σ F ls vs ds) (ha : allN ls = true) : ∃ ps : List (V × D), vs = ps.map (·.1) ∧ ds = ps.map (·.2) ∧ ∀ p ∈ ps, RD X F p.1 p.2 := by
  induction h with
  | nil => exact ⟨[], rfl, rfl, fun _ h => absurd h (by simp)⟩
  | @frz ls vs ds v d r _ ih =>
    obtain ⟨ps, e1, e2, e3⟩ := ih (by simpa [allN] using ha)
    exact ⟨(v, d) :: ps, by rw [e1]; rfl, by rw [e2]; rfl, fun p hp => (List.mem_cons.mp hp).elim (fun e => e ▸ r) (e3 p)⟩
  | lent r _ ih => exact absurd ha (by simp [allN])

def tF (c : Cf) (W : WX) (Γ : List Nat) (ls : List (Option Nat)) (pu : Bool) (f : Env → R (List D × Env)) : TA := fun σ H Q =>
  ∃ F A ρ, Rep c.X Γ ρ σ H F A ∧ Run c W σ H F (Own A) (f ρ) fun p => ∀ vs H' F' A', Mid c Γ σ ρ H F A p.2 H' F' A' (fun _ => False) pu → ArgP c.X σ F' ls vs p.1 → Q vs H'
abbrev SA (c : Cf) (W : WX) (Γ : List Nat) (ls : List (Option Nat)) (pu : Bool) (Y : Cx) (es : List Expr) (f : Env → R (List D × Env)) : Prop := PA Y es (tF c W Γ ls pu f)
theorem PA.imp {Y : Cx} {es : List Expr} {t u : TA} (h : PA Y es t) (i : ∀ σ H Q, u σ H Q → t σ H Q) : PA Y es u := ⟨fun p pins s σ H Q I z => h.run p pins s σ H Q I (i σ H Q z)⟩

section
variable {c : Cf} {W : WX} {Γ : List Nat} {Y : Cx} {e a b : Expr} {es : List Expr} {pos : Pos} {k ka kb kc : Kd} {fa fb fc : Env → R (D × Env)} {fs : Env → R (List D × Env)} {n : Nat} {pa pb pc pu : Bool} {ls : List (Option Nat)}

theorem sa_nil : SA c W Γ [] true Y [] (fun ρ => .ok ([], ρ)) := PA.imp pa_nil fun σ H Q ⟨F, A, ρ, r, h⟩ => by
  replace h : ∀ vs H' F' A', Mid c Γ σ ρ H F A ρ H' F' A' (fun _ => False) true → ArgP c.X σ F' [] vs [] → Q vs H' := h
  exact h _ _ _ _ (Mid.refl r) .nil
theorem sa_cons (he : SX c W Γ ⟨true, pa, 0⟩ Y e fa) (hr : SA c W Γ ls pb Y es fs) (hs : starEach (e :: es) Y.env = (false, eval e Y.env) :: starEach es Y.env) :
    SA c W Γ (none :: ls) (pa && pb) Y (e :: es) (fun ρ => (fa ρ).bind fun p => (fs p.2).bind fun q => .ok (p.1 :: q.1, q.2)) :=
  PA.imp (pa_cons he hr hs) fun σ H Q ⟨F, A, ρ, r, h⟩ => tX.one (g := fun d ρ1 => (fs ρ1).bind fun q => .ok (d :: q.1, q.2)) r h fun x H1 F1 A1 d ρ1 B o h1 => by
    refine ⟨F1, A1, ρ1, o.rep, h1.bind.imp fun p _ hp vs H2 F2 A2 m ap => ?_⟩
    replace hp : ∀ vs H' F' A', Mid c Γ σ ρ H F A p.2 H' F' A' (fun _ => False) (pa && pb) → ArgP c.X σ F' (none :: ls) vs (d :: p.1) → Q vs H' := hp
    exact hp _ _ _ _ ((o.mid.trans m).weak (fun _ z => z.elim) fun z => z) (.frz (o.ot.2.mono m.nx.fro) ap)
theorem sa_lent {i : Nat} {x : Str} (hN : Y.N[i]? = some x) (hv : Vis Y.env.scope x) (hd : (x == ("__debug__" : Str)) = false) (hcd : (x == ("__classdict__" : Str)) = false) (hr : SA c W Γ ls pb Y es fs)
    (hs : starEach (.Name x pos :: es) Y.env = (false, eval (.Name x pos) Y.env) :: starEach es Y.env) :
    SA c W Γ (some i :: ls) pb Y (.Name x pos :: es) (fun ρ => ((optR (gt ρ i)).bind fun d => .ok (d, ρ)).bind fun p => (fs p.2).bind fun q => .ok (p.1 :: q.1, q.2)) :=
  PA.imp (pa_cons (pe_var (i := i) hN hv hd hcd) hr hs) fun σ H Q ⟨F, A, ρ, r, h⟩ => by
    dsimp only at h
    rw [bind_assoc] at h
    obtain ⟨d, e, h⟩ := Run.opt h
    obtain ⟨v, ev, o⟩ := r.val i d (gt_ok e)
    replace h : Run c W σ H F (Own A) ((fs ρ).bind fun q => .ok (d :: q.1, q.2)) fun p => ∀ vs H' F' A', Mid c Γ σ ρ H F A p.2 H' F' A' (fun _ => False) pb → ArgP c.X σ F' (some i :: ls) vs p.1 → Q vs H' := h
    refine ⟨v, ev, F, A, ρ, r, h.bind.imp fun p _ hp vs H2 F2 A2 m ap => ?_⟩
    replace hp : ∀ vs H' F' A', Mid c Γ σ ρ H F A p.2 H' F' A' (fun _ => False) pb → ArgP c.X σ F' (some i :: ls) vs (d :: p.1) → Q vs H' := hp
    exact hp _ _ _ _ m (.lent ev ap)
/-- a list read -/
theorem tF.one {β : Type} {g : List D → Env → R β} {ok : β → Prop} {Rr : List V → Hp → Prop} {σ : Sl} {H F : Hp} {A : Nat → List Addr} {ρ : Env} (r : Rep c.X Γ ρ σ H F A)
    (h : Run c W σ H F (Own A) ((fs ρ).bind fun p => g p.1 p.2) ok)
    (kk : ∀ vs H1 F1 A1 ds ρ1, Mid c Γ σ ρ H F A ρ1 H1 F1 A1 (fun _ => False) pu → ArgP c.X σ F1 ls vs ds → Run c W σ H1 F1 (Own A1) (g ds ρ1) ok → Rr vs H1) : tF c W Γ ls pu fs σ H Rr :=
  ⟨F, A, ρ, r, h.bind.imp fun p _ hp vs H' F' A' m ap => kk vs H' F' A' p.1 p.2 m ap (hp.at m.nx0 fun _ z => z)⟩

/-! ### displays -/
theorem small_line (h : ls.length ≤ 1000) : ls.length ≤ sizeLine := by rw [sizeLine_eq]; omega
theorem sx_tup {x1} (h : SA c W Γ ls pu Y es fs) (ha : allN ls = true) (hl : ls.length ≤ 1000) : SX c W Γ ⟨true, pu, 0⟩ Y (.Tuple es x1 pos) (fun ρ => (fs ρ).bind fun p => .ok (.tup p.1, p.2)) :=
  PE.imp (pe_tup h) fun σ H Q ⟨F, A, ρ, r, h⟩ => tF.one (g := fun ds ρ1 => .ok (D.tup ds, ρ1)) r h fun vs H1 F1 A1 ds ρ1 m ap h1 => by
    replace h1 : Ends' c Γ ⟨true, pu, 0⟩ σ ρ H F A Q (.tup ds, ρ1) := h1
    refine ⟨by rw [ap.len.1]; exact small_line hl, fun p hp => ?_⟩
    obtain ⟨ps, e1, e2, e3⟩ := ap.ps ha
    subst e1 e2
    exact h1 _ _ _ _ _ (m.newT hp e3 (fun z => z) rfl)
theorem sx_lst (h : SA c W Γ ls pu Y es fs) (ha : allN ls = true) (hl : ls.length ≤ 1000) : SX c W Γ ⟨true, pu, 1⟩ Y (.List es pos) (fun ρ => (fs ρ).bind fun p => .ok (.lst p.1, p.2)) :=
  PE.imp (pe_lst h) fun σ H Q ⟨F, A, ρ, r, h⟩ => tF.one (g := fun ds ρ1 => .ok (D.lst ds, ρ1)) r h fun vs H1 F1 A1 ds ρ1 m ap h1 => by
    replace h1 : Ends' c Γ ⟨true, pu, 1⟩ σ ρ H F A Q (.lst ds, ρ1) := h1
    refine ⟨by rw [ap.len.1]; exact small_line hl, fun p hp => ?_⟩
    obtain ⟨ps, e1, e2, e3⟩ := ap.ps ha
    subst e1 e2
    exact h1 _ _ _ _ _ (m.newL hp e3 (fun z => z) rfl)

/-! ### subscripts -/
theorem ixI_N (n : Nat) (i : Int) : ixI n i = ixN n i := rfl
theorem map_getI {α β : Type} (f : α → β) (l : List α) (i : Int) {y : β} (h : ((ixI (l.map f).length i).bind fun n => (l.map f)[n]?) = some y) : ∃ x, atI l i = some x ∧ x ∈ l ∧ f x = y := by
  rw [List.length_map] at h
  obtain ⟨n, e1, e2⟩ := Option.bind_eq_some_iff.mp h
  rw [List.getElem?_map] at e2
  obtain ⟨x, e3, e4⟩ := Option.map_eq_some_iff.mp e2
  refine ⟨x, ?_, List.mem_of_getElem? e3, e4⟩
  unfold atI
  rw [← ixI_N, e1]
  exact e3
theorem atI_map {α β : Type} (f : α → β) {l : List α} {i : Int} {x : α} (h : atI l i = some x) : atI (l.map f) i = some (f x) := by
  unfold atI at h ⊢
  obtain ⟨n, e1, e2⟩ := Option.bind_eq_some_iff.mp h
  rw [List.length_map, e1]
  show (l.map f)[n]? = _
  rw [List.getElem?_map, e2]; rfl
def rIxA (K : PySem.W.Frag) : R2 := fun x y H Q => rIxL K x y H Q ∨ rIxT K x y H Q ∨ rIxS x y H Q
def rIxD : R2 := fun x y H Q => ∃ a v, x = .ref a ∧ DGet H a y (some v) ∧ Q v H
theorem ix_dict {X : Cx} (hu : X.A.units + 1 < cLine) : IxR X rIxD := by
  intro value slice pins s σ H x y v u Q I rx ry h hs
  obtain ⟨a, w, rfl, g, q⟩ := h
  obtain rfl : v = Value.ref a := rx
  have hT := dict_typeIs I g
  unfold subscriptTail
  refine wpAny_bind ?_
  rw [getitemInPython_of_ne hT.not_modules]
  refine wpAny_bind (wpAny_specialOf hT PySem.F.slot_dict_getitem.lookup ?_)
  have fin : wpAny (model X.prog X.w) X.A (subscripted slice false (.ref a) u) (fun r s₃ => wpAny (model X.prog X.w) X.A (letTemporaryGo value (.ref a) r >>= fun _ => pure r) (EP X pins σ Q) X.xe s₃) X.xe s := by
    rw [hs]
    exact wpAny_operating (d_getItem hu I g ry fun w' s3 I3 rw' => wpAny_bind (wpAny_letTemporaryGo (wpAny_pure ⟨w, H, I3, rw', q⟩)))
  first
    | exact wpAny_pure (wpAny_bind fin)
    | exact wpAny_bind (wpAny_pure (wpAny_bind fin))
    | exact wpAny_bind fin
theorem ix_all {X : Cx} (hu : X.A.units + 1 < cLine) : IxR X (fun x y H Q => rIxD x y H Q ∨ rIxA X.K x y H Q) := (ix_dict hu).or (ix_list.or (ix_tup.or ix_str))
theorem sx_idx (cx : Ctx c W Y) (ha : SX c W Γ ka Y a fa) (hb : SX c W Γ kb Y b fb) (hc : ka.own = true ∨ kb.pu = true) (h1 : ka.lv ≤ 1) (hs : PlainIx b) :
    SX c W Γ ⟨true, ka.pu && kb.pu, 0⟩ Y (.Subscript a b pos) (fun ρ => (fa ρ).bind fun p => (fb p.2).bind fun q => (optR (getD p.1 q.1)).bind fun d => .ok (d, q.2)) :=
  PE.imp (pe_ix (ix_all (by have := cx.hu; omega)) ha hb hs) fun σ H Q ⟨F, A, ρ, rp, h⟩ => tX.two (g := fun d1 d2 ρ2 => (optR (getD d1 d2)).bind fun d => .ok (d, ρ2)) hc rp h fun x y H2 F2 A2 d1 d2 ρ2 B1 B2 t h2' => by
    obtain ⟨d, e, hq⟩ := Run.opt h2'
    replace hq : Ends' c Γ ⟨true, ka.pu && kb.pu, 0⟩ σ ρ H F A Q (d, ρ2) := hq
    rw [cx.K]
    cases d1 <;> first | (cases e; done) | skip
    · rename_i s
      cases d2 <;> first | (cases e; done) | skip
      rename_i i
      replace e : (if s.length ≤ lim then ((ixI s.length i).bind fun n => (s[n]?).map fun c => D.str [c]) else none) = some d := e
      split at e <;> first | (cases e; done) | skip
      rename_i hl
      obtain ⟨n, e1, e2⟩ := Option.bind_eq_some_iff.mp e
      obtain ⟨ch, e3, rfl⟩ := Option.map_eq_some_iff.mp e2
      refine .inr (.inr (.inr ⟨⟨s.toArray⟩, i, ch, t.o1.str_eq, t.o2.int_eq, by rw [sV_length, ← line_lim]; exact hl, ?_, hq (sV [ch]) _ _ _ _ (t.mid.val (.str _) (fun z => z) (.inl rfl))⟩))
      unfold atI
      rw [← ixI_N, e1]; exact e3
    · rename_i l
      cases d2 <;> first | (cases e; done) | skip
      rename_i i
      obtain ⟨a1, ps, rfl, rfl, s1, r1⟩ := t.o1.lst1 h1 t.mid.rep.sub
      obtain ⟨p, e1, e2, rfl⟩ := map_getI _ _ _ e
      exact .inr (.inl ⟨_, _, i, _, rfl, t.o2.int_eq, s1, atI_map _ e1, hq _ _ _ _ _ (t.mid.val (r1 p e2) (fun z => z) (.inl rfl))⟩)
    · rename_i l
      cases d2 <;> first | (cases e; done) | skip
      rename_i i
      obtain ⟨a1, ps, rfl, rfl, s1, r1⟩ := t.o1.tup1 h1 t.mid.rep.sub
      obtain ⟨p, e1, e2, rfl⟩ := map_getI _ _ _ e
      exact .inr (.inr (.inl ⟨_, _, i, _, rfl, t.o2.int_eq, s1, atI_map _ e1, hq _ _ _ _ _ (t.mid.val (r1 p e2) (fun z => z) (.inl rfl))⟩))
    · rename_i ks vs
      replace e : (if atomK d2 = true then lookD d2 ks vs else none) = some d := e
      split at e <;> first | (cases e; done) | skip
      rename_i hk
      obtain ⟨a1, ps, rfl, rfl, s1, rfl, r1⟩ := t.o1.dic1 h1 t.mid.rep.sub
      obtain ⟨o, g, ho⟩ := dget_of s1 r1 (t.o2.rd_of_atom (by cases d2 <;> first | (cases hk; done) | rfl)) hk
      rcases ho with ⟨z1, _⟩ | ⟨w, z, z1, rfl, z2⟩
      · rw [z1] at e; cases e
      · rw [z1] at e; cases e
        exact .inl ⟨a1, w, rfl, g, hq _ _ _ _ _ (t.mid.val z2 (fun z => z) (.inl rfl))⟩
end
end Pz
end
section
set_option Elab.async false
set_option linter.all false
/-! Statements: the judgement; sequences, plain ends. -/
namespace Pz
open PySem PySem.Spec PyProof.Rows L2

/-- off M the slots stay -/
structure Agree (M : Nat → Bool) (σ σ' : Sl) : Prop where
  len : σ'.length = σ.length
  at_ : ∀ i, M i = false → σ'[i]? = σ[i]?
theorem Agree.refl {M : Nat → Bool} {σ : Sl} : Agree M σ σ := ⟨rfl, fun _ _ => rfl⟩
theorem Agree.trans {M : Nat → Bool} {σ σ1 σ2 : Sl} (a : Agree M σ σ1) (b : Agree M σ1 σ2) : Agree M σ σ2 := ⟨b.len.trans a.len, fun i h => (b.at_ i h).trans (a.at_ i h)⟩
theorem Agree.set {M : Nat → Bool} {σ : Sl} {i : Nat} {v : Option V} (h : M i = true) : Agree M σ (σ.set i v) :=
  ⟨by simp, fun j hj => List.getElem?_set_ne fun e => by rw [e] at h; rw [h] at hj; cases hj⟩
/-- what is wished of exceptions, from slots on that may have changed -/
def WM (W : WX) (M : Nat → Bool) (σ : Sl) : WX := fun cls dx _ H' => ∀ σ', Agree M σ σ' → W cls dx σ' H'
section
variable {c : Cf} {W : WX} {M : Nat → Bool} {σ σ1 σ2 : Sl} {H F H1 F1 H2 F2 : Hp} {P : Addr → Prop} {β : Type} {m : R β} {ok : β → Prop}
theorem Run.wm (h : Run c (WM W M σ) σ2 H F P m ok) (a : Agree M σ σ1) : Run c W σ1 H F P m ok := by
  cases m with
  | ok b => exact h
  | error e =>
    cases e with
    | stuck => exact h
    | exc k fs => exact fun cls dx H' x => h cls dx H' x σ1 a
theorem Run.wms (h : Run c (WM W M σ) σ2 H F P m ok) (a : Agree M σ σ1) : Run c (WM W M σ1) σ1 H F P m ok := by
  cases m with
  | ok b => exact h
  | error e =>
    cases e with
    | stuck => exact h
    | exc k fs => exact fun cls dx H' x σ' b => h cls dx H' x σ' (a.trans b)
end

/-- fixed for a suite: what may change, the levels at a break, a continue, a return; how deep what is returned is owned -/
structure Zd where
  M : Nat → Bool
  Γb : List Nat
  Γc : List Nat
  Γr : List Nat
  rl : Nat

def EndS (c : Cf) (Z : Zd) (Γ' : List Nat) (D : Ends) (σ : Sl) (H F : Hp) (A : Nat → List Addr) : Fl → Prop
  | .nx ρ' => ∀ σ' H' F' A', Agree Z.M σ σ' → Rep c.X Γ' ρ' σ' H' F' A' → Nxt H F (Own A) H' F' (Own A') → D.nx σ' H'
  | .bk ρ' => ∀ σ' H' F' A', Agree Z.M σ σ' → Rep c.X Z.Γb ρ' σ' H' F' A' → Nxt H F (Own A) H' F' (Own A') → D.bk σ' H'
  | .ct ρ' => ∀ σ' H' F' A', Agree Z.M σ σ' → Rep c.X Z.Γc ρ' σ' H' F' A' → Nxt H F (Own A) H' F' (Own A') → D.ct σ' H'
  | .rt d ρ' => ∀ σ' v H' F' A' B, Agree Z.M σ σ' → Rep c.X Z.Γr ρ' σ' H' F' A' → Nxt H F (Own A) H' F' (fun a => Own A' a ∨ a ∈ B) → OT c.X H' F' Z.rl v d B → B.Nodup → (∀ a ∈ B, ¬ Own A' a) → D.rt v H'
def tS (c : Cf) (W : WX) (Z : Zd) (Γ Γ' : List Nat) (f : Env → R Fl) : TS := fun D σ H =>
  ∃ F A ρ, Rep c.X Γ ρ σ H F A ∧ Run c (WM W Z.M σ) σ H F (Own A) (f ρ) (EndS c Z Γ' D σ H F A)
abbrev SS (c : Cf) (W : WX) (Z : Zd) (Γ Γ' : List Nat) (Y : Cx) (s : Stmt) (f : Env → R Fl) : Prop := PS Y s (tS c W Z Γ Γ' f)
abbrev SSs (c : Cf) (W : WX) (Z : Zd) (Γ Γ' : List Nat) (Y : Cx) (s : List Stmt) (f : Env → R Fl) : Prop := PSs Y s (tS c W Z Γ Γ' f)
theorem PS.imp {Y : Cx} {e : Stmt} {t u : TS} (h : PS Y e t) (i : ∀ D σ H, u D σ H → t D σ H) : PS Y e u := ⟨fun pins s σ H D I z => h.run pins s σ H D I (i D σ H z)⟩
theorem PSs.imp {Y : Cx} {e : List Stmt} {t u : TS} (h : PSs Y e t) (i : ∀ D σ H, u D σ H → t D σ H) : PSs Y e u := ⟨fun pins s σ H D I z => h.run pins s σ H D I (i D σ H z)⟩

section
variable {c : Cf} {W : WX} {Z : Zd} {Γ Γ1 Γ' : List Nat} {Y : Cx} {e a b : Expr} {st : Stmt} {sts : List Stmt} {pos : Pos} {k ka kb kc : Kd} {fa fb fc : Env → R (D × Env)} {f g : Env → R Fl} {n : Nat} {pa pb pc pu : Bool} {D : Ends}
  {σ σ1 : Sl} {ρ ρ' ρ1 ρ2 : Env} {H F H' F' H1 F1 H2 F2 : Hp} {A A' A1 A2 : Nat → List Addr} {fl : Fl}
/-- an end, seen from an earlier state -/
theorem EndS.from {P1 : Addr → Prop} (h : EndS c Z Γ' D σ H F A fl) (a : Agree Z.M σ σ1) (n : Nxt H F (Own A) H1 F1 P1) (s : ∀ a, Own A1 a → P1 a) : EndS c Z Γ' D σ1 H1 F1 A1 fl := by
  have n' : Nxt H F (Own A) H1 F1 (Own A1) := n.weak (fun _ h => h) fun a h => .inl (s a h)
  cases fl with
  | nx ρ' => exact fun σ' H' F' A' b r m => h σ' H' F' A' (a.trans b) r (n'.trans m)
  | bk ρ' => exact fun σ' H' F' A' b r m => h σ' H' F' A' (a.trans b) r (n'.trans m)
  | ct ρ' => exact fun σ' H' F' A' b r m => h σ' H' F' A' (a.trans b) r (n'.trans m)
  | rt d ρ' => exact fun σ' v H' F' A' B b r m => h σ' v H' F' A' B (a.trans b) r (n'.trans m)
/-- a statement's reading from a later state -/
theorem tS.go {P1 Q1 : Addr → Prop} (r : Rep c.X Γ1 ρ1 σ1 H1 F1 A1) (a : Agree Z.M σ σ1) (n : Nxt H F (Own A) H1 F1 P1) (s : ∀ a, Own A1 a → P1 a) (h : Run c (WM W Z.M σ) σ H1 F1 (Own A1) (f ρ1) (EndS c Z Γ' D σ H F A)) : tS c W Z Γ1 Γ' f D σ1 H1 :=
  ⟨F1, A1, ρ1, r, (h.wms a).imp fun fl _ e => e.from a n s⟩
theorem ss_nil : SSs c W Z Γ Γ Y [] (fun ρ => .ok (.nx ρ)) := PSs.imp pss_nil fun D σ H ⟨F, A, ρ, r, h⟩ => by
  replace h : EndS c Z Γ D σ H F A (.nx ρ) := h
  exact h σ H F A .refl r Nxt.refl
/-- what follows a statement -/
def seqR (f g : Env → R Fl) : Env → R Fl := fun ρ => (f ρ).bind fun r => match r with
  | .nx ρ' => g ρ'
  | r => .ok r
theorem ss_cons (h1 : SS c W Z Γ Γ1 Y st f) (h2 : SSs c W Z Γ1 Γ' Y sts g) : SSs c W Z Γ Γ' Y (st :: sts) (seqR f g) :=
  PSs.imp (pss_cons h1 h2) fun D σ H ⟨F, A, ρ, r, h⟩ => by
    refine ⟨F, A, ρ, r, Run.imp (Run.bind h) fun fl _ hq => ?_⟩
    cases fl with
    | nx ρ1 =>
      replace hq : Run c (WM W Z.M σ) σ H F (Own A) (g ρ1) (EndS c Z Γ' D σ H F A) := hq
      exact fun σ1 H1 F1 A1 a r1 n => tS.go (Q1 := fun _ => True) r1 a n (fun _ h => h) (hq.at n fun _ h => h)
    | bk ρ1 => exact hq
    | ct ρ1 => exact hq
    | rt d ρ1 => exact hq
/-- levels go down ahead of a statement -/
theorem tS.lev (hl : ∀ i, Γ1.getD i 0 ≤ Γ.getD i 0) (h : tS c W Z Γ Γ' f D σ H) : tS c W Z Γ1 Γ' f D σ H := by
  obtain ⟨F, A, ρ, r, h⟩ := h
  obtain ⟨F1, A1, r1, n1⟩ := r.relevel (Γ' := Γ1) fun i _ _ => hl i
  exact tS.go (Q1 := fun _ => True) r1 .refl n1 (fun _ h => h) (h.at n1 fun _ h => h)
theorem ss_lev (h : SS c W Z Γ1 Γ' Y st f) (hl : ∀ i, Γ1.getD i 0 ≤ Γ.getD i 0) : SS c W Z Γ Γ' Y st f := PS.imp h fun _ _ _ => tS.lev hl
theorem sss_lev (h : SSs c W Z Γ1 Γ' Y sts f) (hl : ∀ i, Γ1.getD i 0 ≤ Γ.getD i 0) : SSs c W Z Γ Γ' Y sts f := PSs.imp h fun _ _ _ => tS.lev hl
/-- .. behind one -/
theorem tS.post (hl : ∀ i, Γ'.getD i 0 ≤ Γ1.getD i 0) (h : tS c W Z Γ Γ' f D σ H) : tS c W Z Γ Γ1 f D σ H := by
  obtain ⟨F, A, ρ, r, h⟩ := h
  refine ⟨F, A, ρ, r, h.imp fun fl _ e => ?_⟩
  cases fl with
  | nx ρ1 =>
    intro σ' H' F' A' a r1 n
    obtain ⟨F2, A2, r2, n2⟩ := r1.relevel (Γ' := Γ') fun i _ _ => hl i
    exact e σ' H' F2 A2 a r2 (n.trans n2)
  | bk ρ1 => exact e
  | ct ρ1 => exact e
  | rt d ρ1 => exact e
theorem ss_post (h : SS c W Z Γ Γ1 Y st f) (hl : ∀ i, Γ'.getD i 0 ≤ Γ1.getD i 0) : SS c W Z Γ Γ' Y st f := PS.imp h fun _ _ _ => tS.post hl
theorem sss_post (h : SSs c W Z Γ Γ1 Y sts f) (hl : ∀ i, Γ'.getD i 0 ≤ Γ1.getD i 0) : SSs c W Z Γ Γ' Y sts f := PSs.imp h fun _ _ _ => tS.post hl

theorem ss_pass : SS c W Z Γ Γ Y (.Pass pos) (fun ρ => .ok (.nx ρ)) := PS.imp ps_pass fun D σ H ⟨F, A, ρ, r, h⟩ => by
  replace h : EndS c Z Γ D σ H F A (.nx ρ) := h
  exact h σ H F A .refl r Nxt.refl
theorem ss_doc {x j pos'} : SS c W Z Γ Γ Y (.Expr (.Constant (.str x) j pos) pos') (fun ρ => .ok (.nx ρ)) := PS.imp ps_doc fun D σ H ⟨F, A, ρ, r, h⟩ => by
  replace h : EndS c Z Γ D σ H F A (.nx ρ) := h
  exact h σ H F A .refl r Nxt.refl
theorem ss_break : SS c W Z Z.Γb Γ' Y (.Break pos) (fun ρ => .ok (.bk ρ)) := PS.imp ps_break fun D σ H ⟨F, A, ρ, r, h⟩ => by
  replace h : EndS c Z Γ' D σ H F A (.bk ρ) := h
  exact h σ H F A .refl r Nxt.refl
theorem ss_continue : SS c W Z Z.Γc Γ' Y (.Continue pos) (fun ρ => .ok (.ct ρ)) := PS.imp ps_continue fun D σ H ⟨F, A, ρ, r, h⟩ => by
  replace h : EndS c Z Γ' D σ H F A (.ct ρ) := h
  exact h σ H F A .refl r Nxt.refl
/-- an expression within a statement -/
theorem tX.inS {β : Type} {g : Pz.D → Env → R β} {ok : β → Prop} {Rr : V → Hp → Prop} (r : Rep c.X Γ ρ σ H F A)
    (h : Run c (WM W Z.M σ) σ H F (Own A) ((fa ρ).bind fun p => g p.1 p.2) ok)
    (kk : ∀ x H1 F1 A1 d ρ1 B, Out c Γ ka σ ρ H F A ρ1 H1 F1 A1 x d B → Run c (WM W Z.M σ) σ H1 F1 (Own A1) (g d ρ1) ok → Rr x H1) : tX c W Γ ka fa σ H Rr :=
  ⟨F, A, ρ, r, (h.bind.wm .refl).imp fun p _ hp v H' F' A' B o => kk v H' F' A' p.1 p.2 B o (hp.at o.nx0 fun _ z => z)⟩
theorem tF.inS {fs : Env → R (List Pz.D × Env)} {ls : List (Option Nat)} {β : Type} {g : List Pz.D → Env → R β} {ok : β → Prop} {Rr : List V → Hp → Prop} (r : Rep c.X Γ ρ σ H F A)
    (h : Run c (WM W Z.M σ) σ H F (Own A) ((fs ρ).bind fun p => g p.1 p.2) ok)
    (kk : ∀ vs H1 F1 A1 ds ρ1, Mid c Γ σ ρ H F A ρ1 H1 F1 A1 (fun _ => False) pu → ArgP c.X σ F1 ls vs ds → Run c (WM W Z.M σ) σ H1 F1 (Own A1) (g ds ρ1) ok → Rr vs H1) : tF c W Γ ls pu fs σ H Rr :=
  ⟨F, A, ρ, r, (h.bind.wm .refl).imp fun p _ hp vs H' F' A' m ap => kk vs H' F' A' p.1 p.2 m ap (hp.at m.nx0 fun _ z => z)⟩
theorem tX2.inS {fc : Env → R (Bool × Env)} {β : Type} {g : Bool → Env → R β} {ok : β → Prop} {Rr : Bool → Hp → Prop} (r : Rep c.X Γ ρ σ H F A)
    (h : Run c (WM W Z.M σ) σ H F (Own A) ((fc ρ).bind fun p => g p.1 p.2) ok)
    (kk : ∀ x H1 F1 A1 ρ1, Mid c Γ σ ρ H F A ρ1 H1 F1 A1 (fun _ => False) pu → Run c (WM W Z.M σ) σ H1 F1 (Own A1) (g x ρ1) ok → Rr x H1) : tX2 c W Γ pu fc σ H Rr :=
  ⟨F, A, ρ, r, (h.bind.wm .refl).imp fun p _ hp H' F' A' m => kk p.1 H' F' A' p.2 m (hp.at m.nx0 fun _ z => z)⟩
/-- an expression alone -/
theorem ss_exp (h : SX c W Γ k Y e fa) (hs : swapsWith e none pos.line Y.env = pure false) : SS c W Z Γ Γ Y (.Expr e pos) (fun ρ => (fa ρ).bind fun p => .ok (.nx p.2)) :=
  PS.imp (ps_expr h hs) fun D σ H ⟨F, A, ρ, r, h⟩ => tX.inS (g := fun _ ρ1 => (.ok (.nx ρ1) : R Fl)) r h fun x H1 F1 A1 d ρ1 B o h1 => by
    replace h1 : EndS c Z Γ D σ H F A (.nx ρ1) := h1
    exact h1 σ H1 F1 A1 .refl o.rep o.nx0
theorem ss_ret (h : SX c W Γ ⟨true, pa, Z.rl⟩ Y e fa) (hl : ∀ i, Z.Γr.getD i 0 ≤ Γ.getD i 0) : SS c W Z Γ Γ' Y (.Return (some e) pos) (fun ρ => (fa ρ).bind fun p => .ok (.rt p.1 p.2)) :=
  PS.imp (ps_ret h) fun D σ H ⟨F, A, ρ, r, h⟩ => tX.inS (g := fun d ρ1 => (.ok (.rt d ρ1) : R Fl)) r h fun x H1 F1 A1 d ρ1 B o h1 => by
    replace h1 : EndS c Z Γ' D σ H F A (.rt d ρ1) := h1
    obtain ⟨F2, A2, r2, n2⟩ := o.rep.relevel (Γ' := Z.Γr) fun i _ _ => hl i
    have dj : ∀ a ∈ B, ¬ Own A1 a := o.dj rfl
    have nb : ∀ a ∈ B, ¬ Own A2 a := fun a ha z => (n2.own a z).elim (dj a ha) (o.ot.dom a ha).1
    have n3 : Nxt H F (Own A) H1 F2 (fun a => Own A2 a ∨ a ∈ B) := (o.mid.nx.trans (n2.beside (B := fun a => true = true ∧ a ∈ B))).weak (fun _ h => h) fun a z => .inl (z.imp (fun z => z) fun z => ⟨rfl, z⟩)
    exact h1 σ x H1 F2 A2 B .refl r2 n3 (o.ot.step n2 dj) (o.nd rfl) nb
theorem ss_retN (hl : ∀ i, Z.Γr.getD i 0 ≤ Γ.getD i 0) : SS c W Z Γ Γ' Y (.Return none pos) (fun ρ => .ok (.rt .non ρ)) :=
  PS.imp ps_retN fun D σ H ⟨F, A, ρ, r, h⟩ => by
    replace h : EndS c Z Γ' D σ H F A (.rt .non ρ) := h
    obtain ⟨F2, A2, r2, n2⟩ := r.relevel (Γ' := Z.Γr) fun i _ _ => hl i
    exact h σ .non H F2 A2 [] .refl r2 (n2.weak (fun _ h => h) fun a z => .inl (z.elim (fun z => z) fun z => absurd z (by simp))) (.atom .non rfl) List.nodup_nil fun _ z => absurd z (by simp)
/-- if -/
theorem ss_if {p q : List Stmt} {fc : Env → R (Bool × Env)} (hc : SC c W Γ pc Y e fc) (ha : SSs c W Z Γ Γ' Y p f) (hb : SSs c W Z Γ Γ' Y q g) :
    SS c W Z Γ Γ' Y (.If e p q pos) (fun ρ => (fc ρ).bind fun t => if t.1 then f t.2 else g t.2) :=
  PS.imp (ps_if hc ha hb) fun D σ H ⟨F, A, ρ, r, h⟩ => tX2.inS (pu := pc) (g := fun b ρ1 => if b then f ρ1 else g ρ1) r h fun x H1 F1 A1 ρ1 m h1 => by
    cases x with
    | true => exact tS.go (Q1 := fun _ => True) m.rep .refl m.nx0 (fun _ h => h) h1
    | false => exact tS.go (Q1 := fun _ => True) m.rep .refl m.nx0 (fun _ h => h) h1
end
end Pz
end
section
set_option Elab.async false
set_option linter.all false
/-! Targets, walks, loops. -/
namespace Pz
open PySem PySem.Spec PyProof.Rows L2

/-! ### targets -/
def tG (c : Cf) (W : WX) (Z : Zd) (Γ Γ' : List Nat) (g : D → Env → R Env) : TG := fun v σ H Q =>
  ∃ F A ρ d, Rep c.X Γ ρ σ H F A ∧ RD c.X F v d ∧ Run c (WM W Z.M σ) σ H F (Own A) (g d ρ) fun ρ' => ∀ σ' H' F' A', Agree Z.M σ σ' → Rep c.X Γ' ρ' σ' H' F' A' → Nxt H F (Own A) H' F' (Own A') → Q σ' H'
abbrev SG (c : Cf) (W : WX) (Z : Zd) (Γ Γ' : List Nat) (Y : Cx) (e : Expr) (g : D → Env → R Env) : Prop := PG Y e (tG c W Z Γ Γ' g)
def tGs (c : Cf) (W : WX) (Z : Zd) (Γ Γ' : List Nat) (g : List D → Env → R Env) : TGs := fun vs σ H Q =>
  ∃ F A ρ, ∃ ps : List (V × D), vs = ps.map (·.1) ∧ Rep c.X Γ ρ σ H F A ∧ (∀ p ∈ ps, RD c.X F p.1 p.2) ∧ Run c (WM W Z.M σ) σ H F (Own A) (g (ps.map (·.2)) ρ) fun ρ' => ∀ σ' H' F' A', Agree Z.M σ σ' → Rep c.X Γ' ρ' σ' H' F' A' → Nxt H F (Own A) H' F' (Own A') → Q σ' H'
abbrev SGs (c : Cf) (W : WX) (Z : Zd) (Γ Γ' : List Nat) (Y : Cx) (es : List Expr) (g : List D → Env → R Env) : Prop := PGs Y es (tGs c W Z Γ Γ' g)
theorem PG.imp {Y : Cx} {e : Expr} {t u : TG} (h : PG Y e t) (i : ∀ v σ H Q, u v σ H Q → t v σ H Q) : PG Y e u := ⟨fun pins s σ H v w Q I r z => h.run pins s σ H v w Q I r (i v σ H Q z)⟩
theorem PGs.imp {Y : Cx} {e : List Expr} {t u : TGs} (h : PGs Y e t) (i : ∀ v σ H Q, u v σ H Q → t v σ H Q) : PGs Y e u := ⟨fun pins s σ H v w Q I r z => h.run pins s σ H v w Q I r (i v σ H Q z)⟩

section
variable {c : Cf} {W : WX} {Z : Zd} {Γ Γ1 Γ' : List Nat} {Y : Cx} {e a b : Expr} {es : List Expr} {pos : Pos} {σ σ1 : Sl} {ρ ρ' ρ1 ρ2 : Env} {H F H' F' H1 F1 H2 F2 : Hp} {A A' A1 A2 : Nat → List Addr} {v : V} {d : D} {B : List Addr}
/-- a slot gets an own value -/
theorem Rep.store {i n : Nat} (r : Rep c.X Γ ρ σ H F A) (hg : i < Γ.length) (o : OT c.X H F n v d B) (nb : B.Nodup) (dj : ∀ a ∈ B, ¬ Own A a) :
    ∃ A', Rep c.X (Γ.set i n) (st ρ i d) (σ.set i (some v)) H F A' ∧ ∀ a, Own A' a → Own A a ∨ a ∈ B := by
  by_cases hi : i < ρ.length
  · exact ⟨_, r.put hi hg o nb fun a ha j _ z => dj a ha ⟨j, z⟩, fun a ⟨j, h⟩ => by
      by_cases e : j = i
      · simp only [e, if_true] at h; exact .inr h
      · simp only [e, if_false] at h; exact .inl ⟨j, h⟩⟩
  · have e1 : st ρ i d = ρ := List.set_eq_of_length_le (by omega)
    have e2 : σ.set i (some v) = σ := List.set_eq_of_length_le (by rw [← r.len]; omega)
    rw [e1, e2]
    refine ⟨A, ⟨r.sub, r.len, fun j d' hj => ?_, r.non, r.nd, r.dis⟩, fun a h => .inl h⟩
    have : j < ρ.length := (List.getElem?_eq_some_iff.mp hj).1
    rw [getD_set_ne (by omega)]
    exact r.val j d' hj
theorem sg_name {i : Nat} {x : Str} (hN : Y.N.Nodup) (hi : Y.N[i]? = some x) (hx : Loc Y.env.scope x) (hf : Y.fn x = true ∨ Y.env.scope.names.lookup x = some .local) (hg : i < Γ.length) (hM : Z.M i = true) :
    SG c W Z Γ (Γ.set i 0) Y (.Name x pos) (fun d ρ => .ok (st ρ i d)) :=
  PG.imp (pg_name hN hi hx hf) fun v σ H Q ⟨F, A, ρ, d, r, rd, h⟩ => by
    replace h : ∀ σ' H' F' A', Agree Z.M σ σ' → Rep c.X (Γ.set i 0) (st ρ i d) σ' H' F' A' → Nxt H F (Own A) H' F' (Own A') → Q σ' H' := h
    obtain ⟨A', r', o'⟩ := r.store hg (n := 0) (B := []) ⟨rfl, rd⟩ List.nodup_nil fun _ z => absurd z (by simp)
    exact h _ H F A' (.set hM) r' (Nxt.refl.weak (fun _ h => h) fun a z => .inl ((o' a z).elim (fun z => z) fun z => absurd z (by simp)))
theorem sgs_nil : SGs c W Z Γ Γ Y [] (fun l ρ => if l.isEmpty then .ok ρ else bad) := PGs.imp pgs_nil fun vs σ H Q ⟨F, A, ρ, ps, e, r, rd, h⟩ => by
  cases ps with
  | nil =>
    replace h : ∀ σ' H' F' A', Agree Z.M σ σ' → Rep c.X Γ ρ σ' H' F' A' → Nxt H F (Own A) H' F' (Own A') → Q σ' H' := h
    exact ⟨e, h σ H F A .refl r Nxt.refl⟩
  | cons p ps => exact h.elim
def consG (g : D → Env → R Env) (gs : List D → Env → R Env) : List D → Env → R Env := fun l ρ => (match l with
  | x :: l => (g x ρ).bind fun ρ' => gs l ρ'
  | [] => bad)
theorem sgs_cons {g : D → Env → R Env} {gs : List D → Env → R Env} (h1 : SG c W Z Γ Γ1 Y e g) (h2 : SGs c W Z Γ1 Γ' Y es gs)
    (hh : (assignEach (e :: es) Y.env).map (·.2) = assign e Y.env :: (assignEach es Y.env).map (·.2)) : SGs c W Z Γ Γ' Y (e :: es) (consG g gs) :=
  PGs.imp (pgs_cons h1 h2 hh) fun vs σ H Q ⟨F, A, ρ, ps, e, r, rd, h⟩ => by
    cases ps with
    | nil => exact h.elim
    | cons p ps =>
      subst e
      refine ⟨p.1, ps.map (·.1), rfl, F, A, ρ, p.2, r, rd p List.mem_cons_self, Run.imp (Run.bind h) fun ρ1 _ hq σ1 H1 F1 A1 ag r1 n1 => ?_⟩
      exact ⟨F1, A1, ρ1, ps, rfl, r1, fun q hq => (rd q (List.mem_cons_of_mem _ hq)).mono n1.fro, ((hq.at n1 fun _ h => h).wms ag).imp fun ρ2 _ k σ2 H2 F2 A2 b r2 n2 => k σ2 H2 F2 A2 (ag.trans b) r2 (n1.trans n2)⟩
theorem sg_tup {g : List D → Env → R Env} {kk n : Nat} (cx : Ctx c W Y) (h : SGs c W Z Γ Γ' Y es g) (hn : (assignEach es Y.env).length = n) (hst : (assignEach es Y.env).findIdx? (·.1) = none) :
    SG c W Z Γ Γ' Y (.Tuple es kk pos) (fun d ρ => (optR (itemsT n d)).bind fun l => g l ρ) :=
  PG.imp (pg_tup cx.calm h hn hst) fun v σ H Q ⟨F, A, ρ, d, r, rd, h⟩ => by
    obtain ⟨l, e, hh⟩ := Run.opt h
    cases d <;> first | (cases e; done) | skip
    rename_i l'
    replace e : (if l'.length = n then some l' else none) = some l := e
    split at e <;> cases e
    rename_i hl
    obtain ⟨a, ps, rfl, rfl, s, rr⟩ := rd.tup_eq
    rw [cx.K]
    exact ⟨a, _, rfl, r.sub.sqT s, by simpa using hl, F, A, ρ, ps, rfl, r, rr, hh⟩

/-! ### walks -/
/-- the items of a walk are those of l, frozen -/
def Iters (X : Tx) (F1 : Hp) (J : It) (l : List D) : Prop :=
  ∃ G : Hp → Prop, (∀ H', Sub F1 H' → G H') ∧ Walk J l.length G fun i H x H' => ∀ F', Sub F1 F' → Sub F' H → ∀ d, l[i]? = some d → ∃ F'', Sub H H' ∧ Sub F' F'' ∧ Sub F'' H' ∧ (∀ a, F'' a ≠ none → F' a ≠ none ∨ H a = none) ∧ RD X F'' x d
def tI (c : Cf) (W : WX) (Γ : List Nat) (pu : Bool) (f : Env → R (List D × Env)) : TI := fun σ H Rr =>
  ∃ F A ρ, Rep c.X Γ ρ σ H F A ∧ Run c W σ H F (Own A) (f ρ) fun p => ∀ J H1 F1 A1, Mid c Γ σ ρ H F A p.2 H1 F1 A1 (fun _ => False) pu → Iters c.X F1 J p.1 → Rr J H1
abbrev SI (c : Cf) (W : WX) (Γ : List Nat) (pu : Bool) (Y : Cx) (tg e : Expr) (f : Env → R (List D × Env)) : Prop := PI Y tg e (tI c W Γ pu f)
theorem PI.imp {Y : Cx} {tg e : Expr} {t u : TI} (h : PI Y tg e t) (i : ∀ σ H Q, u σ H Q → t σ H Q) : PI Y tg e u := ⟨fun pins s σ H Q I z => h.run pins s σ H Q I (i σ H Q z)⟩

/-- a list, a tuple, a text -/
def iSeq (K : PySem.W.Frag) (te : TE) : TI := fun σ H Rr => te σ H fun x H1 => (∃ a, x = .ref a ∧ (∃ xs, SqL K H1 a xs) ∧ Rr (Itl K a) H1) ∨ (∃ a, x = .ref a ∧ (∃ xs, SqT K H1 a xs) ∧ Rr (Itt K a) H1) ∨ ∃ z, x = .str z ∧ Rr (Its z) H1
theorem pi_seq {tg l : Expr} {tl : TE} (hl : PE Y l tl) : PI Y tg l (iSeq Y.K tl) := by
  refine ⟨fun pins s σ H Rr I h => ?_⟩
  refine thn (hl.run pins s σ H _ I h) fun v s1 ⟨x, H1, I1, r1, q1⟩ => ?_
  rcases q1 with ⟨a, e, ⟨xs, hq⟩, q⟩ | ⟨a, e, ⟨xs, hq⟩, q⟩ | ⟨z, ex, q⟩
  · subst e
    cases r1
    obtain ⟨its, rv, p, hz⟩ := I1.list hq
    refine wpAny_pyIter_list p.isList ?_
    refine ⟨s1.heap.objs.size, [s1.heap.objs.size], _, _, H1, rfl, I1.kept (t' := s1.toks) fun b o e => Heap.get?_push_of_some _ e, turn_list a _, ⟨_, Heap.get?_push_size _ rfl, rfl, rfl⟩, fun b hb => ?_, q⟩
    have e : b = s1.heap.objs.size := by simpa using hb
    subst e
    exact I1.fpOk (Nat.le_refl _) (I1.hok.fresh (Nat.le_refl _))
  · subst e
    cases r1
    obtain ⟨its, rv, p, hz⟩ := I1.tuple hq
    refine wpAny_pyIter_tuple (show s1.heap.IsTuple a its.toArray from p) ?_
    refine ⟨s1.heap.objs.size, [s1.heap.objs.size], _, _, H1, rfl, I1.kept (t' := s1.toks) fun b o e => Heap.get?_push_of_some _ e, turn_tuple a _, ⟨_, Heap.get?_push_size _ rfl, rfl, rfl⟩, fun b hb => ?_, q⟩
    have e : b = s1.heap.objs.size := by simpa using hb
    subst e
    exact I1.fpOk (Nat.le_refl _) (I1.hok.fresh (Nat.le_refl _))
  · subst ex
    obtain ⟨t, rfl⟩ := r1
    cases ha : z.cps.all (· < 128)
    · exact wpAny_pyIter_wide ha (pi_one (tk := s1.toks) I1 _ (turn_str _ z t "str_iterator" (.inr rfl)) ⟨_, Heap.get?_push_size _ rfl, rfl, rfl⟩ q)
    · exact wpAny_pyIter_ascii ha (pi_one (tk := s1.toks) I1 _ (turn_str _ z t "str_ascii_iterator" (.inl rfl)) ⟨_, Heap.get?_push_size _ rfl, rfl, rfl⟩ q)
theorem iters_same {X : Tx} {F1 : Hp} {J : It} {l : List D} {G : Hp → Prop} (hg : ∀ H', Sub F1 H' → G H') (w : Walk J l.length G fun i H x H' => H' = H ∧ ∀ d, l[i]? = some d → RD X F1 x d) : Iters X F1 J l :=
  ⟨G, hg, w.mono (fun _ h => h) fun i H x H' _ _ ⟨e, h⟩ F' s1 s2 d hd => ⟨F', by rw [e]; exact Sub.refl _, Sub.refl _, by rw [e]; exact s2, fun _ z => .inl z, (h d hd).mono s1⟩⟩
theorem si_wlk {fa : Env → R (D × Env)} {pa : Bool} {tg : Expr} (cx : Ctx c W Y) (ha : SX c W Γ ⟨true, pa, 0⟩ Y a fa) : SI c W Γ pa Y tg a (fun ρ => (fa ρ).bind fun p => (optR (itemsD p.1)).bind fun l => .ok (l, p.2)) :=
  PI.imp (pi_seq ha) fun σ H Rr ⟨F, A, ρ, r, h⟩ => tX.one (g := fun d ρ1 => (optR (itemsD d)).bind fun l => .ok (l, ρ1)) r h fun x H1 F1 A1 d ρ1 B o h1 => by
    obtain ⟨l, e, h1⟩ := Run.opt h1
    replace h1 : ∀ J H2 F2 A2, Mid c Γ σ ρ H F A ρ1 H2 F2 A2 (fun _ => False) pa → Iters c.X F2 J l → Rr J H2 := h1
    have m := o.mid.weak (q1 := fun _ => False) (fun _ z => z.elim) fun z => z
    have rd := o.ot.2
    rw [cx.K]
    cases d <;> first | (cases e; done) | skip
    · rename_i s
      cases e
      refine .inr (.inr ⟨_, rd.str_eq, h1 _ _ _ _ m (iters_same (G := fun _ => True) (fun _ _ => trivial) ?_)⟩)
      have w := walk_str (z := ⟨s.toArray⟩)
      have e1 : (s.map fun ch => D.str [ch]).length = (⟨s.toArray⟩ : Str).cps.size := by simp
      rw [e1]
      refine w.mono (fun _ h => h) fun i H x H' hi _ ⟨e, ch, hc, hx⟩ => ⟨e, fun d hd => ?_⟩
      rw [List.getElem?_map] at hd
      obtain ⟨ch', h3, rfl⟩ := Option.map_eq_some_iff.mp hd
      replace hc : s[i]? = some ch := by simpa using hc
      rw [hc] at h3
      cases h3
      rw [hx]
      exact .str [ch]
    · rename_i l'
      cases e
      obtain ⟨a1, ps, rfl, rfl, s1, r1⟩ := rd.lst_eq
      refine .inl ⟨a1, rfl, ⟨_, o.rep.sub.sqL s1⟩, h1 _ _ _ _ m (iters_same (G := fun H => SqL c.X.K H a1 (ps.map (·.1))) (fun H' s => s.sqL s1) ?_)⟩
      have w := walk_list (K := c.X.K) (a := a1) (xs := ps.map (·.1))
      rw [List.length_map] at w ⊢
      refine w.mono (fun _ h => h) fun i H x H' hi _ ⟨e, hx⟩ => ⟨e, fun d hd => ?_⟩
      rw [List.getElem?_map] at hd hx
      obtain ⟨p, h3, rfl⟩ := Option.map_eq_some_iff.mp hd
      rw [h3] at hx
      cases hx
      exact r1 p (List.mem_of_getElem? h3)
    · rename_i l'
      cases e
      obtain ⟨a1, ps, rfl, rfl, s1, r1⟩ := rd.tup_eq
      refine .inr (.inl ⟨a1, rfl, ⟨_, o.rep.sub.sqT s1⟩, h1 _ _ _ _ m (iters_same (G := fun H => SqT c.X.K H a1 (ps.map (·.1))) (fun H' s => s.sqT s1) ?_)⟩)
      have w := walk_tup (K := c.X.K) (a := a1) (xs := ps.map (·.1))
      rw [List.length_map] at w ⊢
      refine w.mono (fun _ h => h) fun i H x H' hi _ ⟨e, hx⟩ => ⟨e, fun d hd => ?_⟩
      rw [List.getElem?_map] at hd hx
      obtain ⟨p, h3, rfl⟩ := Option.map_eq_some_iff.mp hd
      rw [h3] at hx
      cases hx
      exact r1 p (List.mem_of_getElem? h3)

theorem ArgP.one {X : Tx} {σ : Sl} {F : Hp} {vs ds} (h : ArgP X σ F [none] vs ds) : ∃ v d, vs = [v] ∧ ds = [d] ∧ RD X F v d := by
  cases h with | frz r h => cases h; exact ⟨_, _, rfl, rfl, r⟩
theorem ArgP.two {X : Tx} {σ : Sl} {F : Hp} {vs ds} (h : ArgP X σ F [none, none] vs ds) : ∃ v d w e, vs = [v, w] ∧ ds = [d, e] ∧ RD X F v d ∧ RD X F w e := by
  cases h with | frz r h => obtain ⟨w, e, rfl, rfl, r2⟩ := h.one; exact ⟨_, _, _, _, rfl, rfl, r, r2⟩
theorem ArgP.three {X : Tx} {σ : Sl} {F : Hp} {vs ds} (h : ArgP X σ F [none, none, none] vs ds) : ∃ v d w e x f, vs = [v, w, x] ∧ ds = [d, e, f] ∧ RD X F v d ∧ RD X F w e ∧ RD X F x f := by
  cases h with | frz r h => obtain ⟨w, e, x, f, rfl, rfl, r2⟩ := h.two; exact ⟨_, _, _, _, _, _, rfl, rfl, r, r2⟩
theorem small_ok {i : Int} (h : small i = true) : -(2 ^ 62) ≤ i ∧ i < 2 ^ 62 := by
  unfold small at h
  rw [decide_eq_true_eq] at h
  omega
theorem iters_fn {X : Tx} {F1 : Hp} {J : It} {n : Nat} {f : Nat → Int} (w : Walk J n (fun _ => True) (YFn fun i => .int (f i))) : Iters X F1 J ((List.range n).map fun i => .int (f i)) := by
  refine iters_same (G := fun _ => True) (fun _ _ => trivial) ?_
  have e1 : ((List.range n).map fun i => D.int (f i)).length = n := by simp
  rw [e1]
  refine w.mono (fun _ h => h) fun i H x H' hi _ ⟨e, hx⟩ => ⟨e, fun d hd => ?_⟩
  rw [List.getElem?_map, List.getElem?_range hi] at hd
  cases hd
  rw [hx]
  exact .int _
theorem si_rng1 {fs : Env → R (List D × Env)} {pa : Bool} {tg : Expr} {p : Pos} (ha : SA c W Γ [none] pa Y [a] fs) (hg : Gl Y "range") (hm : Y.mg "range" = none) (hs : starEach [a] Y.env = [(false, eval a Y.env)]) :
    SI c W Γ pa Y tg (.Call (.Name "range" p) [a] [] pos) (fun ρ => (fs ρ).bind fun p => (optR (rngD p.1)).bind fun l => .ok (l, p.2)) :=
  PI.imp (pi_range1 hg hm ha hs) fun σ H Rr ⟨F, A, ρ, r, h⟩ => tF.one (g := fun d ρ1 => (optR (rngD d)).bind fun l => .ok (l, ρ1)) r h fun vs H1 F1 A1 ds ρ1 m ap h1 => by
    obtain ⟨l, e, h2⟩ := Run.opt h1
    replace h2 : ∀ J H2 F2 A2, Mid c Γ σ ρ H F A ρ1 H2 F2 A2 (fun _ => False) pa → Iters c.X F2 J l → Rr J H2 := h2
    obtain ⟨v, d, rfl, rfl, rd⟩ := ap.one
    cases d <;> first | (cases e; done) | skip
    rename_i j
    replace e : (if small j then some (rangeL 0 j) else none) = some l := e
    split at e <;> cases e
    rename_i hj
    have hj := small_ok hj
    refine ⟨j, by rw [rd.int_eq], hj.1, hj.2, h2 _ _ _ _ m ?_⟩
    have := iters_fn (X := c.X) (F1 := F1) (walk_range (lo := 0) (n := j.toNat))
    unfold rangeL
    rw [show (j - 0).toNat = j.toNat by rw [Int.sub_zero]]
    exact this
theorem si_rng2 {fs : Env → R (List D × Env)} {pa : Bool} {tg : Expr} {p : Pos} (ha : SA c W Γ [none, none] pa Y [a, b] fs) (hg : Gl Y "range") (hm : Y.mg "range" = none) (hs : starEach [a, b] Y.env = [(false, eval a Y.env), (false, eval b Y.env)]) (hs2 : starEach [b] Y.env = [(false, eval b Y.env)]) :
    SI c W Γ pa Y tg (.Call (.Name "range" p) [a, b] [] pos) (fun ρ => (fs ρ).bind fun p => (optR (rngD p.1)).bind fun l => .ok (l, p.2)) :=
  PI.imp (pi_range2 hg hm ha hs hs2) fun σ H Rr ⟨F, A, ρ, r, h⟩ => tF.one (g := fun d ρ1 => (optR (rngD d)).bind fun l => .ok (l, ρ1)) r h fun vs H1 F1 A1 ds ρ1 m ap h1 => by
    obtain ⟨l, e, h2⟩ := Run.opt h1
    replace h2 : ∀ J H2 F2 A2, Mid c Γ σ ρ H F A ρ1 H2 F2 A2 (fun _ => False) pa → Iters c.X F2 J l → Rr J H2 := h2
    obtain ⟨v, d, w, d', rfl, rfl, rd, rd'⟩ := ap.two
    cases d <;> first | (cases e; done) | skip
    rename_i i
    cases d' <;> first | (cases e; done) | skip
    rename_i j
    replace e : (if small i && small j then some (rangeL i j) else none) = some l := e
    split at e <;> cases e
    rename_i hij
    rw [Bool.and_eq_true] at hij
    have hi := small_ok hij.1
    have hj := small_ok hij.2
    refine ⟨i, j, by rw [rd.int_eq, rd'.int_eq], ⟨hi.1, hi.2, hj.1, hj.2⟩, h2 _ _ _ _ m ?_⟩
    exact iters_fn (X := c.X) (F1 := F1) (walk_range (lo := i) (n := (j - i).toNat))

theorem si_rng3 {d0 : Expr} {fs : Env → R (List D × Env)} {pa : Bool} {tg : Expr} {p : Pos} (ha : SA c W Γ [none, none, none] pa Y [a, b, d0] fs) (hg : Gl Y "range") (hm : Y.mg "range" = none) (hs : starEach [a, b, d0] Y.env = (false, eval a Y.env) :: starEach [b, d0] Y.env) (hs2 : (backTo pos (starEach [b, d0] Y.env)).any (·.1) = false) :
    SI c W Γ pa Y tg (.Call (.Name "range" p) [a, b, d0] [] pos) (fun ρ => (fs ρ).bind fun p => (optR (rngD p.1)).bind fun l => .ok (l, p.2)) :=
  PI.imp (pi_range3 hg hm ha hs hs2) fun σ H Rr ⟨F, A, ρ, r, h⟩ => tF.one (g := fun d ρ1 => (optR (rngD d)).bind fun l => .ok (l, ρ1)) r h fun vs H1 F1 A1 ds ρ1 m ap h1 => by
    obtain ⟨l, e, h2⟩ := Run.opt h1
    replace h2 : ∀ J H2 F2 A2, Mid c Γ σ ρ H F A ρ1 H2 F2 A2 (fun _ => False) pa → Iters c.X F2 J l → Rr J H2 := h2
    obtain ⟨v, d, w, d', x, d'', rfl, rfl, rd, rd', rd''⟩ := ap.three
    cases d <;> first | (cases e; done) | skip
    rename_i i
    cases d' <;> first | (cases e; done) | skip
    rename_i j
    cases d'' <;> first | (cases e; done) | skip
    rename_i k
    replace e : (if small i && small j && decide (k = -1) then some (rangeDown i j) else none) = some l := e
    split at e <;> cases e
    rename_i hij
    simp only [Bool.and_eq_true, decide_eq_true_eq] at hij
    obtain ⟨⟨hi, hj⟩, rfl⟩ := hij
    have hi := small_ok hi
    have hj := small_ok hj
    refine ⟨i, j, -1, (i - j).toNat, by rw [rd.int_eq, rd'.int_eq, rd''.int_eq], .neg hi.1 hi.2 hj.1 hj.2, h2 _ _ _ _ m ?_⟩
    have := iters_fn (X := c.X) (F1 := F1) (walk_rangeC (lo := i) (c := -1) (n := (i - j).toNat))
    have e2 : rangeDown i j = (List.range (i - j).toNat).map fun (q : Nat) => D.int (i + (q : Nat) * (-1)) := by
      unfold rangeDown
      congr 1
      funext q
      congr 1
      omega
    rw [e2]
    exact this

/-! ### loops -/
theorem unset_get {m : List Nat} {i : Nat} {d : D} : ∀ {ρ : Env}, (unset ρ m)[i]? = some (some d) → i ∉ m ∧ ρ[i]? = some (some d) := by
  induction m with
  | nil => exact fun h => ⟨by simp, h⟩
  | cons j m ih =>
    intro ρ h
    obtain ⟨h1, h2⟩ := ih (ρ := ρ.set j none) h
    by_cases e : j = i
    · subst e
      by_cases hl : j < ρ.length
      · rw [List.getElem?_set_self hl] at h2; cases h2
      · rw [List.getElem?_eq_none (by simpa using hl)] at h2; cases h2
    · rw [List.getElem?_set_ne e] at h2
      exact ⟨by simp only [List.mem_cons, not_or]; exact ⟨fun z => e z.symm, h1⟩, h2⟩
/-- masked, then at lower levels -/
theorem Rep.masked {m : List Nat} (r : Rep c.X Γ1 ρ σ H F A) (h : ∀ i, i ∉ m → Γ'.getD i 0 ≤ Γ1.getD i 0) : ∃ F' A', Rep c.X Γ' (Pz.unset ρ m) σ H F' A' ∧ Nxt H F (Own A) H F' (Own A') := by
  obtain ⟨A1, r1, o1⟩ := r.unset m
  obtain ⟨F2, A2, r2, n2⟩ := r1.relevel (Γ' := Γ') fun i d e => h i (unset_get e).1
  exact ⟨F2, A2, r2, n2.weak o1 fun a z => .inl z⟩
def stepR (g : D → Env → R Env) (b : Env → R Fl) (m : List Nat) : D → Env → R Fl := fun x ρ => (g x ρ).bind fun ρ' => (b ρ').map (maskFl m)
theorem map_bind {α β : Type} (m : R α) (f : α → β) : m.map f = m.bind fun a => .ok (f a) := by cases m <;> rfl
def forK (f : D → Env → R Fl) (l : List D) : Fl → R Fl
  | .nx ρ' => forR f l ρ'
  | .ct ρ' => forR f l ρ'
  | .bk ρ' => .ok (.nx ρ')
  | .rt d ρ' => .ok (.rt d ρ')
theorem forR_cons (f : D → Env → R Fl) (x : D) (l : List D) (ρ : Env) : forR f (x :: l) ρ = (f x ρ).bind (forK f l) := by
  show (f x ρ).bind _ = _
  congr 1
theorem ss_for {iter tg : Expr} {body : List Stmt} {fi : Env → R (List D × Env)} {g : D → Env → R Env} {fb : Env → R Fl} {pi : Bool} {Γb Γc Γe : List Nat} {m : List Nat} (cx : Ctx c W Y) (hp : PassesOwn (model Y.prog Y.w) Y.A Y.env Y.xe)
    (hi : SI c W Γ pi Y tg iter fi) (hg : SG c W { Z with Γb := Γb, Γc := Γc } Γ Γ1 Y tg g) (hb : SSs c W { Z with Γb := Γb, Γc := Γc } Γ1 Γe Y body fb)
    (h1 : ∀ i, i ∉ m → Γ.getD i 0 ≤ Γe.getD i 0) (h2 : ∀ i, i ∉ m → Γ.getD i 0 ≤ Γb.getD i 0) (h3 : ∀ i, i ∉ m → Γ.getD i 0 ≤ Γc.getD i 0) (hs : ∀ x, foldedSetIterable iter Y.env x = pure x) :
    SS c W Z Γ Γ Y (.For tg iter body [] pos) (fun ρ => (fi ρ).bind fun p => forR (stepR g fb m) p.1 p.2) :=
  PS.imp (ps_for hp cx.calm hi hg hb hs) fun D σ H ⟨F, A, ρ, r, h⟩ => by
    refine ⟨F, A, ρ, r, (h.bind.wm .refl).imp fun p _ hq J H1 F1 A1 md ⟨G, gG, w⟩ => ?_⟩
    let Pv : Nat → Sl → Hp → Prop := fun i σ' H' => ∃ F' A' ρ', Sub F1 F' ∧ Rep c.X Γ ρ' σ' H' F' A' ∧ Agree Z.M σ σ' ∧ Nxt H F (Own A) H' F' (Own A') ∧ Run c (WM W Z.M σ') σ' H' F' (Own A') (forR (stepR g fb m) (p.1.drop i) ρ') (EndS c Z Γ D σ H F A)
    refine for_it w Pv ⟨F1, A1, p.2, Sub.refl _, md.rep, .refl, md.nx0, hq.at md.nx0 fun _ z => z⟩ (fun i σ' H' _ ⟨F', A', ρ', s, r', _⟩ => gG H' (s.trans r'.sub)) ?_ ?_
    · intro i x σ' H' H'' hlt ⟨F', A', ρ', s, r', ag, n', hr⟩ hy
      obtain ⟨d, hd⟩ : ∃ d, p.1[i]? = some d := ⟨p.1[i], List.getElem?_eq_getElem hlt⟩
      obtain ⟨F'', k1, k2, k3, k4, rx⟩ := hy F' s r'.sub d hd
      have nn : Nxt H' F' (fun _ => False) H'' F'' (fun _ => False) := ⟨fun a o e _ => k1 a o e, k2, fun a e => (k4 a e).elim .inl fun z => .inr (.inr z), fun _ z => z.elim⟩
      have r2 : Rep c.X Γ ρ' σ' H'' F'' A' := r'.step nn k3 fun _ _ z => z
      have nn' : Nxt H' F' (Own A') H'' F'' (Own A') := nn.weak (fun _ z => z.elim) fun a z => .inr z
      have ed : p.1.drop i = d :: p.1.drop (i + 1) := by
        rw [List.drop_eq_getElem_cons hlt]
        congr 1
        have := List.getElem?_eq_getElem hlt
        rw [hd] at this
        exact (Option.some.inj this).symm
      rw [ed, forR_cons] at hr
      have hr2 : Run c (WM W Z.M σ') σ' H'' F'' (Own A') (((g d ρ').bind fun ρ1 => (fb ρ1).map (maskFl m)).bind (forK (stepR g fb m) (p.1.drop (i + 1)))) (EndS c Z Γ D σ H F A) := hr.at nn' fun _ z => z
      rw [bind_assoc] at hr2
      refine ⟨F'', A', ρ', d, r2, rx, hr2.bind.imp fun ρ1 _ hb2 σ2 H2 F2 A2 ag2 r3 n3 => ?_⟩
      replace hb2 := hb2.at n3 (fun _ z => z)
      rw [map_bind, bind_assoc] at hb2
      refine ⟨F2, A2, ρ1, r3, (hb2.wms ag2).bind.imp fun fl _ hk => ?_⟩
      have nA : Nxt H F (Own A) H2 F2 (Own A2) := (n'.trans nn').trans n3
      have cont : ∀ {Γk : List Nat} {ρk : Env}, (∀ i, i ∉ m → Γ.getD i 0 ≤ Γk.getD i 0) → Run c (WM W Z.M σ2) σ2 H2 F2 (Own A2) (forR (stepR g fb m) (p.1.drop (i + 1)) (unset ρk m)) (EndS c Z Γ D σ H F A) →
          ∀ σ3 H3 F3 A3, Agree Z.M σ2 σ3 → Rep c.X Γk ρk σ3 H3 F3 A3 → Nxt H2 F2 (Own A2) H3 F3 (Own A3) → Pv (i + 1) σ3 H3 := by
        intro Γk ρk hk' hk σ3 H3 F3 A3 ag3 r4 n4
        obtain ⟨F4, A4, r5, n5⟩ := r4.masked hk'
        refine ⟨F4, A4, _, s.trans (k2.trans (n3.fro.trans (n4.fro.trans n5.fro))), r5, ag.trans (ag2.trans ag3), nA.trans (n4.trans n5), ?_⟩
        exact (hk.at (n4.trans n5) fun _ z => z).wms ag3
      cases fl with
      | nx ρk => exact cont h1 hk
      | ct ρk => exact cont h3 hk
      | bk ρk =>
        intro σ3 H3 F3 A3 ag3 r4 n4
        obtain ⟨F4, A4, r5, n5⟩ := r4.masked h2
        replace hk : EndS c Z Γ D σ H F A (.nx (unset ρk m)) := hk
        exact hk σ3 H3 F4 A4 (ag.trans (ag2.trans ag3)) r5 (nA.trans (n4.trans n5))
      | rt d ρk =>
        intro σ3 v H3 F3 A3 B ag3 r4 n4 o4 nd4 dj4
        replace hk : EndS c Z Γ D σ H F A (.rt d ρk) := hk
        exact hk σ3 v H3 F3 A3 B (ag.trans (ag2.trans ag3)) r4 (nA.trans n4) o4 nd4 dj4
    · intro σ' H' ⟨F', A', ρ', s, r', ag, n', hr⟩
      rw [List.drop_length] at hr
      replace hr : EndS c Z Γ D σ H F A (.nx ρ') := hr
      exact hr σ' H' F' A' ag r' n'
end
end Pz
end
section
set_option Elab.async false
set_option linter.all false
/-! Calls where it is known that nothing is being shown (no repr guard stands): promises of defs under that. -/
namespace Pz
open PySem PySem.Spec PyProof.Rows L2

/-- room, and no guard -/
structure RoomG (k : Nat) (A : Around) : Prop where
  r : Room k A
  g : A.guards = some []
/-- a def's promise where no guard stands -/
structure FnG (P : Program) (w : World) (K : PySem.W.Frag) (mg : Str → Option Value) (base : Heap) (cx : CXT) (k : Nat) (ad : Addr) (fd : FuncData) (ps : List Str) (sp : Sp) : Prop where
  len : ∀ vs H Q E, sp vs H Q E → vs.length = ps.length
  run : ∀ (A : Around) (st : List PySem.Env) (s : Shared) (H : Hp) (ar : Args) (us : List Value) (vs : List V) (Q : VK) (E : XK), RoomG k A → Env0 P w K mg base A st s H → BindsTo s fd ar (ps.zip us) → Vals vs us → sp vs H Q E →
    codeAny (model P w) A (.call (.ref ad) ar)
      (CR cx st P w H s Q E) s
section
variable {P : Program} {w : World} {K : PySem.W.Frag} {mg : Str → Option Value} {base : Heap} {cx : CXT} {j k : Nat} {ad : Addr} {fd : FuncData} {ps : List Str} {sp sp' : Sp}
theorem FnG.imp (F : FnG P w K mg base cx k ad fd ps sp) (i : ∀ vs H Q E, sp' vs H Q E → sp vs H Q E) : FnG P w K mg base cx k ad fd ps sp' where
  len := fun vs H Q E z => F.len vs H Q E (i vs H Q E z)
  run := fun A st s H ar us vs Q E rm en bd rl z => F.run A st s H ar us vs Q E rm en bd rl (i vs H Q E z)
end
section
variable {P : Program} {w : World} {K : PySem.W.Frag} {mg : Str → Option Value} {base : Heap} {cx : CXT} {k : Nat} {ad : Addr} {nm ql : Str} {pa : Arguments} {bo : List Stmt} {sc : Scope} {v1 v2 v3 v4 v5 v6 cls : Value} {a1 a2 : Option Addr} {sl : Array (Option Value)} {N ps : List Str} {sp : Sp}
/-- a def by its body -/
theorem fng_of (lk : K.lookup ad = some ⟨cls, a2, .func (PySem.W.fnOf nm ql pa bo sc v1 v2 v3 v4 a1 v5 v6), sl⟩) (cd : PySem.W.codeIn K v5 ql = true) (S : FnScope N ps sc)
    (len : ∀ vs H Q E, sp vs H Q E → vs.length = ps.length)
    (bd : ∀ (A : Around) (st : List PySem.Env) (s : Shared) (H : Hp) (vs : List V) (Q : VK) (E : XK), RoomG k (A.deeper (envOfC ql sc s.heap.objs.size ad v5)) → sp vs H Q E →
      ∃ t, PSs (cxOf cx P w K mg base N ql sc ad v5 A st s H E) bo t ∧ t { nx := fun _ G => Q .non G, rt := Q } (L2.start N vs) H) :
    FnG P w K mg base cx (k + 1) ad (PySem.W.fnOf nm ql pa bo sc v1 v2 v3 v4 a1 v5 v6) ps sp := by
  refine ⟨len, ?_⟩
  intro A st s H ar us vs Q E rm en bi rl z
  have lv := len _ _ _ _ z
  have inK : K.In s.heap := en.mod.kin.keeps fun a u y => (en.bs a u y).1
  have nol : s.heap.NoLimit := en.mod.nolimit.keeps fun a u y => (en.bs a u y).1
  have kinds : ∀ p ∈ ps.zip us, sc.names.lookup p.1 = some .local ∨ (sc.names.lookup p.1 = some .cell ∧ ((cellsFrom (s.heap.objs.size + 1) sc.names []).lookup p.1).isSome = true) := by
    rintro ⟨x, u⟩ hx
    cases S.par x (List.of_mem_zip hx).1 with
    | inl h => exact .inl h
    | inr h => exact .inr ⟨h, PySem.W.cellsFrom_some _ _ _ (.inl h)⟩
  apply codeAny_call_function rm.r.depth (inK _ _ lk) rfl S.co S.gen rfl (PySem.W.codeRec_of inK cd)
  apply bi
  apply wpAny_newFunctionEnv_cells S.kind kinds
  intro env he s1 ic
  subst he
  refine ⟨nol.keeps ic.toInCall.keep, codeAny_func ?_⟩
  have ⟨t, pt, tz⟩ := bd A st s H vs Q E ⟨rm.r.deeper _, rm.g⟩ z
  have I0 := inv_start (CX := cx) (P := P) (w := w) (K := K) (mg := mg) (base := base) (E := E) S rm.r.hd en lv rl ic
  apply wpAny_mono (pt.run [] s1 (L2.start N vs) H _ I0 tz)
  · intro fl s2 hs
    have stop : ∀ {τ : Sl} {G : Hp} {x : V} {u : Value}, Inv (cxOf cx P w K mg base N ql sc ad v5 A st s H E) [] τ G s2 → RelV x u → Q x G → CE st P w H s Q u s2 :=
      fun {τ G x u} J r q => ⟨x, G, J.os, J.bare, J.base, J.hok, r, q⟩
    match fl, hs with
    | .ret u, ⟨x, τ, G, J, r, q⟩ => exact stop J r q
    | .next, ⟨τ, G, J, q⟩ => exact stop (x := V.non) (u := Value.none) J rfl q
    | .brk, ⟨_, _, _, q⟩ => exact q.elim
    | .cont, ⟨_, _, _, q⟩ => exact q.elim
  · exact fun e s2 h => h
end

variable {Y : Cx} {cx : CXT} {k : Nat} {ad : Addr} {fd : FuncData} {ps ks : List Str} {sp : Sp} {E : Sl → XK} {x : Str} {p pos : Pos} {e : Expr} {es : List Expr} {kws : List Keyword} {t tk : TA}
/-- a call's run -/
theorem run_g {pins : List (Addr × Obj)} {σ : Sl} {H : Hp} {s : Shared} {Q : VK} {ar : Args} {us : List Value} {vs : List V} (F : FnG Y.prog Y.w Y.K Y.mg Y.base cx k ad fd ps sp) (rm : RoomG k Y.A) (bi : BindsTo s fd ar (ps.zip us)) (hx : PassesAt cx Y σ (E σ))
    (I : Inv Y pins σ H s) (rl : Vals vs us) (z : sp vs H Q (E σ)) : codeAny (model Y.prog Y.w) Y.A (.call (.ref ad) ar) (fun r s' => match r with | .ok (.ret u) => EP Y pins σ Q u s' | .ok _ => False | .error e => Y.xe e s') s := by
  apply codeAny_mono (F.run Y.A Y.stack s H ar us vs Q (E σ) rm I.env0 bi rl z)
  intro r s2 h
  match r, h with
  | .error e, h => exact hx pins H s e s2 I h
  | .ok (.ret u), h => exact I.after h
  | .ok .next, h => exact h.elim
  | .ok .brk, h => exact h.elim
  | .ok .cont, h => exact h.elim
/-- f() -/
theorem pe_callG0 (F : FnG Y.prog Y.w Y.K Y.mg Y.base cx k ad fd ps sp) (rm : RoomG k Y.A) (hg : Gl Y x) (hm : Y.mg x = some (.ref ad)) (hk : PySem.W.keepIn Y.K (.ref ad) = true) (hb : Binds Y.K fd ps []) (hx : ∀ σ, PassesAt cx Y σ (E σ)) (hd : (x == ("__debug__" : Str)) = false) :
    PE Y (.Call (.Name x p) [] [] pos) (fun σ H Q => sp [] H Q (E σ)) := by
  constructor
  intro pins s σ H Q I h
  apply wpAny_Call_Name_kw (ld_glob I hg hm ?_ hd)
  apply PySem.W.callWith_K0 I.kIn hk
  refine wpAny_call (codeAny_mono (run_g F rm (us := []) (vs := []) ?_ (hx σ) I .nil h) fun r s2 q => ?_)
  · have := hb s [] I.kIn (by rw [List.append_nil]; exact F.len _ _ _ _ h)
    rw [List.append_nil] at this
    exact this
  · match r, q with
    | .error e, q => exact q
    | .ok (.ret u), q => exact q
    | .ok .next, q => exact q.elim
    | .ok .brk, q => exact q.elim
    | .ok .cont, q => exact q.elim
/-- f(e, ..) -/
theorem pe_callG (F : FnG Y.prog Y.w Y.K Y.mg Y.base cx k ad fd ps sp) (rm : RoomG k Y.A) (hg : Gl Y x) (hm : Y.mg x = some (.ref ad)) (hk : PySem.W.keepIn Y.K (.ref ad) = true) (hb : Binds Y.K fd ps []) (hx : ∀ σ, PassesAt cx Y σ (E σ))
    (ha : PA Y (e :: es) t) (hd : (x == ("__debug__" : Str)) = false) (he : starEach (e :: es) Y.env = (false, eval e Y.env) :: starEach es Y.env) (hp : (backTo pos (starEach es Y.env)).any (·.1) = false) :
    PE Y (.Call (.Name x p) (e :: es) [] pos) (fun σ H Q => t σ H fun vs H1 => sp vs H1 Q (E σ)) := by
  constructor
  intro pins s σ H Q I h
  apply wpAny_Call_Name_kw (ld_glob I hg hm ?_ hd)
  apply PySem.W.callWith_K (h₀ := Y.base) I.ok.mod.kin hk _ he hp
  refine thn (ha.run pos pins s σ H _ I h) fun us s1 ⟨vs, H1, I1, rl, z⟩ => ⟨I1.kIn, wpAny_call (codeAny_mono (run_g F rm (us := us) (vs := vs) ?_ (hx σ) I1 rl z) fun r s2 q => ?_)⟩
  · have := hb s1 us I1.kIn (by rw [List.append_nil, ← rl.length]; exact F.len _ _ _ _ z)
    rw [List.append_nil] at this
    exact this
  · match r, q with
    | .error e, q => exact q
    | .ok (.ret u), q => exact q
    | .ok .next, q => exact q.elim
    | .ok .brk, q => exact q.elim
    | .ok .cont, q => exact q.elim

/-- the values by the parameters' order -/
def permL {α : Type} (pm : List Nat) (l : List α) : List α := pm.filterMap fun i => l[i]?
theorem vals_get {vs : List V} {us : List Value} (h : Vals vs us) : ∀ i : Nat, (vs[i]? = none ∧ us[i]? = none) ∨ ∃ v u, vs[i]? = some v ∧ us[i]? = some u ∧ RelV v u := by
  induction h with
  | nil => exact fun i => .inl ⟨rfl, rfl⟩
  | cons r _ ih =>
    intro i
    cases i with
    | zero => exact .inr ⟨_, _, rfl, rfl, r⟩
    | succ i => exact ih i
theorem vals_perm {vs : List V} {us : List Value} (h : Vals vs us) : ∀ pm : List Nat, Vals (permL pm vs) (permL pm us)
  | [] => .nil
  | i :: pm => by
    unfold permL
    rw [List.filterMap_cons, List.filterMap_cons]
    rcases vals_get h i with ⟨e1, e2⟩ | ⟨v, u, e1, e2, r⟩
    · rw [e1, e2]; exact vals_perm h pm
    · rw [e1, e2]; exact .cons r (vals_perm h pm)
/-- the keywords' names -/
def kwNames (kws : List Keyword) (ks : List Str) : Bool := decide (kws.map (·.arg) = ks.map some)
theorem kw_each : ∀ (kws : List Keyword) (env : PySem.Env), (keywordEach kws env).map (·.1) = kws.map (·.arg)
  | [], _ => rfl
  | ⟨n, v, q⟩ :: kws, env => congrArg (n :: ·) (kw_each kws env)
theorem kw_back (pos : Pos) (kws : List Keyword) (env : PySem.Env) : (backToKw pos (keywordEach kws env)).map (·.1) = kws.map (·.arg) := by
  rw [← kw_each kws env]
  unfold backToKw
  rw [List.map_map]; rfl
theorem kw_facts {pos : Pos} {kws : List Keyword} {ks : List Str} {env : PySem.Env} (h : kwNames kws ks = true) :
    (backToKw pos (keywordEach kws env)).all (·.1.isSome) = true ∧ (backToKw pos (keywordEach kws env)).filterMap (·.1) = ks ∧ (backToKw pos (keywordEach kws env)).any (·.1.isNone) = false := by
  have e := kw_back pos kws env
  rw [show kws.map (·.arg) = ks.map some from of_decide_eq_true h] at e
  generalize backToKw pos (keywordEach kws env) = l at e
  induction l generalizing ks kws with
  | nil =>
    cases ks with
    | nil => exact ⟨rfl, rfl, rfl⟩
    | cons k ks => cases e
  | cons q l ih =>
    cases ks with
    | nil => cases e
    | cons k ks =>
      rw [List.map_cons, List.map_cons] at e
      obtain ⟨e1, e2⟩ := List.cons.inj e
      obtain ⟨h1, h2, h3⟩ := ih (ks := ks) (kws := ks.map fun k => ⟨some k, .Constant .none 0 pos, pos⟩) (by unfold kwNames; rw [decide_eq_true_eq, List.map_map]; rfl) e2
      refine ⟨?_, ?_, ?_⟩
      · rw [List.all_cons, e1, h1]; rfl
      · rw [List.filterMap_cons, e1, h2]
      · rw [List.any_cons, e1, h3]; rfl
section
variable {Y : Cx} {cx : CXT} {k : Nat} {ad : Addr} {fd : FuncData} {ps ks : List Str} {sp : Sp} {E : Sl → XK} {x : Str} {p pos : Pos} {e : Expr} {es : List Expr} {kws : List Keyword} {t tk : TA} {pm : List Nat} {n : Nat}
/-- how a call with keywords binds -/
def KwB (fd : FuncData) (ps : List Str) (n : Nat) (ks : List Str) (pm : List Nat) : Prop :=
  ∀ (s : Shared) (us ws : List Value), us.length = n → ws.length = ks.length → BindsTo s fd ⟨us, ks.zip ws⟩ (ps.zip (permL pm (us ++ ws)))
theorem kw_fin (F : FnG Y.prog Y.w Y.K Y.mg Y.base cx k ad fd ps sp) (rm : RoomG k Y.A) (hb : KwB fd ps n ks pm) {σ : Sl} (hx : PassesAt cx Y σ (E σ)) {pins : List (Addr × Obj)} {us ws : List Value} {vs zs : List V} {s2 : Shared} {H2 : Hp} {Q : VK}
    (I2 : Inv Y pins σ H2 s2) (r1 : Vals vs us) (r2 : Vals zs ws) (l1 : vs.length = n) (l2 : zs.length = ks.length) (z : sp (permL pm (vs ++ zs)) H2 Q (E σ)) :
    wpAny (model Y.prog Y.w) Y.A (call (.ref ad) us (ks.zip ws)) (EP Y pins σ Q) Y.xe s2 :=
  wpAny_call (codeAny_mono (run_g F rm (hb s2 us ws (by rw [← r1.length]; exact l1) (by rw [← r2.length]; exact l2)) hx I2 (vals_perm (r1.append r2) pm) z) fun r s3 q => by
    match r, q with
    | .error e, q => exact q
    | .ok (.ret u), q => exact q
    | .ok .next, q => exact q.elim
    | .ok .brk, q => exact q.elim
    | .ok .cont, q => exact q.elim)
theorem pe_callKG (F : FnG Y.prog Y.w Y.K Y.mg Y.base cx k ad fd ps sp) (rm : RoomG k Y.A) (hg : Gl Y x) (hm : Y.mg x = some (.ref ad)) (hk : PySem.W.keepIn Y.K (.ref ad) = true) (hb : KwB fd ps n ks pm) (hx : ∀ σ, PassesAt cx Y σ (E σ))
    (ha : PA Y (e :: es) t) (hw : PK Y kws tk) (hd : (x == ("__debug__" : Str)) = false) (hks : kwNames kws ks = true)
    (he : starEach (e :: es) Y.env = (false, eval e Y.env) :: starEach es Y.env) (hp : (backTo pos (starEach es Y.env)).any (·.1) = false) :
    PE Y (.Call (.Name x p) (e :: es) kws pos) (fun σ H Q => t σ H fun vs H1 => tk σ H1 fun zs H2 => vs.length = n ∧ zs.length = ks.length ∧ sp (permL pm (vs ++ zs)) H2 Q (E σ)) := by
  constructor
  intro pins s σ H Q I h
  obtain ⟨k1, k2, k3⟩ := kw_facts (pos := pos) (env := Y.env) hks
  have pl : ((backTo pos (starEach (e :: es) Y.env)).any (·.1) || (backToKw pos (keywordEach kws Y.env)).any (·.1.isNone)) = false := by
    rw [k3, he]
    show ((false || (backTo pos (starEach es Y.env)).any (·.1)) || false) = false
    rw [hp]; rfl
  apply wpAny_Call_Name_kw (ld_glob I hg hm ?_ hd)
  refine PySem.W.callWith_KW (h₀ := Y.base) I.ok.mod.kin hk k1 (thn (ha.run pos pins s σ H _ I h) fun us s1 ⟨vs, H1, I1, r, z⟩ => ?_) pl he
  refine thn (hw.run pos pins s1 σ H1 _ I1 z) fun ws s2 ⟨zs, H2, I2, rz, l1, l2, z2⟩ => ⟨I2.kIn, ?_⟩
  rw [k2]
  exact kw_fin F rm hb (hx σ) I2 r rz l1 l2 z2
theorem pe_callKG0 (F : FnG Y.prog Y.w Y.K Y.mg Y.base cx k ad fd ps sp) (rm : RoomG k Y.A) (hg : Gl Y x) (hm : Y.mg x = some (.ref ad)) (hk : PySem.W.keepIn Y.K (.ref ad) = true) (hb : KwB fd ps 0 ks pm) (hx : ∀ σ, PassesAt cx Y σ (E σ))
    (hw : PK Y kws tk) (hd : (x == ("__debug__" : Str)) = false) (hks : kwNames kws ks = true) :
    PE Y (.Call (.Name x p) [] kws pos) (fun σ H Q => tk σ H fun zs H2 => zs.length = ks.length ∧ sp (permL pm zs) H2 Q (E σ)) := by
  constructor
  intro pins s σ H Q I h
  obtain ⟨k1, k2, k3⟩ := kw_facts (pos := pos) (env := Y.env) hks
  have pl : ((backTo pos (starEach [] Y.env)).any (·.1) || (backToKw pos (keywordEach kws Y.env)).any (·.1.isNone)) = false := by
    rw [k3]; rfl
  apply wpAny_Call_Name_kw (ld_glob I hg hm ?_ hd)
  refine PySem.W.callWith_KW0 (h₀ := Y.base) I.ok.mod.kin hk k1 (thn (hw.run pos pins s σ H _ I h) fun ws s2 ⟨zs, H2, I2, rz, l2, z2⟩ => ⟨I2.kIn, ?_⟩) pl
  rw [k2]
  exact kw_fin (vs := []) F rm hb (hx σ) I2 .nil rz rfl l2 z2
end
end Pz
end
section
set_option Elab.async false
set_option linter.all false
/-! Calls of the text's defs. -/
namespace Pz
open PySem PySem.Spec PyProof.Rows L2

/-- a def's promise: its parameters' levels (0: frozen, else lent), how deep its result is owned -/
structure Sg where
  pl : List Nat
  rl : Nat
/-- what is lent, behind the call -/
def ioE (np : Nat) (io : List Nat) (os : List D) : Env := match io, os with
  | [j], [o] => (List.replicate np none).set j (some o)
  | _, _ => List.replicate np none
/-- what a def's call comes to -/
def FnP (c : Cf) (np : Nat) (io : List Nat) (sg : Sg) (vs : List V) (H F : Hp) (A : Nat → List Addr) (Q : VK) : D × List D → Prop := fun r =>
  ∀ v H' F' A' B, r.2.length = io.length → Rep c.X sg.pl (ioE np io r.2) (vs.map some) H' F' A' → Nxt H F (Own A) H' F' (fun a => Own A' a ∨ a ∈ B) → OT c.X H' F' sg.rl v r.1 B → B.Nodup → (∀ a ∈ B, ¬ Own A' a) → Q v H'
def spF (c : Cf) (np : Nat) (io : List Nat) (sg : Sg) (call : List D → R (D × List D)) : Sp := fun vs H Q E =>
  ∃ F A ds, vs.length = np ∧ ds.length = np ∧ Rep c.X sg.pl (ds.map some) (vs.map some) H F A ∧ Run c (fun cls dx _ H' => E cls dx H') [] H F (Own A) (call ds) (FnP c np io sg vs H F A Q)
/-- x names such a def -/
abbrev KwL := List (Str × Nat × List Str × List Nat)
structure FnAt (c : Cf) (Y : Cx) (kwl : KwL) (x : Str) (np : Nat) (io : List Nat) (sg : Sg) (call : List D → R (D × List D)) : Prop where
  ex : ∃ k a fd ps, FnG Y.prog Y.w Y.K Y.mg Y.base (L2.CX Y.prog Y.w) k a fd ps (spF c np io sg call) ∧ RoomG k Y.A ∧ Y.mg x = some (.ref a) ∧ PySem.W.keepIn Y.K (.ref a) = true ∧ Binds Y.K fd ps [] ∧ ∀ n ks pm, (x, n, ks, pm) ∈ kwl → KwB fd ps n ks pm

section
variable {X : Tx} {σ : Sl} {F : Hp} {ls : List (Option Nat)} {vs : List V} {ds : List D}
theorem ArgP.get0 (h : ArgP X σ F ls vs ds) : ∀ {k : Nat} {d : D}, ls[k]? = some none → ds[k]? = some d → ∃ v, vs[k]? = some v ∧ RD X F v d := by
  induction h with
  | nil => exact fun h => absurd h (by simp)
  | frz r _ ih =>
    intro k d h1 h2
    cases k with
    | zero => cases h2; exact ⟨_, rfl, r⟩
    | succ k => exact ih h1 h2
  | lent r _ ih =>
    intro k d h1 h2
    cases k with
    | zero => cases h1
    | succ k => exact ih h1 h2
theorem ArgP.get1 (h : ArgP X σ F ls vs ds) : ∀ {k i : Nat}, ls[k]? = some (some i) → ∃ v, vs[k]? = some v ∧ σ[i]? = some (some v) := by
  induction h with
  | nil => exact fun h => absurd h (by simp)
  | frz r _ ih =>
    intro k i h1
    cases k with
    | zero => cases h1
    | succ k => exact ih h1
  | lent r _ ih =>
    intro k i h1
    cases k with
    | zero => cases h1; exact ⟨_, rfl, r⟩
    | succ k => exact ih h1
theorem map_some_get {α : Type} {l : List α} {k : Nat} {x : α} (h : (l.map some)[k]? = some (some x)) : l[k]? = some x := by
  rw [List.getElem?_map] at h
  obtain ⟨y, e, h⟩ := Option.map_eq_some_iff.mp h
  cases h; exact e
theorem map_some_of {α : Type} {l : List α} {k : Nat} {x : α} (h : l[k]? = some x) : (l.map some)[k]? = some (some x) := by rw [List.getElem?_map, h]; rfl
end

section
variable {c : Cf} {W : WX} {Z : Zd} {Γ Γ1 Γ' : List Nat} {Y : Cx} {e a b : Expr} {es : List Expr} {pos p0 : Pos} {fs : Env → R (List D × Env)} {ls : List (Option Nat)} {pu : Bool} {np : Nat} {io : List Nat} {sg : Sg} {call : List D → R (D × List D)} {x : Str} {kwl : KwL}
theorem Run.shift {σ σ' : Sl} {H F : Hp} {P Q : Addr → Prop} {β : Type} {m : R β} {ok : β → Prop} (h : Run c W σ H F P m ok) (s : ∀ a, Q a → P a) : Run c (fun cls dx _ H' => W cls dx σ H') σ' H F Q m ok := by
  cases m with
  | ok b => exact h
  | error e =>
    cases e with
    | stuck => exact h
    | exc k fs => exact fun cls dx H' x => h cls dx H' (x.back (Nxt.refl (P := P)) s)
/-- a call without anything lent -/
theorem sx_call0 (cx : Ctx c W Y) (fn : FnAt c Y kwl x np [] sg call) (hg : Gl Y x) (hd : (x == ("__debug__" : Str)) = false) (ha : SA c W Γ ls pu Y (e :: es) fs) (hn : allN ls = true) (hl : ls.length = np) (hp : ∀ i, sg.pl.getD i 0 = 0)
    (hs : starEach (e :: es) Y.env = (false, eval e Y.env) :: starEach es Y.env) (hs2 : (backTo pos (starEach es Y.env)).any (·.1) = false) :
    SX c W Γ ⟨true, pu, sg.rl⟩ Y (.Call (.Name x p0) (e :: es) [] pos) (fun ρ => (fs ρ).bind fun p => (optR (lend p.2 p.1 [])).bind fun ds => (call ds).bind fun r => .ok (r.1, setIO p.2 [] r.2)) := by
  obtain ⟨k, ad, fd, ps, F0, hr, hm, hk, hb, _⟩ := fn.ex
  refine PE.imp (pe_callG (E := WE W) F0 hr hg hm hk hb (fun σ => passAt cx.tk σ) ha hd hs hs2) fun σ H Q ⟨F, A, ρ, r, h⟩ => tF.one (g := fun ds ρ1 => (optR (lend ρ1 ds [])).bind fun ds => (call ds).bind fun r => .ok (r.1, setIO ρ1 [] r.2)) r h fun vs H1 F1 A1 ds ρ1 m ap h1 => ?_
  replace h1 : Run c W σ H1 F1 (Own A1) ((call ds).bind fun r => .ok (r.1, ρ1)) (Ends' c Γ ⟨true, pu, sg.rl⟩ σ ρ H F A Q) := h1
  obtain ⟨qs, e1, e2, e3⟩ := ap.ps hn
  have lv : vs.length = np := ap.len.1.trans hl
  have ld : ds.length = np := ap.len.2.trans hl
  refine ⟨F1, fun _ => [], ds, lv, ld, ⟨m.rep.sub, by rw [List.length_map, List.length_map, lv, ld], fun i d hi => ?_, fun _ _ => rfl, fun _ => List.nodup_nil, fun _ _ _ _ z => absurd z (by simp)⟩, ?_⟩
  · have hi := map_some_get hi
    have hln : ls[i]? = some none := by
      have hlt : i < ls.length := by rw [hl, ← ld]; exact (List.getElem?_eq_some_iff.mp hi).1
      rw [List.getElem?_eq_getElem hlt]
      have := (List.all_eq_true.mp hn) ls[i] (List.getElem_mem hlt)
      cases e : ls[i] with
      | none => rfl
      | some z => rw [e] at this; cases this
    obtain ⟨v, ev, rv⟩ := ap.get0 hln hi
    exact ⟨v, map_some_of ev, by rw [hp]; exact ⟨rfl, rv⟩⟩
  · refine Run.imp (Run.shift h1.bind (Q := Own fun _ => []) fun a ⟨_, z⟩ => absurd z (by simp)) fun q _ hq v H' F' A' B hlen r' n' o nd dj => ?_
    replace hq : Ends' c Γ ⟨true, pu, sg.rl⟩ σ ρ H F A Q (q.1, ρ1) := hq
    have nf : Nxt H1 F1 (fun _ => False) H' F' (fun a => a ∈ B) := n'.weak (fun a ⟨_, z⟩ => absurd z (by simp)) fun a z => .inl (.inr z)
    have n1 : Nxt H1 F1 (Own A1) H' F' (fun a => Own A1 a ∨ a ∈ B) := (nf.beside (B := Own A1)).weak (fun a z => z.elim False.elim fun z => z) fun a z => .inl (z.elim .inr .inl)
    have hB : ∀ a ∈ B, H1 a = none := fun a ha => (nf.own a ha).elim False.elim fun z => z
    refine hq v H' F' A1 B ⟨⟨m.rep.step nf r'.sub fun _ _ z => z, (m.nx0.trans n1).weak (fun _ z => z) fun a z => .inl (z.imp (fun z => z) fun z => z.2), fun z => ?_⟩, o, fun _ => nd, fun _ a ha z => (m.rep.dom z).1 (hB a ha)⟩
    obtain ⟨z1, z2, z3⟩ := m.pu z
    exact ⟨z1, z2, (z3.trans (nf.weak (fun _ z => z) fun a z => z.elim))⟩
/-- a call without an argument -/
theorem sx_callZ (cx : Ctx c W Y) (fn : FnAt c Y kwl x 0 [] sg call) (hg : Gl Y x) (hd : (x == ("__debug__" : Str)) = false) (hp : ∀ i, sg.pl.getD i 0 = 0) :
    SX c W Γ ⟨true, true, sg.rl⟩ Y (.Call (.Name x p0) [] [] pos) (fun ρ => (.ok ([], ρ) : R (List D × Env)).bind fun p => (optR (lend p.2 p.1 [])).bind fun ds => (call ds).bind fun r => .ok (r.1, setIO p.2 [] r.2)) := by
  obtain ⟨k, ad, fd, ps, F0, hr, hm, hk, hb, _⟩ := fn.ex
  refine PE.imp (pe_callG0 (E := WE W) F0 hr hg hm hk hb (fun σ => passAt cx.tk σ) hd) fun σ H Q ⟨F, A, ρ, r, h⟩ => ?_
  have m : Mid c Γ σ ρ H F A ρ H F A (fun _ => False) true := Mid.refl r
  replace h : Run c W σ H F (Own A) ((call []).bind fun r => .ok (r.1, ρ)) (Ends' c Γ ⟨true, true, sg.rl⟩ σ ρ H F A Q) := h
  refine ⟨F, fun _ => [], [], rfl, rfl, ⟨m.rep.sub, rfl, fun i d hi => absurd hi (by simp), fun _ _ => rfl, fun _ => List.nodup_nil, fun _ _ _ _ z => absurd z (by simp)⟩, ?_⟩
  refine Run.imp (Run.shift h.bind (Q := Own fun _ => []) fun a ⟨_, z⟩ => absurd z (by simp)) fun q _ hq v H' F' A' B hlen r' n' o nd dj => ?_
  replace hq : Ends' c Γ ⟨true, true, sg.rl⟩ σ ρ H F A Q (q.1, ρ) := hq
  have nf : Nxt H F (fun _ => False) H' F' (fun a => a ∈ B) := n'.weak (fun a ⟨_, z⟩ => absurd z (by simp)) fun a z => .inl (.inr z)
  have n1 : Nxt H F (Own A) H' F' (fun a => Own A a ∨ a ∈ B) := (nf.beside (B := Own A)).weak (fun a z => z.elim False.elim fun z => z) fun a z => .inl (z.elim .inr .inl)
  have hB : ∀ a ∈ B, H a = none := fun a ha => (nf.own a ha).elim False.elim fun z => z
  refine hq v H' F' A B ⟨⟨m.rep.step nf r'.sub fun _ _ z => z, (m.nx0.trans n1).weak (fun _ z => z) fun a z => .inl (z.imp (fun z => z) fun z => z.2), fun z => ?_⟩, o, fun _ => nd, fun _ a ha z => (m.rep.dom z).1 (hB a ha)⟩
  obtain ⟨z1, z2, z3⟩ := m.pu z
  exact ⟨z1, z2, (z3.trans (nf.weak (fun _ z => z) fun a z => z.elim))⟩
/-- a call with one slot lent -/
theorem sx_call1 {i j : Nat} (cx : Ctx c W Y) (fn : FnAt c Y kwl x np [j] sg call) (hg : Gl Y x) (hd : (x == ("__debug__" : Str)) = false) (ha : SA c W Γ ls pu Y (e :: es) fs) (hl : ls.length = np) (hj : ls[j]? = some (some i))
    (hn : ∀ k, k ≠ j → k < np → ls[k]? = some none) (hp : ∀ k, k ≠ j → sg.pl.getD k 0 = 0) (hi : sg.pl.getD j 0 = Γ.getD i 0)
    (hs : starEach (e :: es) Y.env = (false, eval e Y.env) :: starEach es Y.env) (hs2 : (backTo pos (starEach es Y.env)).any (·.1) = false) :
    SX c W Γ ⟨true, false, sg.rl⟩ Y (.Call (.Name x p0) (e :: es) [] pos) (fun ρ => (fs ρ).bind fun p => (optR (lend p.2 p.1 [(j, i)])).bind fun ds => (call ds).bind fun r => .ok (r.1, setIO p.2 [(j, i)] r.2)) := by
  obtain ⟨k, ad, fd, ps, F0, hr, hm, hk, hb, _⟩ := fn.ex
  refine PE.imp (pe_callG (E := WE W) F0 hr hg hm hk hb (fun σ => passAt cx.tk σ) ha hd hs hs2) fun σ H Q ⟨F, A, ρ, r, h⟩ => tF.one (g := fun ds ρ1 => (optR (lend ρ1 ds [(j, i)])).bind fun ds => (call ds).bind fun r => .ok (r.1, setIO ρ1 [(j, i)] r.2)) r h fun vs H1 F1 A1 ds0 ρ1 m ap h1 => ?_
  obtain ⟨ds, eds, h1⟩ := Run.opt h1
  obtain ⟨dj, ej, eds⟩ := Option.bind_eq_some_iff.mp eds
  replace eds : some (ds0.set j dj) = some ds := eds
  cases eds
  obtain ⟨vj, evj, esj⟩ := ap.get1 hj
  have lv : vs.length = np := ap.len.1.trans hl
  have ld : ds0.length = np := ap.len.2.trans hl
  have hjn : j < np := by rw [← hl]; exact (List.getElem?_eq_some_iff.mp hj).1
  have own : ∀ a, Own (fun k => if k = j then A1 i else []) a → a ∈ A1 i := fun a ⟨k, z⟩ => by
    by_cases e : k = j
    · simpa [e] using z
    · simp [e] at z
  refine ⟨F1, fun k => if k = j then A1 i else [], ds0.set j dj, lv, by rw [List.length_set]; exact ld, ⟨m.rep.sub, by rw [List.length_map, List.length_map, lv, List.length_set, ld], fun k d hk => ?_, fun k hk => ?_, fun k => ?_, fun k l hkl a z w => ?_⟩, ?_⟩
  · have hk := map_some_get hk
    by_cases e : k = j
    · subst e
      rw [List.getElem?_set_self (by rw [ld]; exact hjn)] at hk
      cases hk
      obtain ⟨v, ev, o⟩ := m.rep.val i _ (gt_ok ej)
      rw [esj] at ev
      cases ev
      exact ⟨vj, map_some_of evj, by rw [hi]; simpa using o⟩
    · rw [List.getElem?_set_ne (Ne.symm e)] at hk
      have hkn : k < np := by rw [← ld]; exact (List.getElem?_eq_some_iff.mp hk).1
      obtain ⟨v, ev, rv⟩ := ap.get0 (hn k e hkn) hk
      exact ⟨v, map_some_of ev, by rw [hp k e]; simp only [e, if_false]; exact ⟨rfl, rv⟩⟩
  · by_cases e : k = j
    · subst e
      exact absurd (map_some_of (by rw [List.getElem?_set_self (by rw [ld]; exact hjn)])) (hk dj)
    · simp [e]
  · by_cases e : k = j
    · simpa [e] using m.rep.nd i
    · simp [e]
  · by_cases e : k = j <;> by_cases e' : l = j
    · exact hkl (e.trans e'.symm)
    · simp [e'] at w
    · simp [e] at z
    · simp [e] at z
  · refine Run.imp (Run.shift h1.bind (Q := Own fun k => if k = j then A1 i else []) fun a z => ⟨i, own a z⟩) fun q _ hq v H' F' A' B hlen r' n' o nd dB => ?_
    obtain ⟨q1, q2⟩ := q
    match q2, hlen with
    | [oj], _ =>
      replace hq : Ends' c Γ ⟨true, false, sg.rl⟩ σ ρ H F A Q (q1, st ρ1 i oj) := hq
      have eio : (ioE np [j] [oj])[j]? = some (some oj) := List.getElem?_set_self (by simpa using hjn)
      obtain ⟨v', ev', ov⟩ := r'.val j oj eio
      have ev2 := map_some_get ev'
      rw [evj] at ev2
      cases ev2
      have only : ∀ k, k ≠ j → A' k = [] := fun k hk => r'.non k fun d z => by
        have : (ioE np [j] [oj])[k]? = (List.replicate np none)[k]? := List.getElem?_set_ne (Ne.symm hk)
        rw [this, List.getElem?_replicate] at z
        split at z <;> cases z
      have ownA : ∀ a, Own A' a → a ∈ A' j := fun a ⟨k, z⟩ => by
        by_cases e : k = j
        · exact e ▸ z
        · rw [only k e] at z; exact absurd z (by simp)
      have old : ∀ a, a ∈ A' j ∨ a ∈ B → a ∈ A1 i ∨ H1 a = none := fun a z => (n'.own a (z.imp (fun z => ⟨j, z⟩) fun z => z)).imp (own a) fun z => z
      have apart : ∀ a, a ∈ A' j ∨ a ∈ B → ∀ k, k ≠ i → a ∉ A1 k := fun a z k hk w => (old a z).elim (fun y => m.rep.dis i k (Ne.symm hk) a y w) fun y => (m.rep.dom ⟨k, w⟩).1 y
      have hil : i < ρ1.length := (List.getElem?_eq_some_iff.mp (gt_ok ej)).1
      have rep2 : Rep c.X Γ (st ρ1 i oj) σ H' F' (fun k => if k = i then A' j else A1 k) := by
        refine ⟨r'.sub, by unfold st; rw [List.length_set]; exact m.rep.len, fun k d hk => ?_, fun k hk => ?_, fun k => ?_, fun k l hkl a z w => ?_⟩
        · by_cases e : k = i
          · subst e
            unfold st at hk
            rw [List.getElem?_set_self hil] at hk
            cases hk
            exact ⟨vj, esj, by rw [← hi]; simpa using ov⟩
          · unfold st at hk
            rw [List.getElem?_set_ne (Ne.symm e)] at hk
            obtain ⟨w, ew, ow⟩ := m.rep.val k d hk
            refine ⟨w, ew, ?_⟩
            simp only [e, if_false]
            exact ow.step n' fun a ha z => m.rep.dis i k (Ne.symm e) a (own a z) ha
        · by_cases e : k = i
          · subst e
            exact absurd (by unfold st; rw [List.getElem?_set_self hil]) (hk oj)
          · simp only [e, if_false]
            exact m.rep.non k fun d z => hk d (by unfold st; rw [List.getElem?_set_ne (Ne.symm e)]; exact z)
        · by_cases e : k = i
          · simpa [e] using r'.nd j
          · simpa [e] using m.rep.nd k
        · by_cases e : k = i <;> by_cases e' : l = i
          · exact hkl (e.trans e'.symm)
          · simp only [e, e', if_true, if_false] at z w; exact apart a (.inl z) l e' w
          · simp only [e, e', if_true, if_false] at z w; exact apart a (.inl w) k e z
          · simp only [e, e', if_false] at z w; exact m.rep.dis k l hkl a z w
      have n1 : Nxt H1 F1 (Own A1) H' F' (fun a => Own (fun k => if k = i then A' j else A1 k) a ∨ a ∈ B) := by
        refine ⟨fun a u hu hn => n'.keep a u hu fun z => hn ⟨i, own a z⟩, n'.fro, fun a z => (n'.new a z).imp (fun z => z) fun z => z.imp (fun z => ⟨i, own a z⟩) fun z => z, fun a z => ?_⟩
        rcases z with ⟨k, z⟩ | z
        · by_cases e : k = i
          · simp only [e, if_true] at z
            exact (old a (.inl z)).imp (fun z => ⟨i, z⟩) fun z => z
          · simp only [e, if_false] at z
            exact .inl ⟨k, z⟩
        · exact (old a (.inr z)).imp (fun z => ⟨i, z⟩) fun z => z
      refine hq v H' F' _ B ⟨⟨rep2, (m.nx0.trans n1).weak (fun _ z => z) fun a z => .inl (z.imp (fun z => z) fun z => z.2), fun z => absurd z (by simp)⟩, o, fun _ => nd, fun _ a hb ⟨k, z⟩ => ?_⟩
      by_cases e : k = i
      · simp only [e, if_true] at z
        exact dB a hb ⟨j, z⟩
      · simp only [e, if_false] at z
        exact apart a (.inr hb) k e z
end
end Pz
end
section
set_option Elab.async false
set_option linter.all false
/-! Assignments, append. -/
namespace Pz
open PySem PySem.Spec PyProof.Rows L2

section
variable {c : Cf} {W : WX} {Z : Zd} {Γ Γ1 Γ' : List Nat} {Y : Cx} {e a b : Expr} {es : List Expr} {pos p0 : Pos} {fa fb : Env → R (D × Env)} {fs : Env → R (List D × Env)} {ls : List (Option Nat)} {pa pb pu : Bool} {k ka kb : Kd}
  {σ σ1 : Sl} {ρ ρ' ρ1 ρ2 : Env} {H F H' F' H1 F1 H2 F2 : Hp} {A A' A1 A2 : Nat → List Addr} {v : V} {d : D} {B : List Addr} {n i : Nat} {x : Str}

/-- a name's facts -/
structure NmAt (Y : Cx) (Γ : List Nat) (Z : Zd) (i : Nat) (x : Str) : Prop where
  nd : Y.N.Nodup
  at_ : Y.N[i]? = some x
  loc : Loc Y.env.scope x
  fn : Y.fn x = true ∨ Y.env.scope.names.lookup x = some .local
  lv : i < Γ.length
  mm : Z.M i = true
theorem ss_set (nm : NmAt Y Γ Z i x) (he : SX c W Γ ⟨true, pa, n⟩ Y e fa) (hs : swapsWith e (some (.Name x p0)) pos.line Y.env = pure false) :
    SS c W Z Γ (Γ.set i n) Y (.Assign [.Name x p0] e pos) (fun ρ => (fa ρ).bind fun p => .ok (.nx (st p.2 i p.1))) :=
  PS.imp (ps_set nm.nd nm.at_ nm.loc he hs nm.fn) fun D σ H ⟨F, A, ρ, r, h⟩ => tX.inS (g := fun d ρ1 => (.ok (.nx (st ρ1 i d)) : R Fl)) r h fun x H1 F1 A1 d ρ1 B o h1 => by
    replace h1 : EndS c Z (Γ.set i n) D σ H F A (.nx (st ρ1 i d)) := h1
    obtain ⟨A', r', o'⟩ := o.rep.store nm.lv o.ot (o.nd rfl) (o.dj rfl)
    exact h1 _ H1 F1 A' (.set nm.mm) r' (o.mid.nx.weak (fun _ h => h) fun a z => .inl ((o' a z).imp (fun z => z) fun z => ⟨rfl, z⟩))
/-- target = value, frozen -/
theorem ss_asg {tg : Expr} {g : Pz.D → Env → R Env} (he : SX c W Γ ⟨true, pa, 0⟩ Y e fa) (hg : SG c W Z Γ Γ' Y tg g) (hs : swapsWithSole [tg] e pos.line Y.env = pure false) (hw : swappedStores [tg] e Y.env = pure none) (h1 : (assignEach [tg] Y.env).map (·.2) = [assign tg Y.env]) :
    SS c W Z Γ Γ' Y (.Assign [tg] e pos) (fun ρ => (fa ρ).bind fun p => (g p.1 p.2).bind fun ρ' => .ok (.nx ρ')) :=
  PS.imp (ps_asg he hg hs hw h1) fun D σ H ⟨F, A, ρ, r, h⟩ => tX.inS (g := fun d ρ1 => (g d ρ1).bind fun ρ' => (.ok (.nx ρ') : R Fl)) r h fun x H1 F1 A1 d ρ1 B o h1 => by
    refine ⟨F1, A1, ρ1, d, o.rep, o.ot.2, h1.bind.imp fun ρ' _ hq σ' H' F' A' ag r' n' => ?_⟩
    replace hq : EndS c Z Γ' D σ H F A (.nx ρ') := hq
    exact hq σ' H' F' A' ag r' (o.nx0.trans n')
/-- a, b, .. = x, y, ..: by way of a tuple -/
theorem ss_parT {tgs : List Expr} {gs : List Pz.D → Env → R Env} {kk m : Nat} {x1 p1 p2} (cx : Ctx c W Y) (ha : SA c W Γ ls pu Y es fs) (hn : allN ls = true) (hl : ls.length ≤ 1000) (hg : SGs c W Z Γ Γ' Y tgs gs)
    (hm : (assignEach tgs Y.env).length = m) (hst : (assignEach tgs Y.env).findIdx? (·.1) = none)
    (hs : swapsWithSole [.Tuple tgs kk p1] (.Tuple es x1 p2) pos.line Y.env = pure false) (hw : swappedStores [.Tuple tgs kk p1] (.Tuple es x1 p2) Y.env = pure none)
    (h1 : (assignEach [.Tuple tgs kk p1] Y.env).map (·.2) = [assign (.Tuple tgs kk p1) Y.env]) :
    SS c W Z Γ Γ' Y (.Assign [.Tuple tgs kk p1] (.Tuple es x1 p2) pos) (fun ρ => (fs ρ).bind fun p => (optR (itemsT m (.tup p.1))).bind fun l => (gs l p.2).bind fun ρ' => .ok (.nx ρ')) :=
  PS.imp (ss_asg (sx_tup ha hn hl) (sg_tup cx hg hm hst) hs hw h1) fun N σ H ⟨F, A, ρ, r, h⟩ => ⟨F, A, ρ, r, by
    have e : ∀ ρ, (((fs ρ).bind fun p => .ok (D.tup p.1, p.2)).bind fun p => ((optR (itemsT m p.1)).bind fun l => gs l p.2).bind fun ρ' => (.ok (.nx ρ') : R Fl)) = (fs ρ).bind fun p => (optR (itemsT m (.tup p.1))).bind fun l => (gs l p.2).bind fun ρ' => .ok (.nx ρ') := by
      intro ρ
      cases fs ρ with
      | error e => rfl
      | ok p =>
        show ((optR (itemsT m (.tup p.1))).bind _).bind _ = (optR (itemsT m (.tup p.1))).bind _
        rw [bind_assoc]
    show Run c _ σ H F (Own A) (((fs ρ).bind fun p => .ok (D.tup p.1, p.2)).bind fun p => ((optR (itemsT m p.1)).bind fun l => gs l p.2).bind fun ρ' => (.ok (.nx ρ') : R Fl)) _
    rw [e]; exact h⟩
/-- a, b = x, y: swapped -/
theorem ss_par2 {i j : Nat} {x y : Str} {px py pt pt2 : Pos} {kt k2} (cx : Ctx c W Y) (ni : NmAt Y Γ Z i x) (nj : NmAt Y Γ Z j y) (hij : i ≠ j) (li : Y.env.scope.names.lookup x = some .local) (lj : Y.env.scope.names.lookup y = some .local) (ha : SA c W Γ [none, none] pu Y [a, b] fs)
    (hw : swappedStores [.Tuple [.Name x px, .Name y py] kt pt] (.Tuple [a, b] k2 pt2) Y.env = pure (some [x, y])) (hs : swapsWithSole [.Tuple [.Name x px, .Name y py] kt pt] (.Tuple [a, b] k2 pt2) pos.line Y.env = pure false) :
    SS c W Z Γ ((Γ.set i 0).set j 0) Y (.Assign [.Tuple [.Name x px, .Name y py] kt pt] (.Tuple [a, b] k2 pt2) pos)
      (fun ρ => (fs ρ).bind fun p => (optR (itemsT 2 (.tup p.1))).bind fun l => (consG (fun d ρ => .ok (st ρ i d)) (consG (fun d ρ => .ok (st ρ j d)) (fun l ρ => if l.isEmpty then .ok ρ else bad)) l p.2).bind fun ρ' => .ok (.nx ρ')) :=
  PS.imp (ps_par cx.calm ni.nd ni.at_ nj.at_ hij li lj ha hw hs) fun D σ H ⟨F, A, ρ, r, h⟩ => tF.inS (pu := pu) (g := fun ds ρ1 => (optR (itemsT 2 (.tup ds))).bind fun l => (consG (fun d ρ => .ok (st ρ i d)) (consG (fun d ρ => .ok (st ρ j d)) (fun l ρ => if l.isEmpty then .ok ρ else bad)) l ρ1).bind fun ρ' => (.ok (.nx ρ') : R Fl)) r h fun vs H1 F1 A1 ds ρ1 m ap h1 => by
    obtain ⟨v, d, w, d', rfl, rfl, rv, rw'⟩ := ap.two
    replace h1 : EndS c Z ((Γ.set i 0).set j 0) D σ H F A (.nx (st (st ρ1 i d) j d')) := h1
    refine ⟨v, w, rfl, ?_⟩
    obtain ⟨A2, r2, o2⟩ := m.rep.store (i := i) (n := 0) (B := []) ni.lv ⟨rfl, rv⟩ List.nodup_nil fun _ z => absurd z (by simp)
    obtain ⟨A3, r3, o3⟩ := r2.store (i := j) (n := 0) (B := []) (by rw [List.length_set]; exact nj.lv) ⟨rfl, rw'⟩ List.nodup_nil fun _ z => absurd z (by simp)
    refine h1 _ H1 F1 A3 ((Agree.set ni.mm).trans (.set nj.mm)) r3 (m.nx0.weak (fun _ h => h) fun a z => .inl ?_)
    exact (o3 a z).elim (fun z => (o2 a z).elim (fun z => z) fun z => absurd z (by simp)) fun z => absurd z (by simp)

/-! ### a slot's own list is changed -/
theorem Rep.list1 {l : List Pz.D} (r : Rep c.X Γ ρ σ H F A) (hi : Γ.getD i 0 = 1) (h : ρ[i]? = some (some (.lst l))) :
    ∃ (ad : Addr) (ps : List (V × Pz.D)), σ[i]? = some (some (.ref ad)) ∧ l = ps.map (·.2) ∧ H ad = some (.lst (ps.map (·.1))) ∧ (∀ p ∈ ps, RD c.X F p.1 p.2) ∧
      ∀ qs : List (V × Pz.D), (∀ p ∈ qs, RD c.X F p.1 p.2) → Rep c.X Γ (st ρ i (.lst (qs.map (·.2)))) σ (upd H ad (.lst (qs.map (·.1)))) F A ∧ Nxt H F (Own A) (upd H ad (.lst (qs.map (·.1)))) F (Own A) := by
  obtain ⟨v, ev, o⟩ := r.val i _ h
  rw [hi] at o
  obtain ⟨ad, ts, rfl, e2, e3, e4, e5, e6⟩ := o
  have nil : (ts.map (·.2.2)).flatten = [] := by
    rw [List.flatten_eq_nil_iff]
    intro z hz
    obtain ⟨t, ht, rfl⟩ := List.mem_map.mp hz
    exact (e6 t ht).1
  rw [nil] at e5
  have rd : ∀ p ∈ ts.map fun t => (t.1, t.2.1), RD c.X F p.1 p.2 := fun p hp => by
    obtain ⟨t, ht, rfl⟩ := List.mem_map.mp hp
    exact (e6 t ht).2
  refine ⟨ad, ts.map fun t => (t.1, t.2.1), ev, by rw [e2, (map_fst_snd ts).2], by rw [e3, (map_fst_snd ts).1], rd, fun qs hq => ?_⟩
  have adi : ad ∈ A i := by rw [e5]; simp
  have hil : i < ρ.length := (List.getElem?_eq_some_iff.mp h).1
  have nn : Nxt H F (fun a => a = ad) (upd H ad (.lst (qs.map (·.1)))) F (fun a => a = ad) := ⟨fun a u hu hn => by rw [upd_ne hn]; exact hu, Sub.refl _, fun a z => .inl z, fun a z => .inl z⟩
  have n2 : Nxt H F (Own A) (upd H ad (.lst (qs.map (·.1)))) F (Own A) := nn.weak (fun a z => ⟨i, z ▸ adi⟩) fun a z => .inr z
  refine ⟨⟨fun a u hu => ?_, by unfold st; rw [List.length_set]; exact r.len, fun j d hj => ?_, fun j hj => ?_, r.nd, r.dis⟩, n2⟩
  · by_cases e : a = ad
    · subst e
      rw [e4] at hu; cases hu
    · rw [upd_ne e]; exact r.sub a u hu
  · unfold st at hj
    by_cases e : j = i
    · subst e
      rw [List.getElem?_set_self hil] at hj
      cases hj
      refine ⟨.ref ad, ev, ?_⟩
      rw [hi]
      refine ⟨ad, qs.map fun q => (q.1, q.2, []), rfl, by rw [List.map_map]; rfl, by rw [upd_same, List.map_map]; rfl, e4, ?_, fun q hq' => ?_⟩
      · rw [e5, List.map_map]
        have : (List.map ((fun x : V × Pz.D × List Addr => x.2.2) ∘ fun x : V × Pz.D => (x.1, x.2, [])) qs).flatten = [] := by
          simp [List.flatten_eq_nil_iff]
        rw [this]
      · obtain ⟨p, hp, rfl⟩ := List.mem_map.mp hq'
        exact ⟨rfl, hq p hp⟩
    · rw [List.getElem?_set_ne (Ne.symm e)] at hj
      obtain ⟨w, ew, ow⟩ := r.val j d hj
      exact ⟨w, ew, ow.step nn fun a ha z => r.dis i j (Ne.symm e) a (z ▸ adi) ha⟩
  · unfold st at hj
    by_cases e : j = i
    · subst e
      exact absurd (List.getElem?_set_self hil) (hj _)
    · exact r.non j fun d z => hj d (by rw [List.getElem?_set_ne (Ne.symm e)]; exact z)
/-- x[k] = v -/
theorem sg_idx {x : Str} (hN : Y.N[i]? = some x) (hv : Vis Y.env.scope x) (hd : (x == ("__debug__" : Str)) = false) (hcd : (x == ("__classdict__" : Str)) = false) (hi : Γ.getD i 0 = 1) (hb : SX c W Γ kb Y b fb)
    (has : ∀ v, assign (.Subscript (.Name x p0) b pos) Y.env v = (do
      let ov ← holding [v] (eval (.Name x p0) Y.env)
      let iv ← holding [v, ov] (eval b Y.env)
      standAt pos
      holding [v, ov, iv] (setItem ov iv v)
      release [v, ov, iv] [])) :
    SG c W Z Γ Γ Y (.Subscript (.Name x p0) b pos) (fun d ρ => ((optR (gt ρ i)).bind fun _ => .ok (i, [], ρ)).bind fun p : Nat × List Pz.D × Env => (fb p.2.2).bind fun q =>
      (optR (gt q.2 p.1)).bind fun o => (optR (updAt (setItemD q.1 d) p.2.1 o)).bind fun o' => .ok (st q.2 p.1 o')) :=
  PG.imp (pg_sub (pe_var (i := i) hN hv hd hcd) hb set_list has) fun v σ H Q ⟨F, A, ρ, d, r, rd, h⟩ => by
    dsimp only at h
    rw [bind_assoc] at h
    obtain ⟨d0, e0, h⟩ := Run.opt h
    replace h : Run c (WM W Z.M σ) σ H F (Own A) ((fb ρ).bind fun q => (optR (gt q.2 i)).bind fun o => (optR (setItemD q.1 d o)).bind fun o' => .ok (st q.2 i o')) _ := h
    obtain ⟨w, ew, ow⟩ := r.val i d0 (gt_ok e0)
    refine ⟨w, ew, tX.inS (g := fun q ρ1 => (optR (gt ρ1 i)).bind fun o => (optR (setItemD q d o)).bind fun o' => .ok (st ρ1 i o')) r h fun y H1 F1 A1 q ρ1 B o h1 => ?_⟩
    obtain ⟨ol, e1, h2⟩ := Run.opt h1
    clear h1
    obtain ⟨ol', e2, h1⟩ := Run.opt h2
    clear h2
    cases ol <;> first | (cases e2; done) | skip
    · rename_i l
      cases q <;> first | (cases e2; done) | skip
      rename_i kk
      replace e2 : (ixI l.length kk).map (fun n => Pz.D.lst (l.set n d)) = some ol' := e2
      obtain ⟨n, e3, rfl⟩ := Option.map_eq_some_iff.mp e2
      replace h1 : ∀ σ' H' F' A', Agree Z.M σ σ' → Rep c.X Γ (st ρ1 i (.lst (l.set n d))) σ' H' F' A' → Nxt H F (Own A) H' F' (Own A') → Q σ' H' := h1
      obtain ⟨ad, ps, s1, rfl, s3, s4, s5⟩ := o.rep.list1 hi (gt_ok e1)
      rw [ew] at s1
      cases s1
      have hset : ∀ z ∈ ps.set n (v, d), RD c.X F1 z.1 z.2 := fun z hz => (List.mem_or_eq_of_mem_set hz).elim (s4 z) fun e => e ▸ rd.mono o.nx0.fro
      obtain ⟨r5, n5⟩ := s5 (ps.set n (v, d)) hset
      rw [List.map_set] at r5
      refine ⟨ad, _, kk, n, rfl, o.ot.int_eq, s3, by rw [← ixI_N]; simpa using e3, ?_⟩
      have := h1 σ _ F1 A1 .refl r5 (o.nx0.trans n5)
      rw [List.map_set] at this
      exact this
end
end Pz
end
section
set_option Elab.async false
set_option linter.all false
/-! Comprehensions; append; what is never reached. -/
namespace Pz
open PySem PySem.Spec PyProof.Rows L2

theorem bind_ok_inv {α β : Type} {m : R α} {f : α → R β} {b : β} (h : m.bind f = .ok b) : ∃ a, m = .ok a ∧ f a = .ok b := by
  cases m with
  | ok a => exact ⟨a, rfl, h⟩
  | error e => cases h
def never : WX := fun _ _ _ _ => False
section
variable {c : Cf} {W : WX} {Z : Zd} {Γ Γ1 Γ' : List Nat} {Y : Cx} {e a b : Expr} {es : List Expr} {pos p0 : Pos} {fa fb fe : Env → R (D × Env)} {fi : Env → R (List D × Env)} {fc : Env → R (Bool × Env)} {g : D → Env → R Env} {ls : List (Option Nat)} {pa pb pu pi pc pe : Bool} {k ka kb : Kd}
  {σ σ1 σ2 : Sl} {ρ ρ' ρ0 ρ1 ρ2 : Env} {H F H' F' H1 F1 H2 F2 : Hp} {A A' A1 A2 : Nat → List Addr} {v : V} {d : D} {B : List Addr} {n i : Nat} {x : Str}
theorem Run.of_eq {β : Type} {m : R β} {ok : β → Prop} {P : Addr → Prop} {b : β} (e : m = .ok b) (h : ok b) : Run c W σ H F P m ok := by rw [e]; exact h
theorem Rep.swap (r : Rep c.X Γ ρ σ H F A) (hl : σ1.length = σ.length) (h : ∀ (i : Nat) (d : D), ρ[i]? = some (some d) → σ1[i]? = σ[i]?) : Rep c.X Γ ρ σ1 H F A :=
  ⟨r.sub, r.len.trans hl.symm, fun i d e => by rw [h i d e]; exact r.val i d e, r.non, r.nd, r.dis⟩
/-- beside the slots a list is made at p -/
structure Kept (p : Addr) (xs : List V) (H F : Hp) (A : Nat → List Addr) : Prop where
  at_ : H p = some (.lst xs)
  fr : F p = none
  nown : ¬ Own A p
theorem Kept.step {p : Addr} {xs : List V} (k : Kept p xs H F A) (n : Nxt H F (Own A) H' F' (Own A')) : Kept p xs H' F' A' :=
  ⟨n.keep p _ k.at_ k.nown, (by
    cases e : F' p with
    | none => rfl
    | some o =>
      rcases n.new p (by rw [e]; simp) with z | z | z
      · exact absurd k.fr z
      · exact absurd z k.nown
      · rw [k.at_] at z; cases z), fun z => (n.own p z).elim k.nown fun y => by rw [k.at_] at y; cases y⟩
theorem unset_length : ∀ (l : List Nat) (ρ : Env), (unset ρ l).length = ρ.length
  | [], ρ => rfl
  | i :: l, ρ => by show (unset (ρ.set i none) l).length = _; rw [unset_length l]; simp
theorem unset_out : ∀ {l : List Nat} {ρ : Env} {i : Nat}, i ∉ l → (unset ρ l)[i]? = ρ[i]?
  | [], _, _, _ => rfl
  | j :: l, ρ, i, h => by
    show (unset (ρ.set j none) l)[i]? = _
    rw [unset_out (fun z => h (List.mem_cons_of_mem _ z)), List.getElem?_set_ne fun e => h (by rw [← e]; exact List.mem_cons_self)]
theorem back_length : ∀ (l : List Nat) (ρ0 ρ : Env), (back ρ0 ρ l).length = ρ.length
  | [], _, _ => rfl
  | i :: l, ρ0, ρ => by show (back ρ0 (ρ.set i _) l).length = _; rw [back_length l]; simp
theorem back_out : ∀ {l : List Nat} {ρ0 ρ : Env} {i : Nat}, i ∉ l → (back ρ0 ρ l)[i]? = ρ[i]?
  | [], _, _, _, _ => rfl
  | j :: l, ρ0, ρ, i, h => by
    show (back ρ0 (ρ.set j _) l)[i]? = _
    rw [back_out (fun z => h (List.mem_cons_of_mem _ z)), List.getElem?_set_ne fun e => h (by rw [← e]; exact List.mem_cons_self)]
theorem back_in : ∀ {l : List Nat} {ρ0 ρ : Env} {i : Nat}, i ∈ l → i < ρ.length → i < ρ0.length → (back ρ0 ρ l)[i]? = ρ0[i]?
  | [], _, _, _, h, _, _ => absurd h (by simp)
  | j :: l, ρ0, ρ, i, h, h1, h2 => by
    show (back ρ0 (ρ.set j _) l)[i]? = _
    by_cases m : i ∈ l
    · exact back_in m (by simpa using h1) h2
    · have e : i = j := (List.mem_cons.mp h).resolve_right m
      subst e
      rw [back_out m, List.getElem?_set_self h1, List.getElem?_eq_getElem h2]; rfl
theorem wipe_in {i : Nat} : ∀ {vs : List Nat} {σ : Sl}, i ∈ vs → i < σ.length → (wipe σ vs)[i]? = some none
  | [], _, h, _ => absurd h (by simp)
  | j :: vs, σ, h, hl => by
    unfold wipe
    by_cases e : j = i
    · subst e
      exact List.getElem?_set_self (by rw [wipe_length]; exact hl)
    · rw [List.getElem?_set_ne e]
      exact wipe_in ((List.mem_cons.mp h).resolve_left fun z => e z.symm) hl
abbrev inOwn (own : List Nat) : Nat → Bool := fun i => decide (i ∈ own)
theorem wipe_agree {own : List Nat} (h : Agree (inOwn own) (wipe σ own) σ2) : wipe σ2 own = wipe σ own := by
  have hl : σ2.length = σ.length := h.len.trans (wipe_length _ _)
  apply List.ext_getElem?
  intro i
  by_cases m : i ∈ own
  · by_cases hi : i < σ.length
    · rw [wipe_in m hi, wipe_in m (by rw [hl]; exact hi)]
    · rw [List.getElem?_eq_none (by rw [wipe_length, hl]; omega), List.getElem?_eq_none (by rw [wipe_length]; omega)]
  · rw [wipe_out m, h.at_ i (by simp [inOwn, m])]
/-- a block's slots -/
abbrev Zb (own : List Nat) : Zd := ⟨inOwn own, [], [], [], 0⟩
def lcF (g : D → Env → R Env) (fc : Env → R (Bool × Env)) (fe : Env → R (D × Env)) (own : List Nat) : D → Env → List D → R (List D × Env) := fun x ρ acc => (g x (unset ρ own)).bind fun ρ1 => (fc ρ1).bind fun t => if t.1 then (fe t.2).bind (push acc) else .ok (acc, t.2)
/-- the state of a block behind a turn, as the next turn finds it -/
theorem Rep.again {own : List Nat} (r : Rep c.X Γ ρ σ2 H F A) (h : Agree (inOwn own) (wipe σ own) σ2) : ∃ A', Rep c.X Γ (Pz.unset ρ own) (wipe σ own) H F A' ∧ ∀ a, Own A' a → Own A a := by
  obtain ⟨A', r', o⟩ := r.unset own
  refine ⟨A', r'.swap h.len.symm fun i d e => ?_, o⟩
  have := (unset_get e).1
  exact (h.at_ i (by simp [inOwn, this])).symm
theorem lc_go {own : List Nat} {Q : VK} (h0 : ∀ i ∈ own, Γ.getD i 0 = 0)
    (h : tX c W Γ ⟨true, false, 1⟩ (fun ρ => (fi ρ).bind fun p => (nox (compR (lcF g fc fe own) p.1 p.2 [])).bind fun r => .ok (.lst r.1, back p.2 r.2 own)) σ H Q) :
    tLc (tI c W Γ pi fi) (tG c never (Zb own) Γ Γ g) (tX2 c never Γ pc fc) (tX c never Γ ⟨true, pe, 0⟩ fe) own σ H Q := by
  obtain ⟨F, A, ρ, r, h⟩ := h
  refine ⟨F, A, ρ, r, h.bind.imp fun p _ hq J H1 F1 A1 md ⟨G, gG, w⟩ Dp hD => ?_⟩
  cases er : compR (lcF g fc fe own) p.1 p.2 [] with
  | error z => rw [er] at hq; exact hq.elim
  | ok rr =>
  rw [er] at hq
  replace hq : Ends' c Γ ⟨true, false, 1⟩ σ ρ H F A Q (.lst rr.1, back p.2 rr.2 own) := hq
  have own0 : ∀ i ∈ own, A1 i = [] := fun i hi => by
    by_cases e : ∃ d, p.2[i]? = some (some d)
    · obtain ⟨d, e⟩ := e
      obtain ⟨v, _, o⟩ := md.rep.val i d e
      rw [h0 i hi] at o
      exact o.1
    · exact md.rep.non i fun d z => e ⟨d, z⟩
  let Pv : Nat → Hp → Prop := fun i H' => ∃ F' A' ρ' acc, ∃ ps : List (V × D), Sub F1 F' ∧ Rep c.X Γ (unset ρ' own) (wipe σ own) H' F' A' ∧ ρ'.length = p.2.length ∧ Kept Dp (ps.map (·.1)) H' F' A' ∧ acc = ps.map (·.2) ∧ (∀ q ∈ ps, RD c.X F' q.1 q.2) ∧
    Nxt H1 F1 (Own A1) H' F' (Own A') ∧ compR (lcF g fc fe own) (p.1.drop i) ρ' acc = .ok rr
  have sb := upd_sub (o := .lst []) hD
  refine lc_it w Pv ?_ (fun i H' _ ⟨F', A', ρ', acc, ps, s, r', _⟩ => gG H' (s.trans r'.sub)) ?_ ?_
  · have nD : ¬ Own A1 Dp := fun z => (md.rep.dom z).1 hD
    have n0 : Nxt H1 F1 (Own A1) (upd H1 Dp (.lst [])) F1 (Own A1) := Nxt.grow sb
    have r1 : Rep c.X Γ p.2 σ (upd H1 Dp (.lst [])) F1 A1 := md.rep.step (Nxt.grow (P := fun _ => False) sb) (md.rep.sub.trans sb) fun _ _ z => z
    obtain ⟨A2, r2, o2⟩ := r1.unset own
    refine ⟨F1, A2, p.2, [], [], Sub.refl _, r2.swap (wipe_length _ _) fun i d e => wipe_out (unset_get e).1, rfl, ⟨upd_same, md.fresh hD, fun z => nD (o2 _ z)⟩, rfl, fun _ z => absurd z (by simp), n0.weak (fun _ z => z) fun a z => .inl (o2 a z), er⟩
  · intro i x Hc H2 hlt ⟨F', A', ρ', acc, ps, s, r', hlen, kp, eacc, hps, n', ecomp⟩ hy
    obtain ⟨d, hd⟩ : ∃ d, p.1[i]? = some d := ⟨p.1[i], List.getElem?_eq_getElem hlt⟩
    obtain ⟨F2, k1, k2, k3, k4, rx⟩ := hy F' s r'.sub d hd
    have nn : Nxt Hc F' (fun _ => False) H2 F2 (fun _ => False) := ⟨fun a o e _ => k1 a o e, k2, fun a e => (k4 a e).elim .inl fun z => .inr (.inr z), fun _ z => z.elim⟩
    have nn' : Nxt Hc F' (Own A') H2 F2 (Own A') := nn.weak (fun _ z => z.elim) fun a z => .inr z
    have r2 := r'.step nn k3 fun _ _ z => z
    have ed : p.1.drop i = d :: p.1.drop (i + 1) := by
      rw [List.drop_eq_getElem_cons hlt]
      congr 1
      have := List.getElem?_eq_getElem hlt
      rw [hd] at this
      exact (Option.some.inj this).symm
    rw [ed] at ecomp
    obtain ⟨p1, e1, e2⟩ := bind_ok_inv (show ((lcF g fc fe own) d ρ' acc).bind (fun q => compR (lcF g fc fe own) (p.1.drop (i + 1)) q.2 q.1) = .ok rr from ecomp)
    obtain ⟨ρ1, e3, e4⟩ := bind_ok_inv e1
    obtain ⟨t, e5, e6⟩ := bind_ok_inv e4
    refine ⟨F2, A', _, d, r2, rx, Run.of_eq e3 fun σ2 H3 F3 A3 ag r3 n3 => ⟨wipe_agree ag, F3, A3, ρ1, r3, Run.of_eq e5 fun H4 F4 A4 m4 => ?_⟩⟩
    have nA : Nxt H1 F1 (Own A1) H4 F4 (Own A4) := ((n'.trans nn').trans n3).trans m4.nx0
    have kp4 : Kept Dp (ps.map (·.1)) H4 F4 A4 := ((kp.step nn').step n3).step m4.nx0
    have s4 : Sub F' F4 := k2.trans (n3.fro.trans m4.nx0.fro)
    obtain ⟨tb, ρt⟩ := t
    have lt : ρt.length = p.2.length := by rw [m4.rep.len, ag.len, wipe_length, ← md.rep.len]
    cases tb with
    | false =>
      show Pv (i + 1) H4
      replace e6 : (Except.ok (acc, ρt) : R (List D × Env)) = .ok p1 := e6
      cases e6
      obtain ⟨A5, r5, o5⟩ := m4.rep.again ag
      exact ⟨F4, A5, ρt, acc, ps, s.trans s4, r5, lt, ⟨kp4.at_, kp4.fr, fun z => kp4.nown (o5 _ z)⟩, eacc, fun q hq => (hps q hq).mono s4, nA.weak (fun _ z => z) fun a z => .inl (o5 a z), e2⟩
    | true =>
      show tX c never Γ { own := true, pu := pe, lv := 0 } fe σ2 H4 fun y H4 => ∃ acc, H4 Dp = some (HO.lst acc) ∧ acc.length < sizeLine ∧ Pv (i + 1) (upd H4 Dp (HO.lst (acc ++ [y])))
      replace e6 : (fe ρt).bind (push acc) = .ok p1 := e6
      obtain ⟨q, e7, e8⟩ := bind_ok_inv e6
      unfold push at e8
      split at e8 <;> cases e8
      rename_i hacc
      refine ⟨F4, A4, ρt, m4.rep, Run.of_eq e7 fun y H5 F5 A5 B o5 => ⟨ps.map (·.1), (kp4.step o5.nx0).at_, by rw [← line_lim]; rw [eacc] at hacc; simpa using hacc, ?_⟩⟩
      have kp5 := kp4.step o5.nx0
      have n6 : Nxt H5 F5 (fun a => a = Dp) (upd H5 Dp (.lst (ps.map (·.1) ++ [y]))) F5 (fun a => a = Dp) := ⟨fun a u hu hn => by rw [upd_ne hn]; exact hu, Sub.refl _, fun a z => .inl z, fun a z => .inl z⟩
      have sub6 : Sub F5 (upd H5 Dp (.lst (ps.map (·.1) ++ [y]))) := fun a u hu => by
        have : a ≠ Dp := fun e => by rw [e, kp5.fr] at hu; cases hu
        rw [upd_ne this]; exact o5.rep.sub a u hu
      have r6 : Rep c.X Γ q.2 σ2 (upd H5 Dp (.lst (ps.map (·.1) ++ [y]))) F5 A5 := o5.rep.step n6 sub6 fun a z e => kp5.nown (e ▸ z)
      obtain ⟨A7, r7, o7⟩ := r6.again ag
      have hD1 : ¬ Own A1 Dp := fun z => (md.rep.dom z).1 hD
      refine ⟨F5, A7, q.2, acc ++ [q.1], ps ++ [(y, q.1)], s.trans (s4.trans o5.nx0.fro), r7, by rw [o5.rep.len, ag.len, wipe_length, ← md.rep.len], ⟨by rw [List.map_append]; exact upd_same, kp5.fr, fun z => kp5.nown (o7 _ z)⟩, by rw [eacc, List.map_append]; rfl, fun z hz => ?_, ?_, e2⟩
      · rcases List.mem_append.mp hz with hz | hz
        · exact (hps z hz).mono (s4.trans o5.nx0.fro)
        · rw [List.mem_singleton.mp hz]; exact o5.ot.2
      · have nB := nA.trans o5.nx0
        refine ⟨fun a u hu hn => ?_, nB.fro, nB.new, fun a z => nB.own a (o7 a z)⟩
        have : a ≠ Dp := fun e => by rw [e, hD] at hu; cases hu
        rw [upd_ne this]; exact nB.keep a u hu hn
  · intro He ⟨F', A', ρ', acc, ps, s, r', hlen, kp, eacc, hps, n', ecomp⟩
    rw [List.drop_length] at ecomp
    replace ecomp : (Except.ok (acc, ρ') : R (List D × Env)) = .ok rr := ecomp
    cases ecomp
    have hall := md.nx0.trans n'
    have dis : ∀ i, i ∈ own → A' i = [] := fun i hi => r'.non i fun d z => (unset_get z).1 hi
    refine hq (.ref Dp) He F' A' [Dp] ⟨⟨⟨r'.sub, ?_, fun i d hi => ?_, fun i hi => ?_, r'.nd, r'.dis⟩, ?_, fun z => absurd z (by simp)⟩, ?_, fun _ => by simp, fun _ a ha z => kp.nown (List.mem_singleton.mp ha ▸ z)⟩
    · rw [back_length, hlen]; exact md.rep.len
    · by_cases m : i ∈ own
      · have hil : i < p.2.length := by
          have := (List.getElem?_eq_some_iff.mp hi).1
          rw [back_length, hlen] at this; exact this
        rw [back_in m (by rw [hlen]; exact hil) hil] at hi
        obtain ⟨v, ev, o⟩ := md.rep.val i d hi
        refine ⟨v, ev, ?_⟩
        rw [h0 i m] at o ⊢
        exact ⟨dis i m, o.2.mono s⟩
      · rw [back_out m] at hi
        obtain ⟨v, ev, o⟩ := r'.val i d (by rw [unset_out m]; exact hi)
        rw [wipe_out m] at ev
        exact ⟨v, ev, o⟩
    · by_cases m : i ∈ own
      · exact dis i m
      · exact r'.non i fun d z => hi d (by rw [back_out m]; rw [unset_out m] at z; exact z)
    · exact ⟨hall.keep, hall.fro, hall.new, fun a z => z.elim (hall.own a) fun z => by rw [List.mem_singleton.mp z.2]; exact md.nx0.free hD⟩
    · refine ⟨Dp, ps.map fun q => (q.1, q.2, []), rfl, by rw [eacc, List.map_map]; rfl, by rw [kp.at_, List.map_map]; rfl, kp.fr, ?_, fun q hq' => ?_⟩
      · rw [List.map_map]
        have : (List.map ((fun x : V × D × List Addr => x.2.2) ∘ fun x : V × D => (x.1, x.2, [])) ps).flatten = [] := by
          simp [List.flatten_eq_nil_iff]
        rw [this]
      · obtain ⟨z, hz, rfl⟩ := List.mem_map.mp hq'
        exact ⟨rfl, hps z hz⟩

/-- a test of a comprehension -/
theorem tX2_yes (r : tX2 c W Γ true (fun ρ => .ok (true, ρ)) σ H Q) : tYes σ H Q := by
  obtain ⟨F, A, ρ, r, h⟩ := r
  replace h : ∀ H' F' A', Mid c Γ σ ρ H F A ρ H' F' A' (fun _ => False) true → Q true H' := h
  exact h H F A (Mid.refl r)
/-- name = [..] of a comprehension whose value is stored ahead of its end -/
theorem ss_setLc {own : List Nat} {sm : Stmt} (nm : NmAt Y Γ Z i x) (h0 : ∀ i ∈ own, Γ.getD i 0 = 0)
    (h : PS Y sm (tAsg (tLc (tI c W Γ pi fi) (tG c never (Zb own) Γ Γ g) (tX2 c never Γ pc fc) (tX c never Γ ⟨true, pe, 0⟩ fe) own) (gName i))) {m : Nat} (hm : m ≤ 1) :
    SS c W Z Γ (Γ.set i m) Y sm (fun ρ => ((fi ρ).bind fun p => (nox (compR (lcF g fc fe own) p.1 p.2 [])).bind fun r => .ok (.lst r.1, back p.2 r.2 own)).bind fun p => .ok (.nx (st p.2 i p.1))) :=
  PS.imp h fun N σ H ⟨F, A, ρ, r, h⟩ => lc_go h0 (tX.inS (ka := ⟨true, false, 1⟩) (g := fun d ρ1 => (.ok (.nx (st ρ1 i d)) : R Fl)) r h fun x H1 F1 A1 d ρ1 B o h1 => by
    replace h1 : EndS c Z (Γ.set i m) N σ H F A (.nx (st ρ1 i d)) := h1
    obtain ⟨F2, B2, o2⟩ := o.low (k' := ⟨true, false, m⟩) rfl hm fun z => z
    obtain ⟨A', r', o'⟩ := o2.rep.store nm.lv o2.ot (o2.nd rfl) (o2.dj rfl)
    exact h1 _ H1 F2 A' (.set nm.mm) r' (o2.mid.nx.weak (fun _ h => h) fun a z => .inl ((o' a z).imp (fun z => z) fun z => ⟨rfl, z⟩)))
/-- never reached -/
theorem ss_bad {sm : Stmt} : SS c W Z Γ Γ' Y sm (fun _ => bad) := PS.imp ps_never fun N σ H ⟨F, A, ρ, r, h⟩ => h
/-- x.append(e) -/
theorem ss_app {apos cpos : Pos} (cx : Ctx c W Y) (hN : Y.N[i]? = some x) (hv : Vis Y.env.scope x) (hd : (x == ("__debug__" : Str)) = false) (hcd : (x == ("__classdict__" : Str)) = false) (hi : Γ.getD i 0 = 1) (he : SX c W Γ ⟨true, pe, 0⟩ Y e fe)
    (hbase : attributeBase (.Name x p0) "append" Y.env (eval (.Name x p0) Y.env) = eval (.Name x p0) Y.env)
    (hfew : ((backTo cpos (starEach [e] Y.env)).all (fun x => !x.1) && (backToKw cpos (keywordEach [] Y.env)).all (fun x => x.1.isSome) && decide (([e] : List Expr).length + ([] : List Keyword).length + (if ([] : List Keyword).isEmpty then 0 else 1) < 30)) = true)
    (hline : (apos.endLine == cpos.line) = true) (hs : starEach [e] Y.env = (false, eval e Y.env) :: starEach [] Y.env) (hpl : (backTo cpos (starEach [] Y.env)).any (·.1) = false)
    (hsw : swapsWith (.Call (.Attribute (.Name x p0) "append" apos) [e] [] cpos) none pos.line Y.env = pure false) :
    SS c W Z Γ Γ Y (.Expr (.Call (.Attribute (.Name x p0) "append" apos) [e] [] cpos) pos) (fun ρ => ((optR (gt ρ i)).bind fun _ => .ok (i, [], ρ)).bind fun p : Nat × List Pz.D × Env => (optR ((gt p.2.2 p.1).bind (updAt lstD p.2.1))).bind fun _ => (fe p.2.2).bind fun q =>
      (optR (gt q.2 p.1)).bind fun x => (optR (updAt (appD q.1) p.2.1 x)).bind fun x' => .ok (.nx (st q.2 p.1 x'))) :=
  PS.imp (ps_expr (pe_bm PySem.F.plainAttrs_list PySem.F.slot_list_append PySem.F.type_list_append mt_append (pe_var (i := i) hN hv hd hcd) (pa_cons he pa_nil hs) hbase hfew hline hs hpl) hsw) fun N σ H ⟨F, A, ρ, r, h⟩ => by
    dsimp only at h
    rw [bind_assoc] at h
    obtain ⟨d0, e0, h0⟩ := Run.opt h
    replace h0 : Run c (WM W Z.M σ) σ H F (Own A) ((optR ((gt ρ i).bind lstD)).bind fun _ => (fe ρ).bind fun q => (optR (gt q.2 i)).bind fun x => (optR (appD q.1 x)).bind fun x' => .ok (.nx (st q.2 i x'))) (EndS c Z Γ N σ H F A) := h0
    obtain ⟨d1, e1, h2⟩ := Run.opt h0
    rw [e0] at e1
    replace e1 : lstD d0 = some d1 := e1
    cases d0 <;> first | (cases e1; done) | skip
    rename_i l0
    obtain ⟨ad, ps0, s0, el0, g0, f0, _⟩ := r.list1 hi (gt_ok e0)
    refine ⟨.ref ad, s0, .inl ⟨rfl, _, .of g0⟩, tX.inS (g := fun q ρ1 => (optR (gt ρ1 i)).bind fun x => (optR (appD q x)).bind fun x' => (.ok (.nx (st ρ1 i x')) : R Fl)) r h2 fun y H1 F1 A1 q ρ1 B o h3 => ?_⟩
    obtain ⟨xl, e3, h4⟩ := Run.opt h3
    obtain ⟨xl', e4, h5⟩ := Run.opt h4
    cases xl <;> first | (cases e4; done) | skip
    rename_i l
    replace e4 : (if l.length < lim then some (Pz.D.lst (l ++ [q])) else none) = some xl' := e4
    split at e4 <;> cases e4
    rename_i hlen
    replace h5 : EndS c Z Γ N σ H F A (.nx (st ρ1 i (.lst (l ++ [q])))) := h5
    obtain ⟨ad', ps, s1, rfl, s3, s4, s5⟩ := o.rep.list1 hi (gt_ok e3)
    rw [s0] at s1
    cases s1
    obtain ⟨r6, n6⟩ := s5 (ps ++ [(y, q)]) fun z hz => (List.mem_append.mp hz).elim (s4 z) fun z' => by rw [List.mem_singleton.mp z']; exact o.ot.2
    rw [List.map_append, List.map_append] at r6
    rw [List.map_append] at n6
    refine ⟨ad, _, y, rfl, rfl, s3, by rw [← line_lim]; simpa using hlen, ?_⟩
    exact h5 σ _ F1 A1 .refl r6 (o.nx0.trans n6)
end
end Pz
end
section
set_option Elab.async false
set_option linter.all false
/-! A def's promise from its body; what a checker knows of a scope. -/
namespace Pz
open PySem PySem.Spec PyProof.Rows L2

/-- a scope as the checker sees it -/
structure Scp (c : Cf) (P : Program) (w : World) (mg : Str → Option Value) (base : Heap) (k : Nat) (N : List Str) (sc : List (Str × NameKind)) (W : WX) (Y : Cx) : Prop extends Ctx c W Y where
  eP : Y.prog = P
  ew : Y.w = w
  emg : Y.mg = mg
  ebase : Y.base = base
  room : RoomG k Y.A
  eN : Y.N = N
  nd : N.Nodup
  look : ∀ x kd, sc.lookup x = some kd → Y.env.scope.names.lookup x = some kd ∨ (kd = .free ∧ Y.env.scope.names.lookup x = some .cell)
  fn : ∀ x, sc.lookup x = some .cell → Y.fn x = true
  pass : PassesOwn (model Y.prog Y.w) Y.A Y.env Y.xe

def visB (sc : List (Str × NameKind)) (x : Str) : Bool := match sc.lookup x with | some .local | some .cell | some .free => true | _ => false
def glB (sc : List (Str × NameKind)) (x : Str) : Bool := match sc.lookup x with | some .globalImplicit => true | _ => false
def locB (sc : List (Str × NameKind)) (x : Str) : Bool := match sc.lookup x with | some .local | some .cell => true | _ => false
section
variable {c : Cf} {P : Program} {w : World} {mg : Str → Option Value} {base : Heap} {k : Nat} {N : List Str} {sc : List (Str × NameKind)} {W : WX} {Y : Cx} {x : Str}
theorem Scp.vis (s : Scp c P w mg base k N sc W Y) (h : visB sc x = true) : Vis Y.env.scope x := by
  unfold visB at h
  split at h
  · rename_i e; rcases s.look x _ e with z | z
    · exact .inl z
    · cases z.1
  · rename_i e; rcases s.look x _ e with z | z
    · exact .inr (.inl z)
    · cases z.1
  · rename_i e; rcases s.look x _ e with z | z
    · exact .inr (.inr z)
    · exact .inr (.inl z.2)
  · cases h
theorem Scp.gl (s : Scp c P w mg base k N sc W Y) (h : glB sc x = true) : Gl Y x := by
  unfold glB at h
  split at h
  · rename_i e; rcases s.look x _ e with z | z
    · exact z
    · cases z.1
  · cases h
theorem Scp.loc (s : Scp c P w mg base k N sc W Y) (h : locB sc x = true) : Loc Y.env.scope x ∧ (Y.fn x = true ∨ Y.env.scope.names.lookup x = some .local) := by
  unfold locB at h
  split at h
  · rename_i e; rcases s.look x _ e with z | z
    · exact ⟨.inl z, .inr z⟩
    · cases z.1
  · rename_i e; rcases s.look x _ e with z | z
    · exact ⟨.inr z, .inl (s.fn x e)⟩
    · cases z.1
  · cases h
end

/-- the levels at a def's entry -/
def lev0 (sg : Sg) (ns : Nat) : List Nat := (List.range ns).map fun i => sg.pl.getD i 0
def ioM (io : List Nat) : Nat → Bool := fun i => !(io.contains i)
def Z0 (f : Fn) (sg : Sg) : Zd := ⟨ioM f.io, [], [], lev0 sg f.ns, sg.rl⟩
theorem lev0_get {sg : Sg} {ns i : Nat} (h : i < ns) : (lev0 sg ns).getD i 0 = sg.pl.getD i 0 := by
  unfold lev0
  rw [List.getD_eq_getElem?_getD, List.getElem?_map, List.getElem?_range h]
  rfl
section
variable {c : Cf} {Γ : List Nat} {σ : Sl} {ρ : Env} {H F : Hp} {A : Nat → List Addr} {vs : List V} {np : Nat} {sg : Sg} {io : List Nat} {os : List D}
/-- what is lent comes back -/
theorem Rep.outs (r : Rep c.X Γ ρ σ H F A) (hv : vs.length = np) (hio : io = [] ∨ ∃ j, io = [j] ∧ j < np ∧ σ[j]? = (vs.map some)[j]? ∧ Γ.getD j 0 = sg.pl.getD j 0) (ho : Pz.outs ρ io = some os) :
    os.length = io.length ∧ ∃ A', Rep c.X sg.pl (ioE np io os) (vs.map some) H F A' ∧ ∀ a, Own A' a → Own A a := by
  rcases hio with rfl | ⟨j, rfl, hj, hs, hl⟩
  · cases ho
    refine ⟨rfl, fun _ => [], ⟨r.sub, by simp [ioE, hv], fun i d h => ?_, fun _ _ => rfl, fun _ => List.nodup_nil, fun _ _ _ _ z => absurd z (by simp)⟩, fun a ⟨_, z⟩ => absurd z (by simp)⟩
    rw [show ioE np [] [] = List.replicate np none from rfl, List.getElem?_replicate] at h
    split at h <;> cases h
  · obtain ⟨o, e1, e2⟩ := Option.bind_eq_some_iff.mp ho
    cases e2
    refine ⟨rfl, fun i => if i = j then A j else [], ⟨r.sub, by simp [ioE, hv], fun i d h => ?_, fun i h => ?_, fun i => ?_, fun i l hil a z w => ?_⟩, fun a ⟨i, z⟩ => ?_⟩
    · by_cases e : i = j
      · subst e
        rw [show (ioE np [i] [o])[i]? = some (some o) from List.getElem?_set_self (by simpa using hj)] at h
        cases h
        obtain ⟨v, ev, ot⟩ := r.val i o (gt_ok e1)
        exact ⟨v, by rw [← hs]; exact ev, by rw [← hl]; simpa using ot⟩
      · rw [show (ioE np [j] [o])[i]? = (List.replicate np none)[i]? from List.getElem?_set_ne (Ne.symm e), List.getElem?_replicate] at h
        split at h <;> cases h
    · by_cases e : i = j
      · subst e
        exact absurd (show (ioE np [i] [o])[i]? = some (some o) from List.getElem?_set_self (by simpa using hj)) (h o)
      · simp [e]
    · by_cases e : i = j
      · simpa [e] using r.nd j
      · simp [e]
    · by_cases e : i = j <;> by_cases e' : l = j
      · exact hil (e.trans e'.symm)
      · simp [e'] at w
      · simp [e] at z
      · simp [e] at z
    · by_cases e : i = j
      · simp only [e, if_true] at z; exact ⟨j, z⟩
      · simp [e] at z
end

theorem fn_ok {c : Cf} {P : Program} {w : World} {mg : Str → Option Value} {base : Heap} {k : Nat} {ad : Addr} {name qual : Str} {params : Arguments} {body : List Stmt} {scope : Scope} {dV kV doc pm cdv ct oc : Value} {an od : Option Addr}
    {osl : Array (Option Value)} {N ps : List Str} {f : Fn} {sg : Sg} {C : Cfg} {fb : Env → R Fl} (lk : c.X.K.lookup ad = some ⟨oc, od, .func (PySem.W.fnOf name qual params body scope dV kV doc pm an cdv ct), osl⟩) (hcd : PySem.W.codeIn c.X.K cdv qual = true) (S : FnScope N ps scope)
    (hN : N.length = f.ns) (hps : ps.length = f.np) (hio : f.io = [] ∨ ∃ j, f.io = [j] ∧ j < f.np) (hnn : f.np ≤ f.ns) (hnd : base.NoDigits) (hsm : SmOk base) {Γe : List Nat} (hΓe : ∀ j ∈ f.io, Γe.getD j 0 = sg.pl.getD j 0)
    (hfb : fb = evB C f.body)
    (hbody : ∀ (W : WX) (Y : Cx), Scp c P w mg base k N scope.names W Y → (∀ x, Y.env.kindOf x = scope.names.lookup x) → Y.env.blockKind = .function → Y.stack = Y.env :: Y.outer → Y.env.frame = some Y.env.locals → Y.ex = [] → SSs c W (Z0 f sg) (lev0 sg f.ns) Γe Y body fb) :
    FnG P w c.X.K mg base (L2.CX P w) (k + 1) ad (PySem.W.fnOf name qual params body scope dV kV doc pm an cdv ct) ps (spF c f.np f.io sg (runFn C f)) := by
  refine fng_of lk hcd S (fun vs H Q E ⟨F, A, ds, h1, _⟩ => h1.trans hps.symm) fun A outer s H vs Q E hr hsp => ?_
  obtain ⟨F, A0, ds, hv, hd, r, hrun⟩ := hsp
  let Y := cxOf (L2.CX P w) P w c.X.K mg base N qual scope ad cdv A outer s H E
  have hsc : Scp c P w mg base k N scope.names (fun cls dx _ H' => E cls dx H') Y := {
    K := rfl
    tk := takes_of (E₁ := fun e' s'' => L2.CX P w outer H s E e' s'') rfl rfl rfl rfl
    hu := by have := hr.r.un; show (A.deeper _).units + 65 < cLine; omega
    calm := rfl
    gd := hr.g
    dg := hnd
    sm := hsm
    eP := rfl
    ew := rfl
    emg := rfl
    ebase := rfl
    room := hr
    eN := rfl
    nd := S.nd
    look := fun x kd h => .inl h
    fn := fun _ _ => rfl
    pass := passes_of (E₁ := fun e' s'' => L2.CX P w outer H s E e' s'') rfl }
  refine ⟨_, hbody _ Y hsc (fun _ => rfl) (by show (if scope.kind.isAnnotationScope then ScopeKind.function else scope.kind) = _; rw [S.kind]; rfl) rfl rfl rfl, F, A0, initE f ds, ?_, ?_⟩
  · refine ⟨r.sub, ?_, fun i d h => ?_, fun i h => ?_, r.nd, r.dis⟩
    · unfold initE L2.start
      rw [List.length_append, List.length_append, List.length_map, List.length_map, List.length_replicate, List.length_replicate, hv, hd, hN]
    · have hi : i < f.np := by
        rcases Nat.lt_or_ge i f.np with z | z
        · exact z
        · unfold initE at h
          rw [List.getElem?_append_right (by rw [List.length_map, hd]; exact z), List.getElem?_replicate] at h
          split at h <;> cases h
      unfold initE at h
      rw [List.getElem?_append_left (by rw [List.length_map, hd]; exact hi)] at h
      obtain ⟨v, ev, o⟩ := r.val i d h
      refine ⟨v, ?_, ?_⟩
      · unfold L2.start
        rw [List.getElem?_append_left (by rw [List.length_map, hv]; exact hi)]
        exact ev
      · rw [lev0_get (Nat.lt_of_lt_of_le hi hnn)]; exact o
    · refine r.non i fun d z => h d ?_
      have hi : i < f.np := by
        have := (List.getElem?_eq_some_iff.mp z).1
        rw [List.length_map, hd] at this; exact this
      unfold initE
      rw [List.getElem?_append_left (by rw [List.length_map, hd]; exact hi)]
      exact z
  · have hrun2 : Run c (fun cls dx _ H' => E cls dx H') [] H F (Own A0) ((fb (initE f ds)).bind (endFn f)) (FnP c f.np f.io sg vs H F A0 Q) := by
      rw [hfb]
      have : runFn C f ds = (evB C f.body (initE f ds)).bind (endFn f) := if_pos hd
      rw [← this]; exact hrun
    have hrun3 : Run c (WM (fun cls dx _ H' => E cls dx H') (Z0 f sg).M (L2.start N vs)) (L2.start N vs) H F (Own A0) ((fb (initE f ds)).bind (endFn f)) (FnP c f.np f.io sg vs H F A0 Q) := by
      cases e : (fb (initE f ds)).bind (endFn f) with
      | ok b => rw [e] at hrun2; exact hrun2
      | error er =>
        rw [e] at hrun2
        cases er with
        | stuck => exact hrun2
        | exc kk fs => exact fun cls dx H' x σ' _ => hrun2 cls dx H' x
    have ioK : ∀ {σ' : Sl} {Γ : List Nat}, Agree (Z0 f sg).M (L2.start N vs) σ' → (∀ j ∈ f.io, Γ.getD j 0 = sg.pl.getD j 0) → (f.io = [] ∨ ∃ j, f.io = [j] ∧ j < f.np ∧ σ'[j]? = (vs.map some)[j]? ∧ Γ.getD j 0 = sg.pl.getD j 0) := by
      intro σ' Γ ag hg
      rcases hio with z | ⟨j, z, hj⟩
      · exact .inl z
      · refine .inr ⟨j, z, hj, ?_, hg j (by rw [z]; simp)⟩
        rw [ag.at_ j (by show (!(f.io.contains j)) = false; rw [z]; simp)]
        unfold L2.start
        exact List.getElem?_append_left (by rw [List.length_map, hv]; exact hj)
    refine hrun3.bind.imp fun fl _ hq => ?_
    cases fl with
    | nx ρ' =>
      intro σ' H' F' A' ag r' n'
      replace hq : Run c _ (L2.start N vs) H F (Own A0) ((optR (outs ρ' f.io)).bind fun o => .ok (.non, o)) (FnP c f.np f.io sg vs H F A0 Q) := hq
      obtain ⟨os, eo, hq⟩ := Run.opt hq
      replace hq : FnP c f.np f.io sg vs H F A0 Q (.non, os) := hq
      obtain ⟨hl, A2, r2, o2⟩ := r'.outs (sg := sg) hv (ioK ag hΓe) eo
      exact hq .non H' F' A2 [] hl r2 (n'.weak (fun _ z => z) fun a z => .inl (z.elim (o2 a) fun z => absurd z (by simp))) (.atom .non rfl) List.nodup_nil fun _ z => absurd z (by simp)
    | rt d ρ' =>
      intro σ' v H' F' A' B ag r' n' ot nd dj
      replace hq : Run c _ (L2.start N vs) H F (Own A0) ((optR (outs ρ' f.io)).bind fun o => .ok (d, o)) (FnP c f.np f.io sg vs H F A0 Q) := hq
      obtain ⟨os, eo, hq⟩ := Run.opt hq
      replace hq : FnP c f.np f.io sg vs H F A0 Q (d, os) := hq
      obtain ⟨hl, A2, r2, o2⟩ := r'.outs (sg := sg) hv (ioK ag fun j hj => lev0_get (by rcases hio with z | ⟨i, z, hi⟩ <;> rw [z] at hj <;> simp at hj; omega)) eo
      exact hq v H' F' A2 B hl r2 (n'.weak (fun _ z => z) fun a z => .inl (z.imp (o2 a) fun z => z)) ot nd fun a ha z => dj a ha (o2 a z)
    | bk ρ' => exact hq.elim
    | ct ρ' => exact hq.elim
end Pz
end
section
set_option Elab.async false
set_option linter.all false
/-! Facts of syntax; return of a slot. -/
namespace Pz
open PySem PySem.Spec PyProof.Rows L2

def noStar : Expr → Bool
  | .Starred _ _ => false
  | _ => true
theorem star_cons {e : Expr} {es : List Expr} {env : PySem.Env} (h : noStar e = true) : starEach (e :: es) env = (false, eval e env) :: starEach es env := by
  cases e <;> first | rfl | cases h
theorem star_any {es : List Expr} {env : PySem.Env} {pos : Pos} (h : es.all noStar = true) : (backTo pos (starEach es env)).any (·.1) = false := by
  induction es with
  | nil => rfl
  | cons e es ih =>
    rw [List.all_cons, Bool.and_eq_true] at h
    rw [star_cons h.1]
    unfold backTo at ih ⊢
    rw [List.map_cons, List.any_cons, ih h.2]; rfl
def plainT : Expr → Bool
  | .BoolOp .. | .UnaryOp .. | .IfExp .. | .Compare .. => false
  | _ => true
theorem plain_true {e : Expr} {env : PySem.Env} (h : plainT e = true) : ∀ whole, isTrue e env whole = (do let v ← whole; standAt e.pos; holding [v] (truthy v)) := by
  intro whole
  cases e <;> first | rfl | (cases h; done)
def plainI : Expr → Bool
  | .Slice .. => false
  | _ => true
theorem plain_ix {e : Expr} (h : plainI e = true) : PlainIx e := by
  intro o i
  cases e <;> first | rfl | (cases h; done)
def noSet : Expr → Bool
  | .Set .. => false
  | _ => true
theorem folded {e : Expr} {env : PySem.Env} (h : noSet e = true) : ∀ x, foldedSetIterable e env x = pure x := by
  intro x
  cases e <;> first | rfl | (cases h; done)
theorem mark {e : Expr} {op : CmpOp} (h : noSet e = true) : behindInMarks op e = false := by
  cases e <;> first | rfl | (cases h; done)
theorem assign_cons {e : Expr} {es : List Expr} {env : PySem.Env} (h : noStar e = true) : (assignEach (e :: es) env).map (·.2) = assign e env :: (assignEach es env).map (·.2) := by
  cases e <;> first | rfl | cases h
theorem assign_len {es : List Expr} {env : PySem.Env} : (assignEach es env).length = es.length := by
  induction es with
  | nil => rfl
  | cons e es ih => cases e <;> exact congrArg (· + 1) ih
theorem assign_find {es : List Expr} {env : PySem.Env} (h : es.all noStar = true) : (assignEach es env).findIdx? (·.1) = none := by
  induction es with
  | nil => rfl
  | cons e es ih =>
    rw [List.all_cons, Bool.and_eq_true] at h
    have h2 := ih h.2
    cases e <;> first | (cases h.1; done) | skip
    all_goals
      show ((_, _) :: assignEach es env).findIdx? (·.1) = none
      rw [List.findIdx?_cons, h2]; rfl
def noComp : Expr → Bool
  | .ListComp .. | .SetComp .. | .DictComp .. => false
  | _ => true
theorem swaps_no {e : Expr} {t : Option Expr} {l : Nat} {env : PySem.Env} (h : noComp e = true) : swapsWith e t l env = pure false := by
  cases e <;> first | rfl | (cases h; done)
theorem attr_name {x a : Str} {p : Pos} {env : PySem.Env} {wh : Sem Value} : attributeBase (.Name x p) a env wh = wh := rfl

section
variable {c : Cf} {W : WX} {Z : Zd} {Γ Γ1 Γ' : List Nat} {Y : Cx} {pos p0 : Pos} {i : Nat} {x : Str}
/-- a slot's value goes to another slot -/
theorem ss_mov {j : Nat} {y : Str} {p1 : Pos} (nm : NmAt Y Γ Z j y) (hN : Y.N[i]? = some x) (hv : Vis Y.env.scope x) (hd : (x == ("__debug__" : Str)) = false) (hcd : (x == ("__classdict__" : Str)) = false) :
    SS c W Z Γ (Γ.set j (Γ.getD i 0)) Y (.Assign [.Name y p1] (.Name x p0) pos) (fun ρ => (optR (gt ρ i)).bind fun d => .ok (.nx (st (ρ.set i none) j d))) :=
  PS.imp (ps_set nm.nd nm.at_ nm.loc (pe_var (i := i) hN hv hd hcd) rfl nm.fn) fun N σ H ⟨F, A, ρ, r, h⟩ => by
    obtain ⟨d, e, h⟩ := Run.opt h
    replace h : EndS c Z (Γ.set j (Γ.getD i 0)) N σ H F A (.nx (st (ρ.set i none) j d)) := h
    obtain ⟨v, ev, o⟩ := r.val i d (gt_ok e)
    refine ⟨v, ev, ?_⟩
    obtain ⟨A', r', o'⟩ := (r.drop i).store nm.lv o (r.nd i) fun a ha ⟨k, z⟩ => by
      by_cases e : k = i
      · simp [e] at z
      · simp only [e, if_false] at z
        exact r.dis k i e a z ha
    refine h _ H F A' (.set nm.mm) r' ((Nxt.refl (P := Own A)).weak (fun _ h => h) fun a z => .inl ?_)
    rcases o' a z with ⟨k, q⟩ | q
    · by_cases e : k = i
      · simp [e] at q
      · simp only [e, if_false] at q
        exact ⟨k, q⟩
    · exact ⟨i, q⟩
/-- a slot's own value goes out -/
theorem ss_retv (hN : Y.N[i]? = some x) (hv : Vis Y.env.scope x) (hd : (x == ("__debug__" : Str)) = false) (hcd : (x == ("__classdict__" : Str)) = false) (hr : Z.rl ≤ Γ.getD i 0) (hl : ∀ j, j ≠ i → Z.Γr.getD j 0 ≤ Γ.getD j 0) :
    SS c W Z Γ Γ' Y (.Return (some (.Name x p0)) pos) (fun ρ => (optR (gt ρ i)).bind fun d => .ok (.rt d (ρ.set i none))) :=
  PS.imp (ps_ret (pe_var (i := i) hN hv hd hcd)) fun N σ H ⟨F, A, ρ, r, h⟩ => by
    obtain ⟨d, e, h⟩ := Run.opt h
    replace h : EndS c Z Γ' N σ H F A (.rt d (ρ.set i none)) := h
    obtain ⟨v, ev, o⟩ := r.val i d (gt_ok e)
    refine ⟨v, ev, ?_⟩
    -- the slot's tree, at the level that is told
    obtain ⟨B, b1, b2, b3⟩ := o.lower (r.nd i) hr
    have own := fun a (ha : a ∈ A i) => r.dom ⟨i, ha⟩
    let F1 := frz H F ((A i).filter fun a => decide (a ∉ B))
    have s1 := frz_sub (B := (A i).filter fun a => decide (a ∉ B)) r.sub
    have n1 : Nxt H F (fun a => a ∈ A i) H F1 (fun a => a ∈ B) := ⟨fun a u hu _ => hu, s1.1, fun a z => (frz_ne z).imp (fun z => z) fun z => .inl (List.mem_filter.mp z).1, fun a z => .inl (b1 a z)⟩
    have ob : OT c.X H F1 Z.rl v d B := b3 F1 s1.1 (fun b hb nb => frz_at (List.mem_filter.mpr ⟨hb, by simp [nb]⟩)) fun b hb => by
      show frz H F _ b = none
      unfold frz
      rw [if_neg fun z => by have := (List.mem_filter.mp z).2; simp at this; exact this hb]
      exact (own b (b1 b hb)).2
    have rd := r.drop i
    have r1 : Rep c.X Γ (ρ.set i none) σ H F1 (fun j => if j = i then [] else A j) := rd.step n1 s1.2 fun a ⟨j, z⟩ w => by
      by_cases e : j = i
      · simp [e] at z
      · simp only [e, if_false] at z
        exact r.dis j i e a z w
    obtain ⟨F2, A2, r2, n2⟩ := r1.relevel (Γ' := Z.Γr) fun j d hj => by
      by_cases e : j = i
      · subst e
        by_cases hl : j < ρ.length
        · rw [List.getElem?_set_self hl] at hj; cases hj
        · rw [List.getElem?_eq_none (by simpa using hl)] at hj; cases hj
      · exact hl j e
    have o1 : ∀ a, Own (fun j => if j = i then [] else A j) a → Own A a ∧ a ∉ A i := fun a ⟨j, z⟩ => by
      by_cases e : j = i
      · simp [e] at z
      · simp only [e, if_false] at z
        exact ⟨⟨j, z⟩, fun w => r.dis j i e a z w⟩
    have dB : ∀ a ∈ B, ¬ Own (fun j => if j = i then [] else A j) a := fun a ha z => (o1 a z).2 (b1 a ha)
    have nA : Nxt H F (Own A) H F2 (fun a => Own A2 a ∨ a ∈ B) := by
      refine ⟨fun a u hu _ => hu, s1.1.trans n2.fro, fun a z => ?_, fun a z => ?_⟩
      · rcases n2.new a z with z | z | z
        · exact (frz_ne z).imp (fun z => z) fun z => .inl ⟨i, (List.mem_filter.mp z).1⟩
        · exact .inr (.inl (o1 a z).1)
        · exact .inr (.inr z)
      · rcases z with z | z
        · exact (n2.own a z).imp (fun z => (o1 a z).1) fun z => z
        · exact .inl ⟨i, b1 a z⟩
    exact h σ v H F2 A2 B .refl r2 nA (ob.step n2 dB) b2 fun a ha z => (n2.own a z).elim (dB a ha) fun w => (own a (b1 a ha)).1 w
end
end Pz
end
section
set_option Elab.async false
set_option linter.all false
/-! Rules of built-in functions. -/
namespace Pz
open PySem PySem.Spec PyProof.Rows L2

section
variable {c : Cf} {W : WX} {Γ : List Nat} {Y : Cx} {e a b : Expr} {es : List Expr} {pos p0 : Pos} {k ka kb : Kd} {fa fb : Env → R (D × Env)} {fs : Env → R (List D × Env)} {ls : List (Option Nat)} {pu : Bool} {x : Str} {id : String}
theorem SX.cong {f g : Env → R (D × Env)} (h : SX c W Γ k Y e f) (q : ∀ ρ, f ρ = g ρ) : SX c W Γ k Y e g := by
  rw [← funext q]; exact h
/-- a built-in function of one value, whose result is an atom -/
def At1 (X : Tx) (g : List D → Option D) (r : List V → Hp → VK → Prop) : Prop := ∀ (H : Hp) (v : V) (d d' : D), RD X H v d → g [d] = some d' → isAtom d' = true ∧ ∃ v', (∀ F, RD X F v' d') ∧ ∀ Q : VK, Q v' H → r [v] H Q
theorem sx_at1 {g : List D → Option D} {r : List V → Hp → VK → Prop} (pe : ∀ t, PA Y [a] t → PE Y e (tCB r t)) (hr : At1 c.X g r) (ha : SX c W Γ ka Y a fa) (hs : noStar a = true) :
    SX c W Γ (kA ka.pu) Y e (fun ρ => (fa ρ).bind fun p => (optR (g [p.1])).bind fun d => .ok (d, p.2)) :=
  PE.imp (pe _ (pa_cons ha pa_nil (star_cons hs))) fun σ H Q ⟨F, A, ρ, rp, h⟩ => tX.one (g := fun d ρ1 => (optR (g [d])).bind fun d => .ok (d, ρ1)) rp h fun v H1 F1 A1 d ρ1 B o h1 => by
    obtain ⟨d', e', h2⟩ := Run.opt h1
    replace h2 : Ends' c Γ (kA ka.pu) σ ρ H F A Q (d', ρ1) := h2
    obtain ⟨q1, v', q2, q3⟩ := hr H1 v d d' (o.ot.read o.rep.sub) e'
    exact q3 _ (h2 v' H1 F1 A1 [] (o.mid.val (q2 _) (fun z => z) (.inr q1)))
/-- .. of two -/
def At2 (X : Tx) (g : List D → Option D) (r : List V → Hp → VK → Prop) : Prop := ∀ (H : Hp) (v w : V) (d e d' : D), RD X H v d → RD X H w e → g [d, e] = some d' → isAtom d' = true ∧ ∃ v', (∀ F, RD X F v' d') ∧ ∀ Q : VK, Q v' H → r [v, w] H Q
theorem sx_at2 {g : List D → Option D} {r : List V → Hp → VK → Prop} (pe : ∀ t, PA Y [a, b] t → PE Y e (tCB r t)) (hr : At2 c.X g r) (ha : SA c W Γ [none, none] pu Y [a, b] fs) :
    SX c W Γ (kA pu) Y e (fun ρ => (fs ρ).bind fun p => (optR (g p.1)).bind fun d => .ok (d, p.2)) :=
  PE.imp (pe _ ha) fun σ H Q ⟨F, A, ρ, rp, h⟩ => tF.one (g := fun ds ρ1 => (optR (g ds)).bind fun d => .ok (d, ρ1)) rp h fun vs H1 F1 A1 ds ρ1 m ap h1 => by
    obtain ⟨d', e', h2⟩ := Run.opt h1
    replace h2 : Ends' c Γ (kA pu) σ ρ H F A Q (d', ρ1) := h2
    obtain ⟨v, d, w, e2, rfl, rfl, r1, r2⟩ := ap.two
    obtain ⟨q1, v', q2, q3⟩ := hr H1 v w d e2 d' (r1.mono m.rep.sub) (r2.mono m.rep.sub) e'
    exact q3 _ (h2 v' H1 F1 A1 [] (m.val (q2 _) (fun z => z) (.inr q1)))
end

section
variable {X : Tx}
theorem at_len : At1 X (biD .len) (fun xs H Q => ∃ x n, xs = [x] ∧ LenV X.K x H n ∧ Q (.int n) H) := fun H v d d' r e => by
  replace e : lenD d = some d' := e
  cases d <;> first | (cases e; done) | skip
  · rename_i s
    replace e : (if s.length ≤ lim then some (D.int s.length) else none) = some d' := e
    split at e <;> cases e
    rename_i hl
    refine ⟨rfl, _, fun F => .int _, fun Q q => ⟨v, s.length, rfl, ?_, q⟩⟩
    rw [r.str_eq]
    exact ⟨by rw [sV_length, ← line_lim]; exact hl, (sV_length s).symm⟩
  · cases e
    obtain ⟨a, ps, rfl, rfl, s, _⟩ := r.lst_eq
    refine ⟨rfl, _, fun F => .int _, fun Q q => ⟨_, _, rfl, .inl ⟨_, s, rfl⟩, by simpa using q⟩⟩
  · cases e
    obtain ⟨a, ps, rfl, rfl, s, _⟩ := r.tup_eq
    refine ⟨rfl, _, fun F => .int _, fun Q q => ⟨_, _, rfl, .inr ⟨_, s, rfl⟩, by simpa using q⟩⟩
  · cases r
theorem at_int : At1 X (biD .int) (fun xs H Q => (∃ i, xs = [.int i] ∧ Q (.int i) H) ∨ ∃ k, xs = [.bl k] ∧ Q (.int (if k then 1 else 0)) H) := fun H v d d' r e => by
  cases d <;> first | (cases e; done) | skip
  · rename_i b
    cases e
    exact ⟨rfl, _, fun F => .int _, fun Q q => .inr ⟨b, by rw [r.bl_eq], q⟩⟩
  · rename_i i
    cases e
    exact ⟨rfl, _, fun F => .int _, fun Q q => .inl ⟨i, by rw [r.int_eq], q⟩⟩
theorem at_abs : At1 X (biD .abs) (fun xs H Q => ∃ i, xs = [.int i] ∧ Q (.int (if i < 0 then -i else i)) H) := fun H v d d' r e => by
  cases d <;> first | (cases e; done) | skip
  rename_i i
  cases e
  exact ⟨rfl, _, fun F => .int _, fun Q q => ⟨i, by rw [r.int_eq], q⟩⟩
theorem sumL_ints : ∀ (l : List D) (a b : Int), sumL a l = some b → ∃ ns : List Int, l = ns.map D.int ∧ b = a + ns.sum
  | [], a, b, h => by cases h; exact ⟨[], rfl, by simp⟩
  | .int i :: l, a, b, h => by
    obtain ⟨ns, e1, e2⟩ := sumL_ints l (a + i) b h
    exact ⟨i :: ns, by rw [e1]; rfl, by rw [e2, List.sum_cons]; omega⟩
  | .non :: _, _, _, h => by cases h
  | .bl _ :: _, _, _, h => by cases h
  | .str _ :: _, _, _, h => by cases h
  | .lst _ :: _, _, _, h => by cases h
  | .tup _ :: _, _, _, h => by cases h
  | .dic _ _ :: _, _, _, h => by cases h
  | .set _ :: _, _, _, h => by cases h
  | .fn _ :: _, _, _, h => by cases h
  | .exc _ _ :: _, _, _, h => by cases h
theorem ints_of {H : Hp} : ∀ {ns : List Int} {ps : List (V × D)}, ns.map D.int = ps.map (·.2) → (∀ p ∈ ps, RD X H p.1 p.2) → ps.map (·.1) = ns.map V.int
  | [], [], _, _ => rfl
  | [], _ :: _, h, _ => by cases h
  | _ :: _, [], h, _ => by cases h
  | n :: ns, p :: ps, h, r => by
    have h1 : D.int n = p.2 := (List.cons.inj h).1
    have h2 := (List.cons.inj h).2
    have rp := r p List.mem_cons_self
    rw [← h1] at rp
    rw [List.map_cons, List.map_cons, rp.int_eq, ints_of h2 fun q hq => r q (List.mem_cons_of_mem _ hq)]
theorem at_sum : At1 X (biD .sum) (rSum X.K) := fun H v d d' r e => by
  cases d <;> first | (cases e; done) | skip
  rename_i l
  replace e : (sumL 0 l).map D.int = some d' := e
  obtain ⟨b, e1, rfl⟩ := Option.map_eq_some_iff.mp e
  obtain ⟨ns, rfl, rfl⟩ := sumL_ints l 0 b e1
  obtain ⟨a, ps, rfl, e2, s, rr⟩ := r.lst_eq
  refine ⟨rfl, _, fun F => .int _, fun Q q => ⟨a, ns, rfl, by rw [← ints_of e2 rr]; exact s, by simpa using q⟩⟩
theorem at_max2 : At2 X (biD .max2) (fun xs H Q => ∃ i j, xs = [.int i, .int j] ∧ Q (.int (if j > i then j else i)) H) := fun H v w d e d' r r' h => by
  cases d <;> first | (cases h; done) | skip
  cases e <;> first | (cases h; done) | skip
  rename_i i j
  cases h
  exact ⟨rfl, _, fun F => .int _, fun Q q => ⟨i, j, by rw [r.int_eq, r'.int_eq], q⟩⟩
theorem at_min2 : At2 X (biD .min2) (fun xs H Q => ∃ i j, xs = [.int i, .int j] ∧ Q (.int (if j < i then j else i)) H) := fun H v w d e d' r r' h => by
  cases d <;> first | (cases h; done) | skip
  cases e <;> first | (cases h; done) | skip
  rename_i i j
  cases h
  exact ⟨rfl, _, fun F => .int _, fun Q q => ⟨i, j, by rw [r.int_eq, r'.int_eq], q⟩⟩
end
end Pz
end
section
set_option Elab.async false
set_option linter.all false
/-! isinstance, slices, bit_length. -/
namespace Pz
open PySem PySem.Spec PyProof.Rows L2

def tnD : D → String
  | .non => "NoneType" | .bl _ => "bool" | .int _ => "int" | .str _ => "str" | .lst _ => "list" | .tup _ => "tuple" | .dic _ _ => "dict" | _ => ""
def tyN : Ty → String
  | .int => "int" | .bool => "bool" | .str => "str" | .list => "list" | .tuple => "tuple" | .dict => "dict" | .cls _ => ""
theorem kit_is (d : D) (t : Ty) (h : tyOk d = true) (ht : ∀ c, t ≠ .cls c) : kitB (tnD d) (tyN t) = some (isTy d t) := by
  cases d <;> first | (cases h; done) | skip
  all_goals cases t <;> first | exact absurd rfl (ht _) | skip
  all_goals (show kitB _ _ = some _; simp only [tnD, tyN, isTy]; decide +kernel)
theorem RD.ty {X : Tx} {H : Hp} {v : V} {d : D} (r : RD X H v d) (h : tyOk d = true) : TyX X.K H v (.type (tnD d)) := by
  cases d <;> first | (cases h; done) | skip
  · rw [r.non_eq]; exact .base .non
  · rw [r.bl_eq]; exact .base (.bl _)
  · rw [r.int_eq]; exact .base (.int _)
  · rw [r.str_eq]; exact .base (.str _)
  · obtain ⟨a, ps, rfl, _, s, _⟩ := r.lst_eq
    rcases s with (s | ⟨o, s⟩) | s
    · exact .base (.lst s)
    · exact .base (.frz s)
    · obtain ⟨o, its, n, e, c, z⟩ := s
      exact .kList e c
  · obtain ⟨a, ps, rfl, _, s, _⟩ := r.tup_eq
    rcases s with (s | ⟨o, s⟩) | s
    · exact .base (.tup s)
    · exact .fTuple s
    · obtain ⟨o, its, n, e, c, z⟩ := s
      exact .kTuple e c
  · obtain ⟨a, ps, rfl, _, s, _⟩ := r.dic_eq
    exact .base (.dK s)

section
variable {c : Cf} {W : WX} {Γ : List Nat} {Y : Cx} {e a b : Expr} {es : List Expr} {pos p0 p1 p2 : Pos} {k ka kb kc : Kd} {fa fb fc : Env → R (D × Env)} {x : Str}
/-- isinstance(a, T), T a built-in type -/
theorem sx_isi {t : Ty} (cx : Ctx c W Y) (hg : Gl Y "isinstance") (hm : Y.mg "isinstance" = none) (hg2 : Gl Y x) (hm2 : Y.mg x = none) (hv : bootBuiltins x = some (.type (tyN t))) (hn : x ≠ "__name__") (hd : (x == ("__debug__" : Str)) = false) (ht : ∀ c, t ≠ .cls c)
    (ha : SX c W Γ ka Y a fa) (hs : noStar a = true) :
    SX c W Γ (kA ka.pu) Y (.Call (.Name "isinstance" p0) [a, .Name x p1] [] pos) (fun ρ => (fa ρ).bind fun p => (optR (isTs p.1 [t])).bind fun b => .ok (.bl b, p.2)) :=
  PE.imp (pe_callB call_isi hg hm PyProof.Rows.boot_isinstance (pa_cons ha (pa_cons (pe_bltn (v := .ty (tyN t)) hg2 hm2 hv rfl hn hd) pa_nil (star_cons rfl)) (star_cons hs)) (by decide) (by decide) (star_cons hs) (star_any rfl)) fun σ H Q ⟨F, A, ρ, rp, h⟩ =>
    tX.one (g := fun d ρ1 => (optR (isTs d [t])).bind fun b => .ok (D.bl b, ρ1)) rp h fun v H1 F1 A1 d ρ1 B o h1 => by
      obtain ⟨b, e', h2⟩ := Run.opt h1
      replace h2 : Ends' c Γ (kA ka.pu) σ ρ H F A Q (.bl b, ρ1) := h2
      have hto : tyOk d = true ∧ b = isTy d t := by
        cases t <;> first | exact absurd rfl (ht _) | skip
        all_goals
          replace e' : (if tyOk d then (if isTy d _ then some true else some false) else none) = some b := e'
          split at e' <;> first | (cases e'; done) | skip
          rename_i h0
          refine ⟨h0, ?_⟩
          split at e' <;> cases e' <;> (rename_i h1'; first | exact h1'.symm | (rw [Bool.not_eq_true] at h1'; exact h1'.symm))
      obtain ⟨h3, rfl⟩ := hto
      refine ⟨v, .ty (tyN t), .type (tnD d), .type (tyN t), _, rfl, .ty _, ?_, kit_ty (kit_is d t h3 ht), h2 _ _ _ _ _ (o.mid.val (.bl _) (fun z => z) (.inr rfl))⟩
      rw [cx.K]
      exact (o.ot.read o.rep.sub).ty h3
/-- isinstance(a, (T, U)) -/
theorem isTs2 {d : D} {t u : Ty} {b : Bool} (ht : ∀ c, t ≠ .cls c) (hu : ∀ c, u ≠ .cls c) (e : isTs d [t, u] = some b) : tyOk d = true ∧ b = (isTy d t || isTy d u) := by
  have h0 : tyOk d = true := by
    cases h : tyOk d with
    | true => rfl
    | false =>
      cases t <;> first | exact absurd rfl (ht _) | skip
      all_goals (replace e : (if tyOk d then (if isTy d _ then some true else isTs d [u]) else none) = some b := e; rw [h] at e; cases e)
  refine ⟨h0, ?_⟩
  have e1 : isTs d [t, u] = if isTy d t then some true else if isTy d u then some true else some false := by
    have e2 : isTs d [u] = if isTy d u then some true else some false := by
      cases u <;> first | exact absurd rfl (hu _) | skip
      all_goals (show (if tyOk d then (if isTy d _ then some true else some false) else none) = _; rw [h0]; rfl)
    rw [← e2]
    cases t <;> first | exact absurd rfl (ht _) | skip
    all_goals (show (if tyOk d then (if isTy d _ then some true else isTs d [u]) else none) = _; rw [h0]; rfl)
  rw [e1] at e
  cases h1 : isTy d t <;> cases h2 : isTy d u <;> (rw [h1, h2] at e; cases e; rfl)
theorem sx_isi2 {t u : Ty} {y : Str} {p3 p4 : Pos} {tk} (cx : Ctx c W Y) (hg : Gl Y "isinstance") (hm : Y.mg "isinstance" = none)
    (hg2 : Gl Y x) (hm2 : Y.mg x = none) (hv : bootBuiltins x = some (.type (tyN t))) (hn : x ≠ "__name__") (hd : (x == ("__debug__" : Str)) = false) (ht : ∀ c, t ≠ .cls c)
    (hg3 : Gl Y y) (hm3 : Y.mg y = none) (hv3 : bootBuiltins y = some (.type (tyN u))) (hn3 : y ≠ "__name__") (hd3 : (y == ("__debug__" : Str)) = false) (hu : ∀ c, u ≠ .cls c)
    (ha : SX c W Γ ka Y a fa) (hs : noStar a = true) :
    SX c W Γ (kA ka.pu) Y (.Call (.Name "isinstance" p0) [a, .Tuple [.Name x p1, .Name y p3] tk p4] [] pos) (fun ρ => (fa ρ).bind fun p => (optR (isTs p.1 [t, u])).bind fun b => .ok (.bl b, p.2)) :=
  PE.imp (pe_callB call_isiT hg hm PyProof.Rows.boot_isinstance (pa_cons ha (pa_cons (pe_tup (pa_cons (pe_bltn (v := .ty (tyN t)) hg2 hm2 hv rfl hn hd) (pa_cons (pe_bltn (v := .ty (tyN u)) hg3 hm3 hv3 rfl hn3 hd3) pa_nil (star_cons rfl)) (star_cons rfl))) pa_nil (star_cons rfl)) (star_cons hs)) (by decide) (by decide) (star_cons hs) (star_any rfl)) fun σ H Q ⟨F, A, ρ, rp, h⟩ =>
    tX.one (g := fun d ρ1 => (optR (isTs d [t, u])).bind fun b => .ok (D.bl b, ρ1)) rp h fun v H1 F1 A1 d ρ1 B o h1 => by
      obtain ⟨b, e', h2⟩ := Run.opt h1
      replace h2 : Ends' c Γ (kA ka.pu) σ ρ H F A Q (.bl b, ρ1) := h2
      obtain ⟨h3, rfl⟩ := isTs2 ht hu e'
      refine ⟨by rw [sizeLine_eq]; exact Nat.le_of_ble_eq_true rfl, fun p hp => ?_⟩
      have m2 := o.mid.grow (H2 := upd H1 p (.tup [.ty (tyN t), .ty (tyN u)])) (F2 := F1) (q2 := fun _ => False) (upd_sub hp) (Sub.refl _) (o.rep.sub.trans (upd_sub hp)) (fun a h => .inl h) (fun _ z => z.elim)
      refine ⟨v, p, [.ty (tyN t), .ty (tyN u)], .type (tnD d), [.type (tyN t), .type (tyN u)], _, rfl, upd_same, .cons (.ty _) (.cons (.ty _) .nil), ?_, ?_, h2 _ _ _ _ _ (m2.val (.bl _) (fun z => z) (.inr rfl))⟩
      · rw [cx.K]
        exact ((o.ot.read o.rep.sub).mono (upd_sub hp)).ty h3
      · have k1 := fun K : PySem.W.Frag => kit_ty (K := K) (kit_is d t h3 ht)
        have k2 := fun K : PySem.W.Frag => kit_ty (K := K) (kit_is d u h3 hu)
        refine kitAny_cons (k1 _) (fun z => kitAny_cons (k2 _) (fun z2 => ?_) fun z2 => ?_) fun z => ?_
        · rw [z, z2]; exact kitAny_nil
        · rw [z2, Bool.or_true]
        · rw [z, Bool.true_or]
/-- i.bit_length() -/
theorem sx_bits (ha : SX c W Γ ka Y a fa) (hbase : attributeBase a "bit_length" Y.env (eval a Y.env) = eval a Y.env) (hline : (p1.endLine == pos.line) = true) :
    SX c W Γ (kA ka.pu) Y (.Call (.Attribute a "bit_length" p1) [] [] pos) (fun ρ => (fa ρ).bind fun p => (optR (meD .bitlen p.1 [])).bind fun d => .ok (d, p.2)) :=
  PE.imp (pe_bits ha hbase hline) fun σ H Q ⟨F, A, ρ, rp, h⟩ => tX.one (g := fun d ρ1 => (optR (meD .bitlen d [])).bind fun d => .ok (d, ρ1)) rp h fun v H1 F1 A1 d ρ1 B o h1 => by
    obtain ⟨d', e', h2⟩ := Run.opt h1
    cases d <;> first | (cases e'; done) | skip
    rename_i i
    cases e'
    replace h2 : Ends' c Γ (kA ka.pu) σ ρ H F A Q (.int (bitLen i), ρ1) := h2
    have e2 : (Builtin.Int.intBits i : Nat) = bitLen i := by
      unfold bitLen Builtin.Int.intBits
      by_cases hi : i = 0 <;> simp [hi]
    refine ⟨i, o.ot.int_eq, ?_⟩
    rw [e2]
    exact h2 _ _ _ _ _ (o.mid.val (.int _) (fun z => z) (.inr rfl))
/-- a slice's part -/
def tO (c : Cf) (W : WX) (Γ : List Nat) (pu : Bool) (f : Env → R (Option Int × Env)) : TO := fun σ H Q =>
  ∃ F A ρ, Rep c.X Γ ρ σ H F A ∧ Run c W σ H F (Own A) (f ρ) fun p => ∀ H' F' A', Mid c Γ σ ρ H F A p.2 H' F' A' (fun _ => False) pu → Q p.1 H'
abbrev SO (c : Cf) (W : WX) (Γ : List Nat) (pu : Bool) (Y : Cx) (e : Option Expr) (f : Env → R (Option Int × Env)) : Prop := PO Y e (tO c W Γ pu f)
theorem PO.imp {Y : Cx} {e : Option Expr} {t u : TO} (h : PO Y e t) (i : ∀ σ H Q, u σ H Q → t σ H Q) : PO Y e u := ⟨fun pins s σ H Q I z => h.run pins s σ H Q I (i σ H Q z)⟩
theorem so_none {f : Env → R (D × Env)} : SO c W Γ true Y none (partR true f) := PO.imp po_none fun σ H Q ⟨F, A, ρ, r, h⟩ => by
  replace h : ∀ H' F' A', Mid c Γ σ ρ H F A ρ H' F' A' (fun _ => False) true → Q none H' := h
  exact h H F A (Mid.refl r)
theorem so_some (h : SX c W Γ ka Y a fa) : SO c W Γ ka.pu Y (some a) (partR false fa) := PO.imp (po_some h) fun σ H Q ⟨F, A, ρ, r, h⟩ =>
  tX.one (g := fun d ρ1 => (optR (intO d)).bind fun i => .ok (some i, ρ1)) r h fun v H1 F1 A1 d ρ1 B o h1 => by
    obtain ⟨i, e, h2⟩ := Run.opt h1
    cases d <;> first | (cases e; done) | skip
    cases e
    replace h2 : ∀ H' F' A', Mid c Γ σ ρ H F A ρ1 H' F' A' (fun _ => False) ka.pu → Q (some i) H' := h2
    exact ⟨i, o.ot.int_eq, h2 _ _ _ (o.mid.weak (fun _ z => z.elim) fun z => z)⟩
theorem tO.one {pu : Bool} {f : Env → R (Option Int × Env)} {σ : Sl} {H F : Hp} {A : Nat → List Addr} {ρ : Env} {β : Type} {g : Option Int → Env → R β} {ok : β → Prop} {Rr : Option Int → Hp → Prop} (r : Rep c.X Γ ρ σ H F A)
    (h : Run c W σ H F (Own A) ((f ρ).bind fun p => g p.1 p.2) ok)
    (kk : ∀ b H1 F1 A1 ρ1, Mid c Γ σ ρ H F A ρ1 H1 F1 A1 (fun _ => False) pu → Run c W σ H1 F1 (Own A1) (g b ρ1) ok → Rr b H1) : tO c W Γ pu f σ H Rr :=
  ⟨F, A, ρ, r, h.bind.imp fun p _ hp H' F' A' m => kk p.1 H' F' A' p.2 m (hp.at m.nx0 fun _ z => z)⟩
/-- a[lo:hi] -/
def rSlAll (K : PySem.W.Frag) : V → Option Int → Option Int → Hp → VK → Prop := fun x lo hi H Q => rSlL K x lo hi H Q ∨ rSlA K x lo hi H Q ∨ rSlS x lo hi H Q
theorem sl_all {X : Cx} : SlR X (rSlAll X.K) := sl_list.or (sl_tupA.or sl_str)
theorem slcL_cut {α : Type} (l : List α) (lo hi : Option Int) : slcL l lo hi = (l.drop (HT.sIx l.length 0 lo)).take (HT.sIx l.length l.length hi - HT.sIx l.length 0 lo) := by
  unfold slcL
  cases lo <;> cases hi <;> rfl
/-- what a slice of a frozen (or borrowed) value comes to -/
theorem slc_end {σ : Sl} {ρ ρ1 : Env} {H F H1 F1 : Hp} {A A1 : Nat → List Addr} {q : Addr → Prop} {p : Bool} {v : V} {d d' : D} {lo hi : Option Int} {Q : VK} (m : Mid c Γ σ ρ H F A ρ1 H1 F1 A1 q p) (o : RD c.X F1 v d)
    (e : slcV lo hi d = some d') (h : Ends' c Γ ⟨true, p, 0⟩ σ ρ H F A Q (d', ρ1)) : rSlAll c.X.K v lo hi H1 Q := by
  cases d <;> first | (cases e; done) | skip
  · rename_i s
    replace e : (if s.length ≤ lim then some (D.str (slcL s lo hi)) else none) = some d' := e
    split at e <;> cases e
    rename_i hl
    refine .inr (.inr ⟨⟨s.toArray⟩, o.str_eq, by rw [sV_length, ← line_lim]; exact hl, ?_⟩)
    have := h (sV (slcL s lo hi)) H1 F1 A1 [] (m.val (.str _) (fun z => z) (.inl rfl))
    rw [slcL_cut] at this
    unfold cutS
    simpa [Str.length] using this
  · cases e
    obtain ⟨a1, ps, rfl, rfl, s1, r1⟩ := o.lst_eq
    refine .inl ⟨a1, _, rfl, m.rep.sub.sqL s1, fun p hp => ?_⟩
    have hr : ∀ x ∈ slcL ps lo hi, RD c.X F1 x.1 x.2 := fun x hx => r1 x (by rw [slcL_cut] at hx; exact List.mem_of_mem_drop (List.mem_of_mem_take hx))
    have o2 := m.newLF (k := ⟨true, _, 0⟩) hp hr (fun z => z) rfl
    have e1 : (slcL ps lo hi).map (·.1) = cutV (ps.map (·.1)) lo hi := by rw [slcL_cut]; unfold cutV; rw [List.map_take, List.map_drop, List.length_map]
    have e2 : (slcL ps lo hi).map (·.2) = slcL (ps.map (·.2)) lo hi := by rw [slcL_cut, slcL_cut, List.map_take, List.map_drop, List.length_map]
    rw [e1, e2] at o2
    exact h _ _ _ _ _ o2
  · cases e
    obtain ⟨a1, ps, rfl, e0, s1, r1⟩ := o.tup_eq
    subst e0
    refine .inr (.inl ⟨a1, _, rfl, m.rep.sub.sqT s1, fun hw => ?_, fun _ p hp => ?_⟩)
    · have e3 : slcL (ps.map (·.2)) lo hi = ps.map (·.2) := by
        rw [slcL_cut]
        rw [List.length_map] at hw ⊢
        rw [hw.1, hw.2, List.drop_zero, Nat.sub_zero]
        exact List.take_of_length_le (by rw [List.length_map]; exact Nat.le_refl _)
      rw [e3] at h
      exact h _ _ _ _ _ (m.val o (fun z => z) (.inl rfl))
    · have hr : ∀ x ∈ slcL ps lo hi, RD c.X F1 x.1 x.2 := fun x hx => r1 x (by rw [slcL_cut] at hx; exact List.mem_of_mem_drop (List.mem_of_mem_take hx))
      have o2 := m.newT (k := ⟨true, _, 0⟩) hp hr (fun z => z) rfl
      have e1 : (slcL ps lo hi).map (·.1) = cutV (ps.map (·.1)) lo hi := by rw [slcL_cut]; unfold cutV; rw [List.map_take, List.map_drop, List.length_map]
      have e2 : (slcL ps lo hi).map (·.2) = slcL (ps.map (·.2)) lo hi := by rw [slcL_cut, slcL_cut, List.map_take, List.map_drop, List.length_map]
      rw [e1, e2] at o2
      exact h _ _ _ _ _ o2
/-- a[lo:hi] -/
theorem sx_slc {l u : Option Expr} {pa pb pc : Bool} {fl fu : Env → R (Option Int × Env)} (cx : Ctx c W Y) (ha : SX c W Γ ⟨true, pa, 0⟩ Y a fa) (hb : SO c W Γ pb Y l fl) (hc : SO c W Γ pc Y u fu) :
    SX c W Γ ⟨true, pa && pb && pc, 0⟩ Y (.Subscript a (.Slice l u none p2) pos) (fun ρ => (fa ρ).bind fun p => (fl p.2).bind fun q => (fu q.2).bind fun r => (optR (slcV q.1 r.1 p.1)).bind fun d => .ok (d, r.2)) :=
  PE.imp (pe_slice sl_all ha hb hc) fun σ H Q ⟨F, A, ρ, rp, h⟩ => tX.one (g := fun d ρ1 => (fl ρ1).bind fun q => (fu q.2).bind fun r => (optR (slcV q.1 r.1 d)).bind fun d => .ok (d, r.2)) rp h fun v H1 F1 A1 d ρ1 B o h1 => by
    refine tO.one (g := fun q ρ2 => (fu ρ2).bind fun r => (optR (slcV q r.1 d)).bind fun d => .ok (d, r.2)) o.rep h1 fun lo H2 F2 A2 ρ2 m2 h2 => ?_
    refine tO.one (g := fun r ρ3 => (optR (slcV lo r d)).bind fun d => .ok (d, ρ3)) m2.rep h2 fun hi H3 F3 A3 ρ3 m3 h3 => ?_
    obtain ⟨d', e, h4⟩ := Run.opt h3
    replace h4 : Ends' c Γ ⟨true, pa && pb && pc, 0⟩ σ ρ H F A Q (d', ρ3) := h4
    rw [cx.K]
    exact slc_end ((o.mid.trans m2).trans m3) ((o.ot.2.mono m2.nx.fro).mono m3.nx.fro) e h4
end
end Pz
end
section
set_option Elab.async false
set_option linter.all false
/-! repr; tuple(x), list(x); str(i); sorted, min, max, all, any. -/
namespace Pz
open PySem PySem.Spec PyProof.Rows L2

/-! ### repr -/
mutual
theorem okD_nodict : ∀ (d : D) (n : Nat), okD n d = true → (toPy d).hasDict = false
  | .non, _, _ => rfl
  | .bl _, _, _ => rfl
  | .int _, _, _ => rfl
  | .str _, _, _ => rfl
  | .lst l, 0, h => by cases h
  | .lst l, n + 1, h => okL_nodict l n h
  | .tup l, 0, h => by cases h
  | .tup l, n + 1, h => okL_nodict l n h
  | .dic _ _, _, h => by cases h
  | .set _, _, h => by cases h
  | .fn _, _, h => by cases h
  | .exc _ _, _, h => by cases h
theorem okL_nodict : ∀ (l : List D) (n : Nat), okL n l = true → PyData.hasDictAll (toPyL l) = false
  | [], _, _ => rfl
  | d :: l, n, h => by
    replace h : (okD n d && okL n l) = true := h
    rw [Bool.and_eq_true] at h
    show ((toPy d).hasDict || PyData.hasDictAll (toPyL l)) = false
    rw [okD_nodict d n h.1, okL_nodict l n h.2]; rfl
end
mutual
theorem RD.reads {X : Tx} {Y : Cx} {pins : List (Addr × Obj)} {σ : Sl} {H : Hp} {s : Shared} (I : Inv Y pins σ H s) (hK : Y.K = X.K) (sm : SmOk Y.base) : ∀ (d : D) (v : V) (u : Value), noLst d = true → RD X H v d → RelV v u → ∃ as, Reads s.heap u (toPy d) as ∧ sysModules ∉ as
  | .non, _, _, _, h, r => by rw [h.non_eq] at r; cases r; exact ⟨_, Reads.none, by simp⟩
  | .bl b, _, _, _, h, r => by rw [h.bl_eq] at r; cases r; exact ⟨_, Reads.bool b, by simp⟩
  | .int i, _, _, _, h, r => by rw [h.int_eq] at r; obtain ⟨t, rfl⟩ := r; exact ⟨_, Reads.int i t, by simp⟩
  | .str i, _, _, _, h, r => by rw [h.str_eq] at r; obtain ⟨t, rfl⟩ := r; exact ⟨_, Reads.str _ t, by simp⟩
  | .lst l, _, _, n, h, r => by
    obtain ⟨a, ps, rfl, e, sq, rr⟩ := h.lst_eq
    cases r
    obtain ⟨its, rv, ⟨o, k, ho, hc, hdd, hd⟩, _⟩ := I.list (hK ▸ sq)
    obtain ⟨as, hr, hn⟩ := RD.readsL I hK sm l (ps.map (·.1)) its n (e ▸ rdl_of rr) rv
    have h0 : sysModules ≠ a := fun z => by
      subst z
      obtain ⟨o', es, m, e1, e2⟩ := sm
      have e3 := I.bk _ _ e1
      rw [ho] at e3
      cases e3
      rw [hd] at e2
      cases e2
    exact ⟨_, Reads.list ho hc hd hr, by simp [h0, hn]⟩
  | .tup l, _, _, n, h, r => by
    obtain ⟨a, ps, rfl, e, sq, rr⟩ := h.tup_eq
    cases r
    obtain ⟨its, rv, ⟨o, ho, hc, k, hd⟩, _⟩ := I.tuple (hK ▸ sq)
    obtain ⟨as, hr, hn⟩ := RD.readsL I hK sm l (ps.map (·.1)) its n (e ▸ rdl_of rr) rv
    exact ⟨_, Reads.tuple ho hc hd hr, hn⟩
  | .dic ks vs, _, _, n, h, r => by
    obtain ⟨a, ps, rfl, e1, e2, e3, rr⟩ := h.dic_eq
    cases r
    obtain ⟨_, hS, ws, kv, dd⟩ := dk_of I.hok e2
    obtain ⟨o, es, ep, ho, ⟨hc, _, _⟩, hd, _, pr, _⟩ := dd
    replace n : noLstL vs = true := n
    obtain ⟨as, hr, hn⟩ := RD.readsL I hK sm vs (ps.map (·.2.1)) (es.toList.map (·.val)) n (by
      rw [e1]
      have : ∀ ps : List (Key × V × D), (∀ p ∈ ps, RD X H p.2.1 p.2.2) → RDL X H (ps.map (·.2.1)) (ps.map (·.2.2)) := fun ps => by
        induction ps with
        | nil => exact fun _ => .nil
        | cons p ps ih => exact fun h => .cons (h p List.mem_cons_self) (ih fun q hq => h q (List.mem_cons_of_mem _ hq))
      exact this ps rr) (by
      have : ∀ (es : List DictEntry) (ps : List (Key × V × D)) (ws : List (Key × Value)), KV (ps.map fun p => (p.1, p.2.1)) ws → Pairs (mixKind Y.prog Y.w) es ws → Vals (ps.map (·.2.1)) (es.map (·.val)) := fun es => by
        induction es with
        | nil =>
          intro ps ws k p
          cases p
          cases ps with
          | nil => exact .nil
          | cons p ps => cases k
        | cons e es ih =>
          intro ps ws k p
          cases p with
          | cons p1 p2 p3 =>
            cases ps with
            | nil => cases k
            | cons q ps =>
              cases k with
              | cons k1 k2 => exact .cons (by show RelV q.2.1 e.val; rw [p2]; exact k1.2) (ih _ _ k2 p3)
      exact this _ _ _ kv pr)
    obtain ⟨bs, hb, hm⟩ : ∃ bs, ReadsAll s.heap (es.toList.map (·.key)) (toPyL ks) bs ∧ sysModules ∉ bs := by
      rw [e3]
      have : ∀ (es : List DictEntry) (ps : List (Key × V × D)) (ws : List (Key × Value)), KV (ps.map fun p => (p.1, p.2.1)) ws → Pairs (mixKind Y.prog Y.w) es ws → ∃ bs, ReadsAll s.heap (es.map (·.key)) (toPyL (ps.map fun p => kD p.1)) bs ∧ sysModules ∉ bs := fun es => by
        induction es with
        | nil =>
          intro ps ws k p
          cases p
          cases ps with
          | nil => exact ⟨_, .nil, by simp⟩
          | cons p ps => cases k
        | cons e es ih =>
          intro ps ws k p
          cases p with
          | cons p1 p2 p3 =>
            cases ps with
            | nil => cases k
            | cons q ps =>
              cases k with
              | cons k1 k2 =>
                obtain ⟨bs, h1, h2⟩ := ih _ _ k2 p3
                have : ∃ cs, Reads s.heap e.key (toPy (kD q.1)) cs ∧ cs = [] := by
                  have p1 : keyIs _ e.key = true := p1
                  rw [← k1.1] at p1
                  rcases keyIs_shape p1 with ⟨i, t, h3, h4⟩ | ⟨i, t, h3, h4⟩
                  · refine ⟨[], ?_, rfl⟩
                    replace h3 : q.1 = .inl i := h3
                    rw [h4, h3]; exact Reads.int i t
                  · refine ⟨[], ?_, rfl⟩
                    replace h3 : q.1 = .inr i := h3
                    rw [h4, h3]
                    show Reads _ _ (PyData.str _) _
                    have : (⟨i.cps.toList.toArray⟩ : Str) = i := by cases i; simp
                    rw [this]; exact Reads.str i t
                obtain ⟨cs, h5, rfl⟩ := this
                exact ⟨_, ReadsAll.cons h5 h1, by simpa using h2⟩
      exact this _ _ _ kv pr
    have el : (toPyL ks).length = (toPyL vs).length := by
      rw [toPyL_len, toPyL_len, e1, e3]; simp
    refine ⟨_, Reads.dict (kvs := (toPyL ks).zip (toPyL vs)) ho hc hd (by rw [List.map_fst_zip (by omega)]; exact hb) (by rw [List.map_snd_zip (by omega)]; exact hr), ?_⟩
    have : (a == sysModules) = false := hS
    have h0 : sysModules ≠ a := fun z => by rw [← z] at this; simp at this
    simp [h0, hn, hm]
  | .set _, _, _, n, _, _ => by cases n
  | .fn _, _, _, n, _, _ => by cases n
  | .exc _ _, _, _, n, _, _ => by cases n
theorem RD.readsL {X : Tx} {Y : Cx} {pins : List (Addr × Obj)} {σ : Sl} {H : Hp} {s : Shared} (I : Inv Y pins σ H s) (hK : Y.K = X.K) (sm : SmOk Y.base) : ∀ (l : List D) (vs : List V) (us : List Value), noLstL l = true → RDL X H vs l → Vals vs us → ∃ as, ReadsAll s.heap us (toPyL l) as ∧ sysModules ∉ as
  | [], _, _, _, h, r => by cases h; cases r; exact ⟨_, .nil, by simp⟩
  | d :: l, _, _, n, h, r => by
    cases h with
    | cons h1 h2 =>
      cases r with
      | cons r1 r2 =>
        replace n : (noLst d && noLstL l) = true := n
        rw [Bool.and_eq_true] at n
        obtain ⟨as, q1, q2⟩ := RD.reads I hK sm d _ _ n.1 h1 r1
        obtain ⟨bs, q3, q4⟩ := RD.readsL I hK sm l _ _ n.2 h2 r2
        exact ⟨_, ReadsAll.cons q1 q3, by simp [q2, q4]⟩
end

section
variable {X : Tx} {Y : Cx}
theorem sV_cps (x : Str) : sV x.cps.toList = .str x := by
  cases x; simp [sV]
/-- repr of data -/
def rRepr (X : Tx) : List V → Hp → VK → Prop := fun xs H Q => ∃ v d s, xs = [v] ∧ RD X H v d ∧ reprD d = some (.str s) ∧ Q (sV s) H
theorem cr_repr (hK : Y.K = X.K) (sm : SmOk Y.base) (hu : Y.A.units + 65 < cLine) (hg : Y.A.guards = some []) : CallR Y (.builtin "repr") (rRepr X) := by
  intro pins s σ H xs us Q I r ⟨v, d, t, hx, rd, e, q⟩
  subst hx
  obtain ⟨u, rfl, rx⟩ := vals1 r
  obtain ⟨h, e2⟩ := ite_some (show (if (okD 60 d || noLst d) && (toPy d).showable && decide ((toPy d).depth ≤ 60) && decide ((toPy d).shown.length ≤ lim) then some (D.str (toPy d).shown.cps.toList) else none) = some (D.str t) from e)
  cases e2
  simp only [Bool.and_eq_true, decide_eq_true_eq] at h
  obtain ⟨⟨⟨h1, h2⟩, h3⟩, h4⟩ := h
  rw [sV_cps] at q
  rw [line_lim] at h4
  have big : ∀ a : Addr, u = .ref a → wpAny (model Y.prog Y.w) Y.A (call (.builtin "repr") [u]) (EP Y pins σ Q) Y.xe s := by
    intro a ea
    subst ea
    have rr : ∃ as, Reads s.heap (.ref a) (toPy d) as ∧ ((toPy d).hasDict = true → sysModules ∉ as) := by
      cases hn : noLst d with
      | true =>
        obtain ⟨as, k1, k2⟩ := RD.reads I hK sm d v _ hn rd rx
        exact ⟨as, k1, fun _ => k2⟩
      | false =>
        rw [hn, Bool.or_false] at h1
        obtain ⟨as, k1⟩ := rd.readsP I hK d 60 v _ h1 rx
        refine ⟨as, k1, fun z => ?_⟩
        rw [okD_nodict d 60 h1] at z
        cases z
    obtain ⟨as, k1, k2⟩ := rr
    exact repr_of_reads' k1 h2 k2 hg (by omega) (fun _ _ e => e) (fun h' w tk hk => ⟨.str _, H, I.kept hk, ⟨_, rfl⟩, q⟩) h4
  cases d <;> first | (cases h1; done) | skip
  · rw [rd.non_eq] at rx; cases rx
    exact PySem.P.repr_of_none ⟨.str _, H, I.tok _, ⟨_, rfl⟩, q⟩
  · rename_i b
    rw [rd.bl_eq] at rx; cases rx
    exact PySem.P.repr_of_bool ⟨.str _, H, I.tok _, ⟨_, rfl⟩, q⟩
  · rw [rd.int_eq] at rx; obtain ⟨tk, rfl⟩ := rx
    exact PySem.P.repr_of_int (by simpa [toPy, PyData.showable] using h2) ⟨.str _, H, I.tok _, ⟨_, rfl⟩, q⟩
  · rw [rd.str_eq] at rx; obtain ⟨tk, rfl⟩ := rx
    exact PySem.P.repr_of_str ⟨.str _, H, I.tok _, ⟨_, rfl⟩, q⟩ h4
  · obtain ⟨a, ps, rfl, _⟩ := rd.lst_eq; cases rx; exact big a rfl
  · obtain ⟨a, ps, rfl, _⟩ := rd.tup_eq; cases rx; exact big a rfl
  · obtain ⟨a, ps, rfl, _⟩ := rd.dic_eq; cases rx; exact big a rfl
/-- list(text) -/
theorem call_list_sign (hc : Y.calm = true) : CallR Y (.type "list") (fun xs H Q => ∃ z, xs = [.str z] ∧ z.cps.size ≤ sizeLine ∧ ∀ l, H l = none → Q (.ref l) (upd H l (.lst (z.cps.toList.map fun ch => V.str ⟨#[ch]⟩)))) := by
  intro pins s σ H xs us Q I r ⟨z, hx, hz, q⟩
  subst hx
  obtain ⟨u, rfl, tk, rfl⟩ := vals1 r
  refine call_list_str (I.ok.hd hc) z tk (fun h' tk2 acc c' hk e hacc => ?_) hz
  have hl : acc.toList.length = z.cps.size := by rw [Array.length_toList]; exact hacc.1
  have e2 : (z.cps.toList.map fun ch => V.str ⟨#[ch]⟩) = (List.range acc.toList.length).map fun i => V.str ⟨#[z.cps.toList.getD i 0]⟩ := by
    apply List.ext_getElem?
    intro i
    rw [List.getElem?_map, List.getElem?_map, hl]
    by_cases hi : i < z.cps.size
    · rw [List.getElem?_range hi, List.getElem?_eq_getElem (by simpa using hi)]
      simp [List.getD_eq_getElem?_getD, hi]
    · rw [List.getElem?_eq_none (by simpa using hi), List.getElem?_eq_none (by simpa using hi)]; rfl
  refine ⟨.ref s.heap.objs.size, upd H s.heap.objs.size _, I.laid (t' := tk2) hk (Nat.le_refl _) (show ObjOk Y.prog Y.w _ h' _ (.lst (z.cps.toList.map fun ch => V.str ⟨#[ch]⟩)) from ⟨by rw [List.length_map, Array.length_toList]; exact hz, acc.toList, c', ?_, by simpa using e⟩), rfl, q _ (I.hok.fresh (Nat.le_refl _))⟩
  rw [e2]
  refine vals_of_get acc.toList _ fun j u hj => ?_
  obtain ⟨ch, t, hc1, rfl⟩ := hacc.2 j u (by rw [← hj, Array.getElem?_toList])
  refine ⟨t, ?_⟩
  have : z.cps.toList.getD j 0 = ch := by
    rw [List.getD_eq_getElem?_getD, Array.getElem?_toList, hc1]; rfl
  rw [this]
end
end Pz
end
section
set_option Elab.async false
set_option linter.all false
/-! sorted, min, max over data. -/
namespace Pz
open PySem PySem.Spec PyProof.Rows L2

/-! ### the order as a total one -/
/-- x is not behind y -/
def dle (x y : D) : Bool := PySem.W.dataLe false toPy x y
theorem dle_eq (x y : D) : dle x y = !PySem.W.dataLt (toPy y) (toPy x) := rfl
theorem dle_total : PySem.W.TotalLe dle := PySem.W.sortLe_total (PyProof.Rows.listOrd itemOrd) false fun b => PySem.W.keyToks (toPy b)
def insG (lt : D → D → Bool) (x : D) : List D → List D
  | [] => [x]
  | y :: l => if lt y x then y :: insG lt x l else x :: y :: l
theorem mem_insG {lt : D → D → Bool} {x z : D} : ∀ {l : List D}, z ∈ insG lt x l ↔ z = x ∨ z ∈ l
  | [] => by simp [insG]
  | y :: l => by
    unfold insG
    split
    · rw [List.mem_cons, mem_insG, List.mem_cons]
      constructor
      · rintro (h | h | h) <;> simp [h]
      · rintro (h | h | h) <;> simp [h]
    · simp
theorem mem_insT {x z : D} : ∀ {l : List D}, z ∈ insT x l ↔ z = x ∨ z ∈ l
  | [] => by simp [insT]
  | y :: l => by
    unfold insT
    split
    · rw [List.mem_cons, mem_insT, List.mem_cons]
      constructor
      · rintro (h | h | h) <;> simp [h]
      · rintro (h | h | h) <;> simp [h]
    · simp
theorem mem_isort {z : D} : ∀ {l : List D}, z ∈ isort l ↔ z ∈ l
  | [] => Iff.rfl
  | x :: l => by
    show z ∈ insT x (isort l) ↔ _
    rw [mem_insT, mem_isort, List.mem_cons]
theorem insT_perm (x : D) : ∀ l : List D, (insT x l).Perm (x :: l)
  | [] => .refl _
  | y :: l => by
    unfold insT
    split
    · exact ((insT_perm x l).cons y).trans (.swap x y l)
    · exact .refl _
theorem isort_perm : ∀ l : List D, (isort l).Perm l
  | [] => .refl _
  | x :: l => (insT_perm x _).trans ((isort_perm l).cons x)
abbrev Srt (l : List D) : Prop := l.Pairwise fun a b => dle a b = true
/-- on alike items the two orders are one -/
def Al (l : List D) : Prop := ∀ a ∈ l, ∀ b ∈ l, ltT a b = !dle b a
theorem insT_srt {x : D} : ∀ {l : List D}, Al (x :: l) → Srt l → Srt (insT x l)
  | [], _, _ => List.pairwise_singleton _ _
  | y :: l, al, h => by
    have ⟨h1, h2⟩ := List.pairwise_cons.mp h
    have e : ltT y x = !dle x y := al y (by simp) x (by simp)
    unfold insT
    by_cases z : ltT y x = true
    · rw [if_pos z]
      have z2 : dle x y = false := by rw [e] at z; simpa using z
      have z3 : dle y x = true := (dle_total.total y x).resolve_right (by rw [z2]; simp)
      refine List.pairwise_cons.mpr ⟨fun w hw => ?_, insT_srt (fun a ha b hb => al a ?_ b ?_) h2⟩
      · rcases mem_insT.mp hw with rfl | hw
        · exact z3
        · exact h1 w hw
      · rcases List.mem_cons.mp ha with rfl | ha <;> simp [*]
      · rcases List.mem_cons.mp hb with rfl | hb <;> simp [*]
    · rw [if_neg z]
      have z2 : dle x y = true := by
        rw [Bool.not_eq_true] at z
        rw [e] at z; simpa using z
      exact List.pairwise_cons.mpr ⟨fun w hw => (List.mem_cons.mp hw).elim (fun q => q ▸ z2) fun q => dle_total.trans _ _ _ z2 (h1 w q), h⟩
theorem isort_srt : ∀ {l : List D}, Al l → Srt (isort l)
  | [], _ => .nil
  | x :: l, al => insT_srt (fun a ha b hb => al a (by
      rcases List.mem_cons.mp ha with rfl | ha
      · simp
      · exact List.mem_cons_of_mem _ (mem_isort.mp ha)) b (by
      rcases List.mem_cons.mp hb with rfl | hb
      · simp
      · exact List.mem_cons_of_mem _ (mem_isort.mp hb))) (isort_srt fun a ha b hb => al a (List.mem_cons_of_mem _ ha) b (List.mem_cons_of_mem _ hb))
theorem insT_filter {x c : D} : ∀ {l : List D}, Al (x :: l) → (insT x l).filter (PySem.W.sameRank dle c) = (x :: l).filter (PySem.W.sameRank dle c)
  | [], _ => rfl
  | y :: l, al => by
    have e : ltT y x = !dle x y := al y (by simp) x (by simp)
    unfold insT
    by_cases z : ltT y x = true
    · rw [if_pos z]
      have z2 : dle x y = false := by rw [e] at z; simpa using z
      have ih := insT_filter (x := x) (c := c) (l := l) fun a ha b hb => al a (by rcases List.mem_cons.mp ha with rfl | ha <;> simp [*]) b (by rcases List.mem_cons.mp hb with rfl | hb <;> simp [*])
      rw [List.filter_cons, ih, List.filter_cons, List.filter_cons (x := x), List.filter_cons (x := y)]
      cases sx : PySem.W.sameRank dle c x with
      | false => simp
      | true =>
        cases sy : PySem.W.sameRank dle c y with
        | false => simp
        | true =>
          exfalso
          unfold PySem.W.sameRank at sx sy
          rw [Bool.and_eq_true] at sx sy
          have := dle_total.trans _ _ _ sx.2 sy.1
          rw [z2] at this; cases this
    · rw [if_neg z]
theorem isort_filter (c : D) : ∀ {l : List D}, Al l → (isort l).filter (PySem.W.sameRank dle c) = l.filter (PySem.W.sameRank dle c)
  | [], _ => rfl
  | x :: l, al => by
    show (insT x (isort l)).filter _ = _
    rw [insT_filter (fun a ha b hb => al a (by
      rcases List.mem_cons.mp ha with rfl | ha
      · simp
      · exact List.mem_cons_of_mem _ (mem_isort.mp ha)) b (by
      rcases List.mem_cons.mp hb with rfl | hb
      · simp
      · exact List.mem_cons_of_mem _ (mem_isort.mp hb))), List.filter_cons, List.filter_cons, isort_filter c fun a ha b hb => al a (List.mem_cons_of_mem _ ha) b (List.mem_cons_of_mem _ hb)]
theorem isort_merge {l : List D} (al : Al l) : isort l = l.mergeSort dle := PySem.W.sort_unique dle_total (isort_srt al) fun c => isort_filter c al
theorem allAlk_mem {l : List D} (h : allAlk l = true) : (∀ a ∈ l, ∀ b ∈ l, alk a b = true) ∧ ∀ a ∈ l, a ≠ .non := by
  unfold allAlk at h
  rw [List.all_eq_true] at h
  refine ⟨fun a ha b hb => ?_, fun a ha => ?_⟩
  · have := h a ha
    rw [Bool.and_eq_true] at this
    exact List.all_eq_true.mp this.2 b hb
  · have := h a ha
    rw [Bool.and_eq_true] at this
    exact nonD_ne this.1
theorem okL_mem {n : Nat} : ∀ {l : List D}, okL n l = true → ∀ a ∈ l, okD n a = true
  | x :: l, h, a, ha => by
    replace h : (okD n x && okL n l) = true := h
    rw [Bool.and_eq_true] at h
    rcases List.mem_cons.mp ha with rfl | ha
    · exact h.1
    · exact okL_mem h.2 a ha
theorem al_of {l : List D} (h : allAlk l = true) (o : okL 60 l = true) : Al l := fun a ha b hb => by
  obtain ⟨h1, h2⟩ := allAlk_mem h
  rw [dle_eq, Bool.not_not, dataLt_toPy a b 60 60 (okL_mem o a ha) (okL_mem o b hb) (h1 a ha b hb) (h2 a ha)]
section
variable {X : Tx} {Y : Cx} {pins : List (Addr × Obj)} {σ : Sl} {H : Hp} {s : Shared}
/-- the items read one by one -/
theorem each_reads (I : Inv Y pins σ H s) (hK : Y.K = X.K) : ∀ {ps : List (V × D)} {us : List Value}, (∀ p ∈ ps, RD X H p.1 p.2) → okL 60 (ps.map (·.2)) = true → Vals (ps.map (·.1)) us →
    PySem.W.EachIs (fun (u : Value) (p : V × D) => RelV p.1 u) us ps ∧ PySem.W.EachIs (fun (u : Value) (p : V × D) => ∃ as, Reads s.heap u (toPy p.2) as) us ps
  | [], us, _, _, r => by cases r; exact ⟨.nil, .nil⟩
  | p :: ps, us, h, o, r => by
    cases r with
    | cons r1 r2 =>
      replace o : (okD 60 p.2 && okL 60 (ps.map (·.2))) = true := o
      rw [Bool.and_eq_true] at o
      obtain ⟨e1, e2⟩ := each_reads I hK (fun q hq => h q (List.mem_cons_of_mem _ hq)) o.2 r2
      exact ⟨.cons r1 e1, .cons ((h p List.mem_cons_self).readsP I hK p.2 60 _ _ o.1 r1) e2⟩
theorem each_vals : ∀ {ps : List (V × D)} {us : List Value}, PySem.W.EachIs (fun (u : Value) (p : V × D) => RelV p.1 u) us ps → Vals (ps.map (·.1)) us
  | _, _, .nil => .nil
  | _, _, .cons r t => .cons r (each_vals t)
theorem srtOk_sortable {l : List D} (h : srtOk l = true) (n : ∀ a ∈ l, a ≠ .non) (o : okL 60 l = true) : PySem.W.Sortable (l.map toPy) := by
  unfold srtOk at h
  rw [Bool.or_eq_true] at h
  rcases h with h | h
  · refine .inl fun d hd => ?_
    obtain ⟨a, ha, rfl⟩ := List.mem_map.mp hd
    have := List.all_eq_true.mp h a ha
    match a, this with
    | .tup (x :: l), _ => exact ⟨_, _, rfl⟩
  · refine .inr fun d hd => ?_
    obtain ⟨a, ha, rfl⟩ := List.mem_map.mp hd
    have h1 := List.all_eq_true.mp h a ha
    have h2 := n a ha
    have h3 := okL_mem o a ha
    cases a <;> first | exact absurd rfl h2 | (cases h1; done) | (cases h3; done) | exact ⟨(by intro z; cases z), by intro xs z; cases z⟩
/-- sorted(list) -/
def rSort (X : Tx) : List V → Hp → VK → Prop := fun xs H Q => ∃ (a : Addr) (ps : List (V × D)) (l : List D), xs = [.ref a] ∧ SqL X.K H a (ps.map (·.1)) ∧ (∀ p ∈ ps, RD X H p.1 p.2) ∧ sortO (ps.map (·.2)) = some l ∧
  ∀ p (qs : List (V × D)), H p = none → qs.map (·.2) = l → (∀ q ∈ qs, q ∈ ps) → Q (.ref p) (upd H p (.lst (qs.map (·.1))))
theorem cr_sort (hK : Y.K = X.K) (hu : Y.A.units + 65 < cLine) : CallR Y (.builtin "sorted") (rSort X) := by
  intro pins s σ H xs us Q I r ⟨a, ps, l, hx, sq, rr, e, q⟩
  subst hx
  rw [Vals.ref1 r]
  obtain ⟨h, e2⟩ := ite_some (show (if allAlk (ps.map (·.2)) && okL 60 (ps.map (·.2)) && srtOk (ps.map (·.2)) && decide ((ps.map (·.2)).length ≤ lim) then some (isort (ps.map (·.2))) else none) = some l from e)
  subst e2
  simp only [Bool.and_eq_true, decide_eq_true_eq] at h
  obtain ⟨⟨⟨h1, h2⟩, h3⟩, h4⟩ := h
  obtain ⟨its, rv, hl, hz⟩ := I.list (hK ▸ sq)
  obtain ⟨e1, e2⟩ := each_reads I hK rr h2 rv
  obtain ⟨m1, m2⟩ := allAlk_mem h1
  have em : (ps.map (·.2)).map toPy = ps.map fun p => toPy p.2 := by rw [List.map_map]; rfl
  refine PySem.W.sorted_data (R := fun (u : Value) (p : V × D) => RelV p.1 u) (enc := fun p : V × D => toPy p.2) hl.isList e1 e2 ?_ ?_ (by rw [List.length_map, line_lim] at h4; exact h4) (fun p hp => ?_) fun out ho h' => ?_
  · intro d hd d' hd'
    obtain ⟨p, hp, rfl⟩ := List.mem_map.mp hd
    obtain ⟨p', hp', rfl⟩ := List.mem_map.mp hd'
    exact alike_toPy _ _ (m1 _ (List.mem_map.mpr ⟨p, hp, rfl⟩) _ (List.mem_map.mpr ⟨p', hp', rfl⟩))
  · rw [← em]; exact srtOk_sortable h3 m2 h2
  · have := (okD_plain p.2 60 (okL_mem h2 _ (List.mem_map.mpr ⟨p, hp, rfl⟩))).2
    omega
  · obtain ⟨ep, he'⟩ := PyProof.Rows.sortedAll_at s.heap its out.toArray
    have vq := each_vals h'
    have hs : (ps.mergeSort (PySem.W.dataLe false fun p : V × D => toPy p.2)).map (·.2) = isort (ps.map (·.2)) := by
      rw [isort_merge (al_of h1 h2)]
      exact PySem.W.sort_maps (fun p : V × D => p.2) fun a _ b _ => rfl
    have hlen : ((ps.mergeSort (PySem.W.dataLe false fun p : V × D => toPy p.2)).map (·.1)).length ≤ sizeLine := by
      rw [List.length_map, List.length_mergeSort]
      rw [List.length_map] at hz; exact hz
    exact ⟨.ref _, upd H (s.heap.objs.size + 1) (.lst _), I.laid (t' := s.toks) (fun _ _ => PyProof.Rows.sortedAll_old) (Nat.le_succ _) ⟨hlen, out, ep, vq, he'⟩, rfl, q _ _ (I.hok.fresh (Nat.le_succ _)) hs fun z hz => (List.mem_mergeSort.mp hz)⟩

/-! ### min, max -/
mutual
theorem toPy_inj : ∀ (d e : D) (n m : Nat), okD n d = true → okD m e = true → toPy d = toPy e → d = e
  | .non, e, _, _, _, k, h => by cases e <;> first | rfl | (cases k; done) | (cases h; done)
  | .bl _, e, _, _, _, k, h => by cases e <;> first | (cases h; rfl) | (cases k; done) | (cases h; done)
  | .int _, e, _, _, _, k, h => by cases e <;> first | (cases h; rfl) | (cases k; done) | (cases h; done)
  | .str s, e, _, _, _, k, h => by
    cases e <;> first | (cases k; done) | (cases h; done) | skip
    replace h : PyData.str ⟨s.toArray⟩ = PyData.str _ := h
    injection h with h
    injection h with h
    have := congrArg Array.toList h
    simp at this
    rw [this]
  | .lst l, e, 0, _, h, _, _ => by cases h
  | .lst l, e, n + 1, m, k1, k2, h => by
    cases e <;> first | (cases k2; done) | (cases h; done) | skip
    cases m <;> first | (cases k2; done) | skip
    replace h : PyData.list _ = PyData.list _ := h
    injection h with h
    rw [toPyL_inj l _ _ _ k1 k2 h]
  | .tup l, e, 0, _, h, _, _ => by cases h
  | .tup l, e, n + 1, m, k1, k2, h => by
    cases e <;> first | (cases k2; done) | (cases h; done) | skip
    cases m <;> first | (cases k2; done) | skip
    replace h : PyData.tuple _ = PyData.tuple _ := h
    injection h with h
    rw [toPyL_inj l _ _ _ k1 k2 h]
  | .dic _ _, _, _, _, h, _, _ => by cases h
  | .set _, _, _, _, h, _, _ => by cases h
  | .fn _, _, _, _, h, _, _ => by cases h
  | .exc _ _, _, _, _, h, _, _ => by cases h
theorem toPyL_inj : ∀ (l k : List D) (n m : Nat), okL n l = true → okL m k = true → toPyL l = toPyL k → l = k
  | [], [], _, _, _, _, _ => rfl
  | [], _ :: _, _, _, _, _, h => by cases h
  | _ :: _, [], _, _, _, _, h => by cases h
  | d :: l, e :: k, n, m, h1, h2, h => by
    replace h1 : (okD n d && okL n l) = true := h1
    replace h2 : (okD m e && okL m k) = true := h2
    rw [Bool.and_eq_true] at h1 h2
    obtain ⟨a, b⟩ := List.cons.inj h
    rw [toPy_inj d e n m h1.1 h2.1 a, toPyL_inj l k n m h1.2 h2.2 b]
end
theorem fold_mem {f : D → D → D} (hf : ∀ a b, f a b = a ∨ f a b = b) : ∀ (l : List D) (x : D), l.foldl f x = x ∨ l.foldl f x ∈ l
  | [], x => .inl rfl
  | y :: l, x => by
    rcases fold_mem hf l (f x y) with h | h
    · rcases hf x y with e | e
      · exact .inl (by rw [List.foldl_cons, h, e])
      · exact .inr (by rw [List.foldl_cons, h, e]; exact List.mem_cons_self)
    · exact .inr (List.mem_cons_of_mem _ h)
theorem minO_inv {l : List D} {d : D} (h : minO l = some d) : ∃ x l', l = x :: l' ∧ allAlk l = true ∧ okL 60 l = true ∧ d ∈ l ∧ toPy d = PySem.W.minD (toPy x) (l'.map toPy) := by
  cases l with
  | nil => cases h
  | cons x l =>
    obtain ⟨h1, rfl⟩ := ite_some (show (if allAlk (x :: l) && okL 60 (x :: l) then some (l.foldl (fun a y => if ltT y a then y else a) x) else none) = some d from h)
    rw [Bool.and_eq_true] at h1
    refine ⟨x, l, rfl, h1.1, h1.2, ?_, ?_⟩
    · rcases fold_mem (f := fun a y => if ltT y a then y else a) (fun a b => by by_cases z : ltT b a = true <;> simp [z]) l x with e | e
      · rw [e]; exact List.mem_cons_self
      · exact List.mem_cons_of_mem _ e
    · have key : ∀ (l : List D) (x : D), (∀ a ∈ x :: l, ∀ b ∈ x :: l, ltT a b = PySem.W.dataLt (toPy a) (toPy b)) → toPy (l.foldl (fun a y => if ltT y a then y else a) x) = PySem.W.minD (toPy x) (l.map toPy) := by
        intro l
        induction l with
        | nil => exact fun _ _ => rfl
        | cons y l ih =>
          intro x hh
          unfold PySem.W.minD
          rw [List.foldl_cons, List.map_cons, List.foldl_cons, hh y (by simp) x (by simp)]
          have := ih (if PySem.W.dataLt (toPy y) (toPy x) then y else x) fun a ha b hb => hh a (by
            by_cases z : PySem.W.dataLt (toPy y) (toPy x) = true <;> simp only [z, if_true, if_false, Bool.false_eq_true] at ha <;> rcases List.mem_cons.mp ha with rfl | ha <;> simp [*]) b (by
            by_cases z : PySem.W.dataLt (toPy y) (toPy x) = true <;> simp only [z, if_true, if_false, Bool.false_eq_true] at hb <;> rcases List.mem_cons.mp hb with rfl | hb <;> simp [*])
          rw [this]
          unfold PySem.W.minD
          congr 1
          split <;> rfl
      obtain ⟨m1, m2⟩ := allAlk_mem h1.1
      exact key l x fun a ha b hb => (dataLt_toPy a b 60 60 (okL_mem h1.2 a ha) (okL_mem h1.2 b hb) (m1 a ha b hb) (m2 a ha)).symm
/-- min(list or tuple) -/
def rMin (X : Tx) : List V → Hp → VK → Prop := fun xs H Q => ∃ (a : Addr) (ps : List (V × D)) (d : D), xs = [.ref a] ∧ (SqL X.K H a (ps.map (·.1)) ∨ SqT X.K H a (ps.map (·.1))) ∧ (∀ p ∈ ps, RD X H p.1 p.2) ∧ minO (ps.map (·.2)) = some d ∧
  ∀ v, (v, d) ∈ ps → Q v H
theorem cr_min (hK : Y.K = X.K) (hu : Y.A.units + 65 < cLine) (hc : Y.calm = true) : CallR Y (.builtin "min") (rMin X) := by
  intro pins s σ H xs us Q I r ⟨a, ps, d, hx, sq, rr, e, q⟩
  subst hx
  rw [Vals.ref1 r]
  obtain ⟨x, l', e1, h1, h2, h3, h4⟩ := minO_inv e
  obtain ⟨m1, m2⟩ := allAlk_mem h1
  have eL : (x :: l').map toPy = toPy x :: l'.map toPy := rfl
  have fin : ∀ (its : List Value), Vals (ps.map (·.1)) its → (∃ as, ReadsAll s.heap its (toPyL (x :: l')) as) ∧ PySem.W.AlikeAll (toPy x :: l'.map toPy) ∧ Y.A.units + 1 + PyData.depthAll (toPy x :: l'.map toPy) < cLine ∧
      ∀ (i : Nat) (v : Value) (h' : Heap) (tk : Nat) (bs : List Addr), its.toArray[i]? = some v → Reads h' v (PySem.W.minD (toPy x) (l'.map toPy)) bs → (∀ b o, s.heap.get? b = some o → h'.get? b = some o) → EP Y pins σ Q v { s with heap := h', toks := tk } := by
    intro its rv
    refine ⟨RD.readsLP I hK (x :: l') 60 _ its (e1 ▸ h2) (e1 ▸ rdl_of rr) rv, ⟨?_, ?_⟩, ?_, ?_⟩
    · rw [← eL, ← e1]
      intro d hd d' hd'
      obtain ⟨p, hp, rfl⟩ := List.mem_map.mp hd
      obtain ⟨p', hp', rfl⟩ := List.mem_map.mp hd'
      exact alike_toPy _ _ (m1 _ hp _ hp')
    · rw [← eL, ← e1]
      intro d hd
      obtain ⟨p, hp, rfl⟩ := List.mem_map.mp hd
      exact toPy_ne_none (m2 _ hp) (m1 _ hp _ hp)
    · have := (okL_plain (x :: l') 60 (e1 ▸ h2)).2
      rw [toPyL_map, eL] at this
      omega
    · intro i v h' tk bs hv rd' hk
      rw [← h4] at rd'
      have hv' : its[i]? = some v := by simpa using hv
      rcases vals_get rv i with ⟨_, z⟩ | ⟨w, u, z1, z2, z3⟩
      · rw [hv'] at z; cases z
      · rw [hv'] at z2
        cases z2
        rw [List.getElem?_map] at z1
        obtain ⟨p, hp, rfl⟩ := Option.map_eq_some_iff.mp z1
        have mp := List.mem_of_getElem? hp
        have op : okD 60 p.2 = true := okL_mem h2 _ (List.mem_map.mpr ⟨p, mp, rfl⟩)
        have I' : Inv Y pins σ H { s with heap := h', toks := tk } := I.kept hk
        obtain ⟨as, k⟩ := (rr p mp).readsP I' hK p.2 60 p.1 v op z3
        have ed := SeqAt.plain_unique _ _ _ _ _ (okD_plain p.2 60 op).1 k rd'
        have : p.2 = d := toPy_inj _ _ 60 60 op (okL_mem h2 d h3) ed
        exact ⟨p.1, H, I', z3, q p.1 (by rw [← this]; exact mp)⟩
  rcases sq with sq | sq
  · obtain ⟨its, rv, hl, hz⟩ := I.list (hK ▸ sq)
    obtain ⟨⟨as, k1⟩, k2, k3, k4⟩ := fin its rv
    rw [toPyL_map, eL] at k1
    exact PySem.W.min_list_data (I.ok.hd hc) hl.isList (by simpa using k1) k2 k3 k4
  · obtain ⟨its, rv, hl, hz⟩ := I.tuple (hK ▸ sq)
    obtain ⟨⟨as, k1⟩, k2, k3, k4⟩ := fin its rv
    rw [toPyL_map, eL] at k1
    exact PySem.W.min_tuple_data (I.ok.hd hc) (show s.heap.IsTuple a its.toArray from hl) (by simpa using k1) k2 k3 k4
end
end Pz
end
section
set_option Elab.async false
set_option linter.all false
/-! The rules as judgements: constants of the text, calls with keywords, built-in functions, walks of pairs. -/
namespace Pz
open PySem PySem.Spec PyProof.Rows L2

section
variable {c : Cf} {W : WX} {Γ : List Nat} {Y : Cx} {e a b : Expr} {es : List Expr} {pos p0 p1 p2 : Pos} {k ka kb kc : Kd} {fa fb fc : Env → R (D × Env)} {fs gs : Env → R (List D × Env)} {x : Str} {ls : List (Option Nat)} {pu pa pb : Bool} {kws : List Keyword} {np : Nat} {sg : Sg} {call : List D → R (D × List D)} {kwl : KwL}
/-- a constant of the text -/
theorem sx_glob {d : D} (hg : Gl Y x) (hd : (x == ("__debug__" : Str)) = false) (h : (∃ i tk, d = .int i ∧ Y.mg x = some (.int i tk)) ∨ ∃ z tk, d = .str z ∧ Y.mg x = some (.str ⟨z.toArray⟩ tk)) :
    SX c W Γ (kA true) Y (.Name x pos) (fun ρ => .ok (d, ρ)) := by
  rcases h with ⟨i, tk, rfl, hm⟩ | ⟨z, tk, rfl, hm⟩
  · exact sx_const (v := .int i) (pe_glob hg hm ⟨_, rfl⟩ hd) (fun _ => .int i) rfl
  · exact sx_const (v := sV z) (pe_glob hg hm ⟨_, rfl⟩ hd) (fun _ => .str z) rfl

/-! ### keywords -/
abbrev SK (c : Cf) (W : WX) (Γ : List Nat) (ls : List (Option Nat)) (pu : Bool) (Y : Cx) (kws : List Keyword) (f : Env → R (List D × Env)) : Prop := PK Y kws (tF c W Γ ls pu f)
theorem PK.imp {Y : Cx} {kws : List Keyword} {t u : TA} (h : PK Y kws t) (i : ∀ σ H Q, u σ H Q → t σ H Q) : PK Y kws u := ⟨fun p pins s σ H Q I z => h.run p pins s σ H Q I (i σ H Q z)⟩
theorem sk_nil : SK c W Γ [] true Y [] (fun ρ => .ok ([], ρ)) := PK.imp pk_nil fun σ H Q ⟨F, A, ρ, r, h⟩ => by
  replace h : ∀ vs H' F' A', Mid c Γ σ ρ H F A ρ H' F' A' (fun _ => False) true → ArgP c.X σ F' [] vs [] → Q vs H' := h
  exact h _ _ _ _ (Mid.refl r) .nil
theorem sk_cons {nm : Option Str} (he : SX c W Γ ⟨true, pa, 0⟩ Y e fa) (hr : SK c W Γ ls pb Y kws fs) :
    SK c W Γ (none :: ls) (pa && pb) Y (⟨nm, e, p0⟩ :: kws) (fun ρ => (fa ρ).bind fun p => (fs p.2).bind fun q => .ok (p.1 :: q.1, q.2)) :=
  PK.imp (pk_cons he hr) fun σ H Q ⟨F, A, ρ, r, h⟩ => tX.one (g := fun d ρ1 => (fs ρ1).bind fun q => .ok (d :: q.1, q.2)) r h fun x H1 F1 A1 d ρ1 B o h1 => by
    refine ⟨F1, A1, ρ1, o.rep, h1.bind.imp fun p _ hp vs H2 F2 A2 m ap => ?_⟩
    replace hp : ∀ vs H' F' A', Mid c Γ σ ρ H F A p.2 H' F' A' (fun _ => False) (pa && pb) → ArgP c.X σ F' (none :: ls) vs (d :: p.1) → Q vs H' := hp
    exact hp _ _ _ _ ((o.mid.trans m).weak (fun _ z => z.elim) fun z => z) (.frz (o.ot.2.mono m.nx.fro) ap)
theorem permD_L {as : List D} : ∀ {pm : List Nat} {ds : List D}, permD as pm = some ds → permL pm as = ds ∧ ds.length = pm.length
  | [], ds, h => by cases h; exact ⟨rfl, rfl⟩
  | i :: pm, ds, h => by
    obtain ⟨d, e1, h⟩ := Option.bind_eq_some_iff.mp h
    obtain ⟨ds', e2, rfl⟩ := Option.map_eq_some_iff.mp h
    obtain ⟨e3, e4⟩ := permD_L e2
    refine ⟨?_, congrArg (· + 1) e4⟩
    unfold permL at e3 ⊢
    rw [List.filterMap_cons, e1, e3]
theorem permL_map {α β : Type} (f : α → β) (l : List α) : ∀ pm : List Nat, permL pm (l.map f) = (permL pm l).map f
  | [] => rfl
  | i :: pm => by
    unfold permL
    rw [List.filterMap_cons, List.filterMap_cons, List.getElem?_map]
    cases l[i]? with
    | none => exact permL_map f l pm
    | some x => exact congrArg (f x :: ·) (permL_map f l pm)
theorem permL_mem {α : Type} {l : List α} {x : α} : ∀ {pm : List Nat}, x ∈ permL pm l → x ∈ l
  | i :: pm, h => by
    unfold permL at h
    rw [List.filterMap_cons] at h
    cases e : l[i]? with
    | none => rw [e] at h; exact permL_mem (pm := pm) h
    | some y =>
      rw [e] at h
      rcases List.mem_cons.mp h with rfl | h
      · exact List.mem_of_getElem? e
      · exact permL_mem (pm := pm) h
/-- a call of a def with frozen values -/
theorem call_frz (hlen : ∀ {σ : Sl} {ρ1 : Env} {H H1 F F1 : Hp} {A A1 : Nat → List Addr} {ρ : Env} {Q : VK} {qs : List (V × D)} {ds : List D}, True) : True := trivial
theorem frz_call {σ : Sl} {ρ ρ1 : Env} {H F H1 F1 : Hp} {A A1 : Nat → List Addr} {Q : VK} {qs : List (V × D)} (hp : ∀ i, sg.pl.getD i 0 = 0) (m : Mid c Γ σ ρ H F A ρ1 H1 F1 A1 (fun _ => False) pu) (e3 : ∀ q ∈ qs, RD c.X F1 q.1 q.2) (hl : qs.length = np)
    (h1 : Run c W σ H1 F1 (Own A1) ((call (qs.map (·.2))).bind fun r => .ok (r.1, ρ1)) (Ends' c Γ ⟨true, pu, sg.rl⟩ σ ρ H F A Q)) : spF c np [] sg call (qs.map (·.1)) H1 Q (WE W σ) := by
  refine ⟨F1, fun _ => [], qs.map (·.2), by simpa using hl, by simpa using hl, ⟨m.rep.sub, by simp, fun i d hi => ?_, fun _ _ => rfl, fun _ => List.nodup_nil, fun _ _ _ _ z => absurd z (by simp)⟩, ?_⟩
  · have hi := map_some_get hi
    rw [List.getElem?_map] at hi
    obtain ⟨q, hq, rfl⟩ := Option.map_eq_some_iff.mp hi
    exact ⟨q.1, map_some_of (by rw [List.getElem?_map, hq]; rfl), by rw [hp]; exact ⟨rfl, e3 q (List.mem_of_getElem? hq)⟩⟩
  · refine Run.imp (Run.shift h1.bind (Q := Own fun _ => []) fun a ⟨_, z⟩ => absurd z (by simp)) fun q _ hq v H' F' A' B hlen r' n' o nd dj => ?_
    replace hq : Ends' c Γ ⟨true, pu, sg.rl⟩ σ ρ H F A Q (q.1, ρ1) := hq
    have nf : Nxt H1 F1 (fun _ => False) H' F' (fun a => a ∈ B) := n'.weak (fun a ⟨_, z⟩ => absurd z (by simp)) fun a z => .inl (.inr z)
    have n1 : Nxt H1 F1 (Own A1) H' F' (fun a => Own A1 a ∨ a ∈ B) := (nf.beside (B := Own A1)).weak (fun a z => z.elim False.elim fun z => z) fun a z => .inl (z.elim .inr .inl)
    have hB : ∀ a ∈ B, H1 a = none := fun a ha => (nf.own a ha).elim False.elim fun z => z
    refine hq v H' F' A1 B ⟨⟨m.rep.step nf r'.sub fun _ _ z => z, (m.nx0.trans n1).weak (fun _ z => z) fun a z => .inl (z.imp (fun z => z) fun z => z.2), fun z => ?_⟩, o, fun _ => nd, fun _ a ha z => (m.rep.dom z).1 (hB a ha)⟩
    obtain ⟨z1, z2, z3⟩ := m.pu z
    exact ⟨z1, z2, (z3.trans (nf.weak (fun _ z => z) fun a z => z.elim))⟩
theorem evA_app (C : Cfg) : ∀ (as bs : T) (ρ : Env), True := fun _ _ _ => trivial
/-- f(a, .., k = b, ..) -/
theorem sx_callk {n : Nat} {ks : List Str} {pm : List Nat} {ls' : List (Option Nat)} (cx : Ctx c W Y) (fn : FnAt c Y kwl x np [] sg call) (hk : (x, n, ks, pm) ∈ kwl) (hg : Gl Y x) (hd : (x == ("__debug__" : Str)) = false) (ha : SA c W Γ ls pa Y (e :: es) fs) (hw : SK c W Γ ls' pb Y kws gs)
    (hn : allN ls = true) (hn' : allN ls' = true) (l1 : ls.length = n) (l2 : ls'.length = ks.length) (lp : pm.length = np) (hks : kwNames kws ks = true) (hp : ∀ i, sg.pl.getD i 0 = 0)
    (hs : starEach (e :: es) Y.env = (false, eval e Y.env) :: starEach es Y.env) (hs2 : (backTo pos (starEach es Y.env)).any (·.1) = false) :
    SX c W Γ ⟨true, pa && pb, sg.rl⟩ Y (.Call (.Name x p0) (e :: es) kws pos) (fun ρ => ((fs ρ).bind fun p => (gs p.2).bind fun q => .ok (p.1 ++ q.1, q.2)).bind fun p => (optR (permD p.1 pm)).bind fun as' => (optR (lend p.2 as' [])).bind fun ds => (call ds).bind fun r => .ok (r.1, setIO p.2 [] r.2)) := by
  obtain ⟨k, ad, fd, ps, F0, hr, hm, hkp, _, hb⟩ := fn.ex
  refine PE.imp (pe_callKG (E := WE W) F0 hr hg hm hkp (hb n ks pm hk) (fun σ => passAt cx.tk σ) ha hw hd hks hs hs2) fun σ H Q ⟨F, A, ρ, r, h⟩ => ?_
  dsimp only at h
  rw [bind_assoc] at h
  refine tF.one (g := fun ds ρ1 => ((gs ρ1).bind fun q => .ok (ds ++ q.1, q.2)).bind fun p => (optR (permD p.1 pm)).bind fun as' => (optR (lend p.2 as' [])).bind fun ds => (call ds).bind fun r => .ok (r.1, setIO p.2 [] r.2)) r h fun vs H1 F1 A1 ds ρ1 m ap h1 => ?_
  rw [bind_assoc] at h1
  refine tF.one (g := fun es ρ2 => (optR (permD (ds ++ es) pm)).bind fun as' => (optR (lend ρ2 as' [])).bind fun ds => (call ds).bind fun r => .ok (r.1, setIO ρ2 [] r.2)) m.rep h1 fun zs H2 F2 A2 es2 ρ2 m2 ap2 h2 => ?_
  obtain ⟨as', e1, h3⟩ := Run.opt h2
  replace h3 : Run c W σ H2 F2 (Own A2) ((call as').bind fun r => .ok (r.1, ρ2)) (Ends' c Γ ⟨true, pa && pb, sg.rl⟩ σ ρ H F A Q) := h3
  obtain ⟨qs, q1, q2, q3⟩ := ap.ps hn
  obtain ⟨rs, r1, r2, r3⟩ := ap2.ps hn'
  obtain ⟨e2, e3⟩ := permD_L e1
  refine ⟨ap.len.1.trans l1, ap2.len.1.trans l2, ?_⟩
  have ev : permL pm (vs ++ zs) = (permL pm (qs ++ rs)).map (·.1) := by rw [q1, r1, ← List.map_append, permL_map]
  have ed : as' = (permL pm (qs ++ rs)).map (·.2) := by rw [← e2, q2, r2, ← List.map_append, permL_map]
  rw [ev]
  refine frz_call (np := np) hp ((m.trans m2).weak (q1 := fun _ => False) (fun _ z => z.elim) fun z => z) (fun q hq => ?_) (by rw [← lp, ← e3, ed, List.length_map]) (by rw [← ed]; exact h3)
  rcases List.mem_append.mp (permL_mem hq) with z | z
  · exact (q3 q z).mono m2.nx.fro
  · exact r3 q z
theorem sx_callk0 {ks : List Str} {pm : List Nat} (cx : Ctx c W Y) (fn : FnAt c Y kwl x np [] sg call) (hk : (x, 0, ks, pm) ∈ kwl) (hg : Gl Y x) (hd : (x == ("__debug__" : Str)) = false) (hw : SK c W Γ ls pb Y kws gs)
    (hn : allN ls = true) (l2 : ls.length = ks.length) (lp : pm.length = np) (hks : kwNames kws ks = true) (hp : ∀ i, sg.pl.getD i 0 = 0) :
    SX c W Γ ⟨true, pb, sg.rl⟩ Y (.Call (.Name x p0) [] kws pos) (fun ρ => (gs ρ).bind fun p => (optR (permD p.1 pm)).bind fun as' => (optR (lend p.2 as' [])).bind fun ds => (call ds).bind fun r => .ok (r.1, setIO p.2 [] r.2)) := by
  obtain ⟨k, ad, fd, ps, F0, hr, hm, hkp, _, hb⟩ := fn.ex
  refine PE.imp (pe_callKG0 (E := WE W) F0 hr hg hm hkp (hb 0 ks pm hk) (fun σ => passAt cx.tk σ) hw hd hks) fun σ H Q ⟨F, A, ρ, r, h⟩ => ?_
  refine tF.one (g := fun es ρ2 => (optR (permD es pm)).bind fun as' => (optR (lend ρ2 as' [])).bind fun ds => (call ds).bind fun r => .ok (r.1, setIO ρ2 [] r.2)) r h fun zs H2 F2 A2 es2 ρ2 m2 ap2 h2 => ?_
  obtain ⟨as', e1, h3⟩ := Run.opt h2
  replace h3 : Run c W σ H2 F2 (Own A2) ((call as').bind fun r => .ok (r.1, ρ2)) (Ends' c Γ ⟨true, pb, sg.rl⟩ σ ρ H F A Q) := h3
  obtain ⟨rs, r1, r2, r3⟩ := ap2.ps hn
  obtain ⟨e2, e3⟩ := permD_L e1
  refine ⟨ap2.len.1.trans l2, ?_⟩
  have ev : permL pm zs = (permL pm rs).map (·.1) := by rw [r1, permL_map]
  have ed : as' = (permL pm rs).map (·.2) := by rw [← e2, r2, permL_map]
  rw [ev]
  exact frz_call (np := np) hp m2 (fun q hq => r3 q (permL_mem hq)) (by rw [← lp, ← e3, ed, List.length_map]) (by rw [← ed]; exact h3)

/-! ### built-in functions of one value -/
/-- .. whose result is a frozen value, or a new tuple -/
def FzR (X : Tx) (g : List D → Option D) (r : List V → Hp → VK → Prop) : Prop := ∀ (H F : Hp) (v : V) (d d' : D), Sub F H → RD X F v d → g [d] = some d' → ∀ Q : VK, (∀ v', RD X F v' d' → Q v' H) →
  (∀ p (ps : List (V × D)), H p = none → d' = .tup (ps.map (·.2)) → (∀ x ∈ ps, RD X F x.1 x.2) → Q (.ref p) (upd H p (.tup (ps.map (·.1))))) → r [v] H Q
theorem sx_fz {g : List D → Option D} {r : List V → Hp → VK → Prop} (pe : ∀ t, PA Y [a] t → PE Y e (tCB r t)) (hr : FzR c.X g r) (ha : SX c W Γ ⟨true, pa, 0⟩ Y a fa) (hs : noStar a = true) :
    SX c W Γ ⟨true, pa, 0⟩ Y e (fun ρ => (fa ρ).bind fun p => (optR (g [p.1])).bind fun d => .ok (d, p.2)) :=
  PE.imp (pe _ (pa_cons ha pa_nil (star_cons hs))) fun σ H Q ⟨F, A, ρ, rp, h⟩ => tX.one (g := fun d ρ1 => (optR (g [d])).bind fun d => .ok (d, ρ1)) rp h fun v H1 F1 A1 d ρ1 B o h1 => by
    obtain ⟨d', e', h2⟩ := Run.opt h1
    replace h2 : Ends' c Γ ⟨true, pa, 0⟩ σ ρ H F A Q (d', ρ1) := h2
    refine hr H1 F1 v d d' o.rep.sub o.ot.2 e' _ (fun v' r' => h2 v' H1 F1 A1 [] (o.mid.val r' (fun z => z) (.inl rfl))) fun p ps hp e2 hr => ?_
    subst e2
    exact h2 _ _ _ _ _ (o.mid.newT hp hr (fun z => z) rfl)
/-- .. whose result is a new list -/
def NlR (X : Tx) (g : List D → Option D) (r : List V → Hp → VK → Prop) : Prop := ∀ (H F : Hp) (v : V) (d d' : D), Sub F H → RD X F v d → g [d] = some d' → ∀ Q : VK,
  (∀ p (ps : List (V × D)), H p = none → d' = .lst (ps.map (·.2)) → (∀ x ∈ ps, RD X F x.1 x.2) → Q (.ref p) (upd H p (.lst (ps.map (·.1))))) → r [v] H Q
theorem sx_nl {g : List D → Option D} {r : List V → Hp → VK → Prop} (pe : ∀ t, PA Y [a] t → PE Y e (tCB r t)) (hr : NlR c.X g r) (ha : SX c W Γ ⟨true, pa, 0⟩ Y a fa) (hs : noStar a = true) :
    SX c W Γ ⟨true, pa, 1⟩ Y e (fun ρ => (fa ρ).bind fun p => (optR (g [p.1])).bind fun d => .ok (d, p.2)) :=
  PE.imp (pe _ (pa_cons ha pa_nil (star_cons hs))) fun σ H Q ⟨F, A, ρ, rp, h⟩ => tX.one (g := fun d ρ1 => (optR (g [d])).bind fun d => .ok (d, ρ1)) rp h fun v H1 F1 A1 d ρ1 B o h1 => by
    obtain ⟨d', e', h2⟩ := Run.opt h1
    replace h2 : Ends' c Γ ⟨true, pa, 1⟩ σ ρ H F A Q (d', ρ1) := h2
    refine hr H1 F1 v d d' o.rep.sub o.ot.2 e' _ fun p ps hp e2 hr => ?_
    subst e2
    exact h2 _ _ _ _ _ (o.mid.newL hp hr (fun z => z) rfl)
end
section
variable {X : Tx}
theorem at_repr : At1 X (biD .repr) (rRepr X) := fun H v d d' r e => by
  replace e : reprD d = some d' := e
  have : ∃ s, d' = .str s := by
    obtain ⟨_, h⟩ := ite_some (show (if (okD 60 d || noLst d) && (toPy d).showable && decide ((toPy d).depth ≤ 60) && decide ((toPy d).shown.length ≤ lim) then some (D.str (toPy d).shown.cps.toList) else none) = some d' from e)
    exact ⟨_, h.symm⟩
  obtain ⟨s, rfl⟩ := this
  exact ⟨rfl, _, fun F => .str s, fun Q q => ⟨v, d, s, rfl, r, e, q⟩⟩
theorem fz_tuple : FzR X (biD .tuple) (fun xs H Q => ∃ p ys, xs = [.ref p] ∧ ((SqL X.K H p ys ∧ ∀ l, H l = none → Q (.ref l) (upd H l (.tup ys))) ∨ (SqT X.K H p ys ∧ Q (.ref p) H))) := fun H F v d d' s r e Q q1 q2 => by
  cases d <;> first | (cases e; done) | skip
  · cases e
    obtain ⟨a, ps, rfl, rfl, sq, rr⟩ := r.lst_eq
    exact ⟨a, _, rfl, .inl ⟨s.sqL sq, fun l hl => q2 l ps hl rfl rr⟩⟩
  · cases e
    obtain ⟨a, ps, rfl, e2, sq, rr⟩ := r.tup_eq
    exact ⟨a, _, rfl, .inr ⟨s.sqT sq, q1 _ r⟩⟩
theorem nl_list : NlR X (biD .list) (fun xs H Q => (∃ p ys, xs = [.ref p] ∧ (SqL X.K H p ys ∨ SqT X.K H p ys) ∧ ∀ l, H l = none → Q (.ref l) (upd H l (.lst ys))) ∨ ∃ z, xs = [.str z] ∧ z.cps.size ≤ sizeLine ∧ ∀ l, H l = none → Q (.ref l) (upd H l (.lst (z.cps.toList.map fun ch => V.str ⟨#[ch]⟩)))) := fun H F v d d' s r e Q q => by
  cases d <;> first | (cases e; done) | skip
  · rename_i z
    replace e : (if z.length ≤ lim then some (D.lst (z.map fun ch => .str [ch])) else none) = some d' := e
    split at e <;> cases e
    rename_i hz
    refine .inr ⟨⟨z.toArray⟩, by rw [r.str_eq], by rw [← line_lim]; simpa using hz, fun l hl => ?_⟩
    have := q l (z.map fun ch => (sV [ch], D.str [ch])) hl (by rw [List.map_map]; rfl) fun x hx => by
      obtain ⟨ch, _, rfl⟩ := List.mem_map.mp hx
      exact .str _
    rw [List.map_map] at this
    exact this
  · cases e
    obtain ⟨a, ps, rfl, rfl, sq, rr⟩ := r.lst_eq
    exact .inl ⟨a, _, rfl, .inl (s.sqL sq), fun l hl => q l ps hl rfl rr⟩
  · cases e
    obtain ⟨a, ps, rfl, rfl, sq, rr⟩ := r.tup_eq
    exact .inl ⟨a, _, rfl, .inr (s.sqT sq), fun l hl => q l ps hl rfl rr⟩
theorem nl_sort : NlR X (biD .sorted) (rSort X) := fun H F v d d' s r e Q q => by
  cases d <;> first | (cases e; done) | skip
  rename_i l
  · replace e : (sortO l).map D.lst = some d' := e
    obtain ⟨l', e1, rfl⟩ := Option.map_eq_some_iff.mp e
    obtain ⟨a, ps, rfl, rfl, sq, rr⟩ := r.lst_eq
    refine ⟨a, ps, l', rfl, s.sqL sq, fun p hp => (rr p hp).mono s, e1, fun p qs hp e2 hq => ?_⟩
    exact q p qs hp (by rw [e2]) fun x hx => rr x (hq x hx)
  · cases r
theorem fz_min : FzR X (biD .min) (rMin X) := fun H F v d d' s r e Q q1 q2 => by
  cases d <;> first | (cases e; done) | skip
  · rename_i l
    replace e : minO l = some d' := e
    obtain ⟨a, ps, rfl, rfl, sq, rr⟩ := r.lst_eq
    exact ⟨a, ps, d', rfl, .inl (s.sqL sq), fun p hp => (rr p hp).mono s, e, fun v hv => q1 v (rr _ hv)⟩
  · rename_i l
    replace e : minO l = some d' := e
    obtain ⟨a, ps, rfl, rfl, sq, rr⟩ := r.tup_eq
    exact ⟨a, ps, d', rfl, .inr (s.sqT sq), fun p hp => (rr p hp).mono s, e, fun v hv => q1 v (rr _ hv)⟩
theorem allB_inv : ∀ {l : List D} {b : Bool}, allB l = some b → ∃ bs : List Bool, l = bs.map D.bl ∧ b = bs.all id
  | [], b, h => by cases h; exact ⟨[], rfl, rfl⟩
  | .bl c :: l, b, h => by
    obtain ⟨b', e, rfl⟩ := Option.map_eq_some_iff.mp (show (allB l).map (c && ·) = some b from h)
    obtain ⟨bs, rfl, rfl⟩ := allB_inv e
    exact ⟨c :: bs, rfl, rfl⟩
  | .non :: _, _, h | .int _ :: _, _, h | .str _ :: _, _, h | .lst _ :: _, _, h | .tup _ :: _, _, h | .dic _ _ :: _, _, h | .set _ :: _, _, h | .fn _ :: _, _, h | .exc _ _ :: _, _, h => by cases h
theorem anyB_inv : ∀ {l : List D} {b : Bool}, anyB l = some b → ∃ bs : List Bool, l = bs.map D.bl ∧ b = bs.any id
  | [], b, h => by cases h; exact ⟨[], rfl, rfl⟩
  | .bl c :: l, b, h => by
    obtain ⟨b', e, rfl⟩ := Option.map_eq_some_iff.mp (show (anyB l).map (c || ·) = some b from h)
    obtain ⟨bs, rfl, rfl⟩ := anyB_inv e
    exact ⟨c :: bs, rfl, rfl⟩
  | .non :: _, _, h | .int _ :: _, _, h | .str _ :: _, _, h | .lst _ :: _, _, h | .tup _ :: _, _, h | .dic _ _ :: _, _, h | .set _ :: _, _, h | .fn _ :: _, _, h | .exc _ _ :: _, _, h => by cases h
theorem bls_of {H : Hp} : ∀ {bs : List Bool} {ps : List (V × D)}, bs.map D.bl = ps.map (·.2) → (∀ p ∈ ps, RD X H p.1 p.2) → ps.map (·.1) = bs.map V.bl
  | [], [], _, _ => rfl
  | [], _ :: _, h, _ => by cases h
  | _ :: _, [], h, _ => by cases h
  | n :: ns, p :: ps, h, r => by
    have h1 : D.bl n = p.2 := (List.cons.inj h).1
    have h2 := (List.cons.inj h).2
    have rp := r p List.mem_cons_self
    rw [← h1] at rp
    rw [List.map_cons, List.map_cons, rp.bl_eq, bls_of h2 fun q hq => r q (List.mem_cons_of_mem _ hq)]
theorem at_all : At1 X (biD .all) (rAll X.K) := fun H v d d' r e => by
  cases d <;> first | (cases e; done) | skip
  rename_i l
  obtain ⟨b, e1, rfl⟩ := Option.map_eq_some_iff.mp (show (allB l).map D.bl = some d' from e)
  obtain ⟨bs, rfl, rfl⟩ := allB_inv e1
  obtain ⟨a, ps, rfl, e2, s, rr⟩ := r.lst_eq
  exact ⟨rfl, _, fun F => .bl _, fun Q q => ⟨a, bs, rfl, by rw [← bls_of e2 rr]; exact s, q⟩⟩
theorem at_any : At1 X (biD .any) (rAny X.K) := fun H v d d' r e => by
  cases d <;> first | (cases e; done) | skip
  rename_i l
  obtain ⟨b, e1, rfl⟩ := Option.map_eq_some_iff.mp (show (anyB l).map D.bl = some d' from e)
  obtain ⟨bs, rfl, rfl⟩ := anyB_inv e1
  obtain ⟨a, ps, rfl, e2, s, rr⟩ := r.lst_eq
  exact ⟨rfl, _, fun F => .bl _, fun Q q => ⟨a, bs, rfl, by rw [← bls_of e2 rr]; exact s, q⟩⟩
/-- str(i): as long as the figures' limit lets -/
theorem call_str_any {X : Cx} (hc : X.calm = true) (hn : X.base.NoDigits) : CallR X (.type "str") (fun xs H Q => ∃ i : Int, xs = [.int i] ∧ i.natAbs < 10 ^ 4300 ∧ Q (.str (toString i)) H) := by
  intro pins s σ H xs us Q I r h
  obtain ⟨i, rfl, hz, q⟩ := h
  obtain ⟨u, rfl, t, rfl⟩ := vals1 r
  exact PyProof.Rows.str_of_int_or (I.ok.hd hc) (hn.keeps I.bk) (fun _ => ⟨.str _, H, I.tok _, ⟨_, rfl⟩, q⟩) fun hge => absurd hz (Nat.not_lt.mpr hge)
theorem figs_ok {i : Int} (h : i.natAbs.log2 < 12900) : i.natAbs < 10 ^ 4300 := Nat.lt_of_lt_of_le (PyProof.Rows.lt_of_log2 h) PyProof.Rows.pow_lo
theorem at_str : At1 X (biD .str) (fun xs H Q => (∃ i : Int, xs = [.int i] ∧ i.natAbs < 10 ^ 4300 ∧ Q (.str (toString i)) H) ∨ ∃ a, xs = [.str a] ∧ Q (.str a) H) := fun H v d d' r e => by
  cases d <;> first | (cases e; done) | skip
  · rename_i i
    replace e : (if i.natAbs.log2 < 12900 then some (D.str (digits i)) else none) = some d' := e
    split at e <;> cases e
    rename_i h
    refine ⟨rfl, _, fun F => .str _, fun Q q => .inl ⟨i, by rw [r.int_eq], figs_ok h, ?_⟩⟩
    have : sV (digits i) = .str (toString i) := by
      show V.str _ = V.str _
      congr 1
      rw [Str.ofString_eq_toList]; rfl
    rw [← this]; exact q
  · rename_i z
    cases e
    exact ⟨rfl, _, fun F => .str z, fun Q q => .inr ⟨_, by rw [r.str_eq], q⟩⟩
end
end Pz
end
section
set_option Elab.async false
set_option linter.all false
/-! Walks of pairs; reversed lists; join; dict displays. -/
namespace Pz
open PySem PySem.Spec PyProof.Rows L2

theorem enumD_get : ∀ (l : List D) (n i : Nat), (enumD n l)[i]? = (l[i]?).map fun d => D.tup [.int ((n + i : Nat) : Int), d]
  | [], _, _ => by simp [enumD]
  | x :: l, n, 0 => rfl
  | x :: l, n, i + 1 => by
    show (enumD (n + 1) l)[i]? = _
    rw [enumD_get l (n + 1) i, List.getElem?_cons_succ, show n + 1 + i = n + (i + 1) by omega]
theorem enumD_len : ∀ (l : List D) (n : Nat), (enumD n l).length = l.length
  | [], _ => rfl
  | x :: l, n => congrArg (· + 1) (enumD_len l (n + 1))
theorem zipD_get : ∀ (l m : List D) (i : Nat), (zipD l m)[i]? = (l[i]?).bind fun d => (m[i]?).map fun e => D.tup [d, e]
  | [], _, _ => by simp [zipD]
  | x :: l, [], i => by
    show ([] : List D)[i]? = _
    cases (x :: l)[i]? <;> simp
  | x :: l, y :: m, 0 => rfl
  | x :: l, y :: m, i + 1 => by
    show (zipD l m)[i]? = _
    rw [zipD_get l m i]; rfl
theorem zipD_len : ∀ (l m : List D), (zipD l m).length = min l.length m.length
  | [], m => by simp [zipD]
  | x :: l, [] => by simp [zipD]
  | x :: l, y :: m => by
    show (zipD l m).length + 1 = _
    rw [zipD_len l m, List.length_cons, List.length_cons]; omega
section
variable {X : Tx}
/-- a walk that yields new pairs -/
theorem iters_pair {F1 : Hp} {J : It} {l : List D} {xs ys : Nat → Option V} {G : Hp → Prop} (hg : ∀ H', Sub F1 H' → G H') (w : Walk J l.length G (YPair xs ys))
    (h : ∀ i d x y, l[i]? = some d → xs i = some x → ys i = some y → ∃ d1 d2, d = .tup [d1, d2] ∧ RD X F1 x d1 ∧ RD X F1 y d2) : Iters X F1 J l :=
  ⟨G, hg, w.mono (fun _ h => h) fun i H v H' _ _ ⟨T, x, y, e1, e2, e3, e4, e5⟩ F' s1 s2 d hd => by
    obtain ⟨d1, d2, rfl, r1, r2⟩ := h i d x y hd e4 e5
    subst e1 e3
    have hf : F' T = none := by
      cases e : F' T with
      | none => rfl
      | some o => rw [s2 T o e] at e2; cases e2
    refine ⟨upd F' T (.tup [x, y]), upd_sub e2, upd_sub hf, fun b u eb => ?_, fun b eb => ?_, ?_⟩
    · by_cases hb : b = T
      · subst hb; rw [upd_same] at eb ⊢; exact eb
      · rw [upd_ne hb] at eb ⊢; exact s2 b u eb
    · by_cases hb : b = T
      · subst hb; exact .inr e2
      · rw [upd_ne hb] at eb; exact .inl eb
    · refine .tup [(x, d1), (y, d2)] rfl (.of upd_same) fun p hp => ?_
      rcases List.mem_cons.mp hp with rfl | hp
      · exact (r1.mono s1).mono (upd_sub hf)
      · rw [List.mem_singleton.mp hp]; exact (r2.mono s1).mono (upd_sub hf)⟩
end
theorem zipT_walk {K : PySem.W.Frag} {a b : Addr} {xs ys : List V} {n : Nat} (hn : n = min xs.length ys.length) : Walk (RZ.ItzT K a b) n (fun H => SqT K H a xs ∧ SqT K H b ys) (YPair (fun i => xs[i]?) (fun i => ys[i]?)) where
  goes := fun i H hi ⟨q1, q2⟩ => ⟨xs, ys, xs[i]'(by omega), ys[i]'(by omega), q1, q2, List.getElem?_eq_getElem _, List.getElem?_eq_getElem _⟩
  stops := fun H ⟨q1, q2⟩ => ⟨xs, ys, q1, q2, by omega⟩
  yields := fun i H v H' _ ⟨q1, q2⟩ ⟨T, x, y, e1, e2, e3, e4, e5⟩ => ⟨T, x, y, e1, e2, e3, e4 xs q1, e5 ys q2⟩
section
variable {c : Cf} {W : WX} {Γ : List Nat} {Y : Cx} {e a b : Expr} {es elts : List Expr} {pos p0 p1 p2 tpos : Pos} {fa fb : Env → R (D × Env)} {fs : Env → R (List D × Env)} {pu pa pb : Bool} {kk : Nat}
theorem si_enum (cx : Ctx c W Y) (hg : Gl Y "enumerate") (hm : Y.mg "enumerate" = none) (ha : SX c W Γ ⟨true, pa, 0⟩ Y a fa) (hs : noStar a = true) :
    SI c W Γ pa Y (.Tuple elts kk tpos) (.Call (.Name "enumerate" p0) [a] [] pos) (fun ρ => (fa ρ).bind fun p => (optR (lstO p.1)).bind fun l => .ok (enumD 0 l, p.2)) :=
  PI.imp (pi_enum hg hm (pa_cons ha pa_nil (star_cons hs)) (star_cons hs)) fun σ H Rr ⟨F, A, ρ, r, h⟩ => tX.one (g := fun d ρ1 => (optR (lstO d)).bind fun l => .ok (enumD 0 l, ρ1)) r h fun x H1 F1 A1 d ρ1 B o h1 => by
    obtain ⟨l, e, h1⟩ := Run.opt h1
    replace h1 : ∀ J H2 F2 A2, Mid c Γ σ ρ H F A ρ1 H2 F2 A2 (fun _ => False) pa → Iters c.X F2 J (enumD 0 l) → Rr J H2 := h1
    have m := o.mid.weak (q1 := fun _ => False) (fun _ z => z.elim) fun z => z
    cases d <;> first | (cases e; done) | skip
    cases e
    obtain ⟨ad, ps, rfl, rfl, sq, rr⟩ := o.ot.2.lst_eq
    rw [cx.K]
    refine ⟨ad, _, rfl, o.rep.sub.sqL sq, h1 _ _ _ _ m (iters_pair (G := fun H => SqL c.X.K H ad (ps.map (·.1))) (fun H' s => s.sqL sq) (by rw [enumD_len, List.length_map]; have := walk_enum (K := c.X.K) (a := ad) (xs := ps.map (·.1)); rw [List.length_map] at this; exact this) ?_)⟩
    intro i d x y hd hx hy
    rw [enumD_get, List.getElem?_map] at hd
    rw [List.getElem?_map] at hy
    cases hx
    obtain ⟨p, hp, rfl⟩ := Option.map_eq_some_iff.mp hy
    rw [hp] at hd
    cases hd
    exact ⟨_, _, rfl, by rw [Nat.zero_add]; exact .int _, rr p (List.mem_of_getElem? hp)⟩
theorem si_zip (cx : Ctx c W Y) (hg : Gl Y "zip") (hm : Y.mg "zip" = none) (ha : SX c W Γ ⟨true, pa, 0⟩ Y a fa) (hb : SX c W Γ ⟨true, pb, 0⟩ Y b fb) (hs : noStar a = true) (hs2 : noStar b = true) :
    SI c W Γ (pa && pb) Y (.Tuple elts kk tpos) (.Call (.Name "zip" p0) [a, b] [] pos) (fun ρ => (fa ρ).bind fun p => (fb p.2).bind fun q => (optR (zipO p.1 q.1)).bind fun l => .ok (l, q.2)) :=
  PI.imp (RZ.pi_zipA hg hm (pa_cons ha (pa_cons hb pa_nil (star_cons hs2)) (star_cons hs)) (star_cons hs) (by rw [star_cons hs2]; rfl)) fun σ H Rr ⟨F, A, ρ, r, h⟩ =>
    tX.two (g := fun d1 d2 ρ2 => (optR (zipO d1 d2)).bind fun l => .ok (l, ρ2)) (.inl rfl) r h fun x y H2 F2 A2 d1 d2 ρ2 B1 B2 t h2 => by
    obtain ⟨l, e, h1⟩ := Run.opt h2
    replace h1 : ∀ J H3 F3 A3, Mid c Γ σ ρ H F A ρ2 H3 F3 A3 (fun _ => False) (pa && pb) → Iters c.X F3 J l → Rr J H3 := h1
    have m := t.mid.weak (q1 := fun _ => False) (fun _ z => z.elim) fun z => z
    rw [cx.K]
    have key : ∀ (ps qs : List (V × D)), (∀ p ∈ ps, RD c.X F2 p.1 p.2) → (∀ p ∈ qs, RD c.X F2 p.1 p.2) → ∀ (i : Nat) (d : Pz.D) (x y : V), (zipD (ps.map (·.2)) (qs.map (·.2)))[i]? = some d → (ps.map (·.1))[i]? = some x → (qs.map (·.1))[i]? = some y → ∃ d1 d2, d = Pz.D.tup [d1, d2] ∧ RD c.X F2 x d1 ∧ RD c.X F2 y d2 := by
      intro ps qs h1 h2 i d x y hd hx hy
      rw [zipD_get, List.getElem?_map, List.getElem?_map] at hd
      rw [List.getElem?_map] at hx hy
      obtain ⟨p, hp, rfl⟩ := Option.map_eq_some_iff.mp hx
      obtain ⟨q, hq, rfl⟩ := Option.map_eq_some_iff.mp hy
      rw [hp, hq] at hd
      cases hd
      exact ⟨_, _, rfl, h1 p (List.mem_of_getElem? hp), h2 q (List.mem_of_getElem? hq)⟩
    cases d1 <;> first | (cases e; done) | skip
    · cases d2 <;> first | (cases e; done) | skip
      cases e
      obtain ⟨a1, ps, rfl, rfl, s1, r1⟩ := t.o1.2.lst_eq
      obtain ⟨a2, qs, rfl, rfl, s2, r2⟩ := t.o2.2.lst_eq
      refine ⟨a1, a2, ps.map (·.1), qs.map (·.1), rfl, .inl ⟨t.mid.rep.sub.sqL s1, t.mid.rep.sub.sqL s2, h1 _ _ _ _ m (iters_pair (G := fun H => SqL c.X.K H a1 (ps.map (·.1)) ∧ SqL c.X.K H a2 (qs.map (·.1))) (fun H' s => ⟨s.sqL s1, s.sqL s2⟩) (walk_zip (by rw [zipD_len]; simp)) (key ps qs r1 r2))⟩⟩
    · cases d2 <;> first | (cases e; done) | skip
      cases e
      obtain ⟨a1, ps, rfl, rfl, s1, r1⟩ := t.o1.2.tup_eq
      obtain ⟨a2, qs, rfl, rfl, s2, r2⟩ := t.o2.2.tup_eq
      refine ⟨a1, a2, ps.map (·.1), qs.map (·.1), rfl, .inr ⟨t.mid.rep.sub.sqT s1, t.mid.rep.sub.sqT s2, h1 _ _ _ _ m (iters_pair (G := fun H => SqT c.X.K H a1 (ps.map (·.1)) ∧ SqT c.X.K H a2 (qs.map (·.1))) (fun H' s => ⟨s.sqT s1, s.sqT s2⟩) (zipT_walk (by rw [zipD_len]; simp)) (key ps qs r1 r2))⟩⟩
/-- {} -/
theorem sx_dct0 : SX c W Γ ⟨true, true, 1⟩ Y (.Dict [] [] pos) (fun ρ => .ok (.dic [] [], ρ)) :=
  PE.imp pe_dnewK fun σ H Q ⟨F, A, ρ, rp, hq⟩ => fun p hp => by
    replace hq : Ends' c Γ ⟨true, true, 1⟩ σ ρ H F A Q (.dic [] [], ρ) := hq
    have m := Mid.refl (c := c) (p := true) rp
    have sb := upd_sub (o := .dK []) hp
    refine hq _ _ _ _ [p] ⟨(m.grow sb (Sub.refl _) (rp.sub.trans sb) (fun _ e => .inl e) (q2 := fun b => true = true ∧ b ∈ [p]) fun b z => .inr (by rw [List.mem_singleton.mp z.2]; exact hp)).weak (fun _ h => h) fun z => z, ?_, fun _ => by simp, fun _ b hb z => ?_⟩
    · exact ⟨p, [], rfl, rfl, upd_same, m.fresh hp, rfl, rfl, fun q hq => absurd hq (by simp)⟩
    · rw [List.mem_singleton.mp hb] at z
      exact (rp.dom z).1 hp

/-! ### join -/
theorem strs_inv : ∀ {l : List D} {ws : List (List Nat)}, strsOf l = some ws → l = ws.map D.str
  | [], ws, h => by cases h; rfl
  | .str s :: l, ws, h => by
    obtain ⟨ws', e, rfl⟩ := Option.map_eq_some_iff.mp (show (strsOf l).map (s :: ·) = some ws from h)
    rw [strs_inv e]; rfl
  | .non :: _, _, h | .int _ :: _, _, h | .bl _ :: _, _, h | .lst _ :: _, _, h | .tup _ :: _, _, h | .dic _ _ :: _, _, h | .set _ :: _, _, h | .fn _ :: _, _, h | .exc _ _ :: _, _, h => by cases h
theorem strs_of {X : Tx} {H : Hp} : ∀ {ws : List (List Nat)} {ps : List (V × D)}, ws.map D.str = ps.map (·.2) → (∀ p ∈ ps, RD X H p.1 p.2) → ps.map (·.1) = (ws.map fun s => (⟨s.toArray⟩ : Str)).map V.str
  | [], [], _, _ => rfl
  | [], _ :: _, h, _ => by cases h
  | _ :: _, [], h, _ => by cases h
  | n :: ns, p :: ps, h, r => by
    have h1 : D.str n = p.2 := (List.cons.inj h).1
    have h2 := (List.cons.inj h).2
    have rp := r p List.mem_cons_self
    rw [← h1] at rp
    rw [List.map_cons, List.map_cons, List.map_cons, rp.str_eq, strs_of h2 fun q hq => r q (List.mem_cons_of_mem _ hq)]
theorem joinS_fold (sep : List Nat) : ∀ (ws : List (List Nat)) (a : List Nat), joinS sep (a :: ws) = ws.foldl (fun acc p => acc ++ sep ++ p) a
  | [], a => rfl
  | w :: ws, a => by
    show a ++ sep ++ joinS sep (w :: ws) = _
    rw [joinS_fold sep ws w, List.foldl_cons]
    have : ∀ (ws : List (List Nat)) (p b : List Nat), p ++ ws.foldl (fun acc q => acc ++ sep ++ q) b = ws.foldl (fun acc q => acc ++ sep ++ q) (p ++ b) := fun ws => by
      induction ws with
      | nil => exact fun _ _ => rfl
      | cons w ws ih =>
        intro p b
        rw [List.foldl_cons, List.foldl_cons, ih]
        simp only [List.append_assoc]
    exact this ws (a ++ sep) w
theorem glued_eq (sep : List Nat) (ws : List (List Nat)) : Txt.join ⟨sep.toArray⟩ (ws.map fun s => (⟨s.toArray⟩ : Str)) = ⟨(joinS sep ws).toArray⟩ := by
  show (⟨_⟩ : Str) = _
  congr 1
  cases ws with
  | nil => rfl
  | cons w ws =>
    rw [joinS_fold]
    show (ws.map _).foldl _ _ = _
    have : ∀ (ws : List (List Nat)) (a : List Nat), (ws.map fun s => (⟨s.toArray⟩ : Str)).foldl (fun acc p => acc ++ sep.toArray ++ p.cps) a.toArray = (ws.foldl (fun acc p => acc ++ sep ++ p) a).toArray := fun ws => by
      induction ws with
      | nil => exact fun _ => rfl
      | cons w ws ih =>
        intro a
        rw [List.map_cons, List.foldl_cons, List.foldl_cons, ← ih]
        simp
    exact this ws w
theorem sx_join {s1 : List Nat} {z : Str} {n : Nat} (cx : Ctx c W Y) (hz : z = ⟨s1.toArray⟩) (hb : SX c W Γ ⟨true, pb, 0⟩ Y b fb) (hs : noStar b = true) (hline : (p1.endLine == pos.line) = true) :
    SX c W Γ (kA pb) Y (.Call (.Attribute (.Constant (.str z) n p2) "join" p1) [b] [] pos) (fun ρ => (fb ρ).bind fun q => (optR (meD .join (.str s1) [q.1])).bind fun d => .ok (d, q.2)) :=
  PE.imp (pe_join pe_str hb (star_cons hs) rfl hline) fun σ H Q ⟨F, A, ρ, rp, h⟩ => by
    subst hz
    refine ⟨⟨_, rfl⟩, tX.one (g := fun d2 ρ2 => (optR (meD .join (.str s1) [d2])).bind fun d => .ok (d, ρ2)) rp h fun y H2 F2 A2 d2 ρ2 B2 o2 k3 => ?_⟩
    obtain ⟨d, e, k4⟩ := Run.opt k3
    replace k4 : Ends' c Γ (kA pb) σ ρ H F A Q (d, ρ2) := k4
    cases d2 <;> first | (cases e; done) | skip
    rename_i l
    replace e : ((strsOf l).bind fun ws => if (joinS s1 ws).length ≤ lim ∧ (ws.map (·.length)).sum + ws.length * s1.length ≤ lim then some (D.str (joinS s1 ws)) else none) = some d := e
    obtain ⟨ws, e1, e2⟩ := Option.bind_eq_some_iff.mp e
    split at e2 <;> cases e2
    rename_i hz
    obtain ⟨ad, ps, rfl, e3, sq, rr⟩ := o2.ot.2.lst_eq
    rw [strs_inv e1] at e3
    refine ⟨⟨s1.toArray⟩, ad, ws.map fun s => ⟨s.toArray⟩, rfl, rfl, .inl ?_, ?_, ?_⟩
    · rw [← strs_of e3 rr, cx.K]; exact o2.rep.sub.sqL sq
    · rw [List.map_map, List.length_map]
      have := hz.2
      exact this
    · rw [glued_eq]
      exact k4 (sV _) _ _ _ _ (o2.mid.val (.str _) (fun z => z) (.inr rfl))
end
end Pz
end
section
set_option Elab.async false
set_option linter.all false
/-! Dict displays with constant keys. -/
namespace Pz
open PySem PySem.Spec PyProof.Rows L2

section
variable {c : Cf} {W : WX} {Γ : List Nat} {Y : Cx} {e a b ke ve : Expr} {es elts : List Expr} {pos p0 p1 p2 tpos : Pos} {fa fb : Env → R (D × Env)} {fs : Env → R (List D × Env)} {pu pa pb : Bool} {keys : List (Option Expr)} {values : List Expr} {ks : List Key} {k : Key}
/-- the pairs of a display: the values are frozen -/
def SPs (c : Cf) (W : WX) (Γ : List Nat) (pu : Bool) (Y : Cx) (pos : Pos) (keys : List (Option Expr)) (values : List Expr) (ks : List Key) (f : Env → R (List D × Env)) : Prop :=
  keys.length = values.length ∧ keys.length = ks.length ∧ keys.all (·.isSome) = true ∧ ∃ trs, PPs Y pos keys values trs ∧ ∀ (σ : Sl) (H F : Hp) (A : Nat → List Addr) (ρ : Env) (Q : List (V × V) → Hp → Prop), Rep c.X Γ ρ σ H F A →
    Run c W σ H F (Own A) (f ρ) (fun p => ∀ vs H' F' A', Mid c Γ σ ρ H F A p.2 H' F' A' (fun _ => False) pu → RDL c.X F' vs p.1 → vs.length = ks.length → Q ((ks.map kV).zip vs) H') → tPairs trs σ H Q
theorem sps_nil : SPs c W Γ true Y pos [] [] [] (fun ρ => .ok ([], ρ)) := ⟨rfl, rfl, rfl, [], pps_nil, fun σ H F A ρ Q r h => by
  replace h : ∀ vs H' F' A', Mid c Γ σ ρ H F A ρ H' F' A' (fun _ => False) true → RDL c.X F' vs [] → vs.length = 0 → Q (([] : List V).zip vs) H' := h
  exact h [] _ _ _ (Mid.refl r) .nil rfl⟩
theorem RDL.mono {X : Tx} {F G : Hp} (s : Sub F G) {vs : List V} {ds : List D} (h : RDL X F vs ds) : RDL X G vs ds := by
  induction h with
  | nil => exact .nil
  | cons r _ ih => exact .cons (r.mono s) ih
theorem sps_cons (hk : PE Y ke (tC (kV k))) (hv : SX c W Γ ⟨true, pa, 0⟩ Y ve fa) (hr : SPs c W Γ pb Y pos keys values ks fs) :
    SPs c W Γ (pa && pb) Y pos (some ke :: keys) (ve :: values) (k :: ks) (fun ρ => (fa ρ).bind fun p => (fs p.2).bind fun q => .ok (p.1 :: q.1, q.2)) := by
  obtain ⟨l1, l2, l3, trs, pp, hh⟩ := hr
  refine ⟨congrArg (· + 1) l1, congrArg (· + 1) l2, by rw [List.all_cons, l3]; rfl, _, pps_cons hk hv pp, fun σ H F A ρ Q r h => ?_⟩
  show tX c W Γ ⟨true, pa, 0⟩ fa σ H fun y H2 => tPairs trs σ H2 fun ps H3 => Q ((kV k, y) :: ps) H3
  refine tX.one (g := fun d ρ1 => (fs ρ1).bind fun q => .ok (d :: q.1, q.2)) r h fun x H1 F1 A1 d ρ1 B o h1 => ?_
  refine hh σ H1 F1 A1 ρ1 _ o.rep (h1.bind.imp fun p _ hp vs H2 F2 A2 m rl ll => ?_)
  replace hp : ∀ vs H' F' A', Mid c Γ σ ρ H F A p.2 H' F' A' (fun _ => False) (pa && pb) → RDL c.X F' vs (d :: p.1) → vs.length = ks.length + 1 → Q (((k :: ks).map kV).zip vs) H' := hp
  exact hp (x :: vs) H2 F2 A2 ((o.mid.trans m).weak (fun _ z => z.elim) fun z => z) (.cons (o.ot.2.mono m.nx.fro) rl) (congrArg (· + 1) ll)
theorem mergeK_nd : ∀ (kvs acc : List (Key × V)), ((acc ++ kvs).map (·.1)).Nodup → mergeK acc kvs = acc ++ kvs
  | [], acc, _ => by simp [mergeK]
  | p :: kvs, acc, h => by
    have e : L2.putK acc p.1 p.2 = acc ++ [p] := by
      unfold L2.putK
      rw [if_neg]
      intro z
      rw [List.any_eq_true] at z
      obtain ⟨q, hq, eq⟩ := z
      rw [List.map_append, List.map_cons] at h
      have := (List.nodup_append.mp h).2.2 q.1 (List.mem_map.mpr ⟨q, hq, rfl⟩) p.1 List.mem_cons_self
      exact this (of_decide_eq_true eq)
    show mergeK (L2.putK acc p.1 p.2) kvs = _
    rw [e, mergeK_nd kvs (acc ++ [p]) (by rw [List.append_assoc]; exact h), List.append_assoc]; rfl
theorem sx_dct (h : SPs c W Γ pu Y pos keys values ks fs) (h0 : keys ≠ []) (h15 : keys.length ≤ 15) (nd : ks.Nodup) :
    SX c W Γ ⟨true, pu, 1⟩ Y (.Dict keys values pos) (fun ρ => (fs ρ).bind fun p => .ok (.dic (ks.map kD) p.1, p.2)) := by
  obtain ⟨l1, l2, l3, trs, pp, hh⟩ := h
  refine PE.imp (pe_disp pp l3 l1 h0 h15) fun σ H Q ⟨F, A, ρ, r, h⟩ p hp => ?_
  have nA : ¬ Own A p := fun z => (r.dom z).1 hp
  have hF : F p = none := by
    cases e : F p with
    | none => rfl
    | some o => rw [r.sub p o e] at hp; cases hp
  have g : Nxt H F (Own A) (upd H p (.dK [])) F (Own A) := Nxt.grow (upd_sub hp)
  have g0 : Nxt H F (fun _ => False) (upd H p (.dK [])) F (fun _ => False) := Nxt.grow (upd_sub hp)
  have r1 : Rep c.X Γ ρ σ (upd H p (.dK [])) F A := r.step g0 (r.sub.trans (upd_sub hp)) fun _ _ z => z
  refine hh σ _ F A ρ _ r1 ((h.bind.at g fun _ z => z).imp fun q _ hq vs H2 F2 A2 m rl ll => ?_)
  replace hq : Ends' c Γ ⟨true, pu, 1⟩ σ ρ H F A Q (.dic (ks.map kD) q.1, q.2) := hq
  have nA2 : ¬ Own A2 p := fun z => (m.nx.own p (.inl z)).elim nA fun y => by rw [upd_same] at y; cases y
  have e2 : H2 p = some (.dK []) := m.nx.keep p _ upd_same nA
  have hF2 : F2 p = none := by
    cases e : F2 p with
    | none => rfl
    | some o =>
      exfalso
      rcases m.nx.new p (by rw [e]; simp) with z | z | z
      · exact z hF
      · exact nA z
      · rw [upd_same] at z; cases z
  refine ⟨e2, ks.zip vs, ?_, by rw [List.length_zip]; omega, ?_⟩
  · rw [List.zip_map_left]; rfl
  · obtain ⟨ps, q1, q2, q3⟩ := rdl_ps rl
    have lks : ks.length = ps.length := by rw [q1, List.length_map] at ll; exact ll.symm
    have nk : mergeK [] (ks.zip vs) = ks.zip vs := mergeK_nd (ks.zip vs) [] (by rw [List.nil_append, List.map_fst_zip (by omega)]; exact nd)
    rw [nk]
    have gp : Nxt H2 F2 (fun a => a = p) (upd H2 p (.dK (ks.zip vs))) F2 (fun a => a = p) := ⟨fun a o ea na => by rw [upd_ne na]; exact ea, Sub.refl _, fun a z => .inl z, fun a z => .inl z⟩
    have s2 : Sub F2 (upd H2 p (.dK (ks.zip vs))) := fun a o ea => by
      by_cases ha : a = p
      · subst ha; rw [hF2] at ea; cases ea
      · rw [upd_ne ha]; exact m.rep.sub a o ea
    refine hq (.ref p) _ F2 A2 [p] ⟨⟨m.rep.step gp s2 fun a z w => nA2 (w ▸ z), ⟨fun a o ea na => ?_, m.nx.fro, fun a z => ?_, fun a z => ?_⟩, fun z => ?_⟩, ?_, fun _ => by simp, fun _ a ha z => nA2 (List.mem_singleton.mp ha ▸ z)⟩
    · by_cases ha : a = p
      · subst ha; rw [hp] at ea; cases ea
      · rw [upd_ne ha]; exact m.nx.keep a o (by rw [upd_ne ha]; exact ea) na
    · rcases m.nx.new a z with w | w | w
      · exact .inl w
      · exact .inr (.inl w)
      · by_cases ha : a = p
        · subst ha; exact .inr (.inr hp)
        · rw [upd_ne ha] at w; exact .inr (.inr w)
    · rcases z with z | z
      · rcases m.nx.own a (.inl z) with w | w
        · exact .inl w
        · by_cases ha : a = p
          · subst ha; exact .inr hp
          · rw [upd_ne ha] at w; exact .inr w
      · rw [List.mem_singleton.mp z.2]; exact .inr hp
    · obtain ⟨z1, z2, z3⟩ := m.pu z
      refine ⟨z1, z2, ⟨fun a o ea na => ?_, z3.fro, fun a w => ?_, fun _ w => w.elim⟩⟩
      · by_cases ha : a = p
        · subst ha; rw [hp] at ea; cases ea
        · rw [upd_ne ha]; exact z3.keep a o (by rw [upd_ne ha]; exact ea) na
      · rcases z3.new a w with w | w | w
        · exact .inl w
        · exact .inr (.inl w)
        · by_cases ha : a = p
          · subst ha; exact .inr (.inr hp)
          · rw [upd_ne ha] at w; exact .inr (.inr w)
    · refine ⟨p, (ks.zip ps).map fun z => (z.1, z.2.1, z.2.2, []), rfl, ?_, ?_, hF2, ?_, ?_, fun z hz => ?_⟩
      · rw [List.map_map, q2]
        show _ = List.map (fun z : Key × V × D => z.2.2) _
        rw [← List.map_snd_zip (l₁ := ks) (l₂ := ps) (by omega), List.map_map]
        simp [List.map_snd_zip, lks]
      · rw [upd_same, List.map_map, q1, List.zip_map_right]; rfl
      · rw [List.map_map]
        show _ = List.map (fun z : Key × V × D => kD z.1) _
        have := congrArg (List.map kD) (List.map_fst_zip (l₁ := ks) (l₂ := ps) (by omega))
        rw [List.map_map] at this
        exact this.symm
      · rw [List.map_map]
        have : (List.map ((fun q : Key × V × D × List Addr => q.2.2.2) ∘ fun z : Key × V × D => (z.1, z.2.1, z.2.2, [])) (ks.zip ps)).flatten = [] := by
          simp [List.flatten_eq_nil_iff]
        rw [this]
      · obtain ⟨y, hy, rfl⟩ := List.mem_map.mp hz
        exact ⟨rfl, q3 y.2 (List.of_mem_zip hy).2⟩
end
end Pz
end
section
set_option Elab.async false
set_option linter.all false
/-! l.index(x). -/
namespace Pz
open PySem PySem.Spec PyProof.Rows L2

theorem firstIx_inv (x : D) : ∀ (l : List D) (n j : Nat), firstIx x l n = some j → ∃ i z, j = n + i ∧ l[i]? = some z ∧ eqD z x = true ∧ ∀ (m : Nat) (z' : D), m < i → l[m]? = some z' → eqD z' x = false
  | [], _, _, h => by cases h
  | y :: l, n, j, h => by
    unfold firstIx at h
    split at h
    · rename_i e
      cases h
      exact ⟨0, y, rfl, rfl, e, fun m z' hm => absurd hm (Nat.not_lt_zero m)⟩
    · rename_i e
      obtain ⟨i, z, e1, e2, e3, e4⟩ := firstIx_inv x l (n + 1) j h
      refine ⟨i + 1, z, by omega, e2, e3, fun m z' hm hz => ?_⟩
      cases m with
      | zero =>
        cases hz
        simpa using e
      | succ m => exact e4 m z' (by omega) hz
section
variable {X : Tx} {Y : Cx}
/-- what index asks -/
def rIxR (X : Tx) : V → List V → Hp → VK → Prop := fun x xs H Q => ∃ (l : List D) (d : D) (y : V) (j : Nat), RD X H x (.lst l) ∧ xs = [y] ∧ RD X H y d ∧ okD 60 d = true ∧ okL 60 l = true ∧ firstIx d l 0 = some j ∧ Q (.int (j : Nat)) H
theorem mt_indexR (hK : Y.K = X.K) (hu : Y.A.units + 65 < cLine) : MtR Y "list.index" (rIxR X) := by
  intro pins s σ H x xs v us Q I rx rxs h
  obtain ⟨l, d, y, j, r1, rfl, r2, h1, h2, hj, q⟩ := h
  obtain ⟨a, ps, rfl, e, sq, rr⟩ := r1.lst_eq
  cases rx
  cases rxs with
  | cons ry rt =>
    rename_i uy ut
    cases rt
    obtain ⟨bs, q1⟩ := r2.readsP I hK d 60 y uy h1 ry
    obtain ⟨its, rv, ⟨⟨cls, dd, data, sls⟩, n, ho, hc, hdn, hdt⟩, hlen⟩ := I.list (hK ▸ sq)
    obtain ⟨as, h4⟩ := RD.readsLP I hK l 60 (ps.map (·.1)) its h2 (e ▸ rdl_of rr) rv
    simp only at hc hdt
    subst hc hdt
    have p1 := okD_plain d 60 h1
    have p2 := okL_plain l 60 h2
    obtain ⟨i, z, e1, e2, e3, e4⟩ := firstIx_inv d l 0 j hj
    obtain rfl : j = i := by omega
    have hmap : its.map (SeqAt.readOf s.heap) = toPyL l := SeqAt.readsAll_map_plain (toPyL l) its as p2.1 h4
    have hlenL : its.length = l.length := by rw [← toPyL_len l, ← hmap, List.length_map]
    obtain ⟨hjl, _⟩ := List.getElem?_eq_some_iff.mp e2
    have hsl := sizeLine_eq
    have hvl := rv.length
    have hpl : (ps.map (·.1)).length = l.length := by rw [e, List.length_map, List.length_map]
    have ok_at : ∀ (m : Nat) (z' : D), l[m]? = some z' → okD 60 z' = true := fun m z' hm => by
      have : ∀ (l : List D) (m : Nat), okL 60 l = true → l[m]? = some z' → okD 60 z' = true := fun l => by
        induction l with
        | nil => intro m _ h; simp at h
        | cons y l ih =>
          intro m ho h
          replace ho : (okD 60 y && okL 60 l) = true := ho
          rw [Bool.and_eq_true] at ho
          cases m with
          | zero => cases h; exact ho.1
          | succ m => exact ih m ho.2 h
      exact this l m h2 hm
    have at_ : ∀ (m : Nat) (hm : m < its.toArray.size) (z' : D), l[m]? = some z' → PyData.eqv (SeqAt.readOf s.heap its.toArray[m]) (toPy d) = eqD z' d := by
      intro m hm z' hz'
      have hml : m < its.length := by simpa using hm
      have e5 : (its.map (SeqAt.readOf s.heap))[m]? = some (toPy z') := by rw [hmap, toPyL_map, List.getElem?_map, hz']; rfl
      rw [List.getElem?_map, List.getElem?_eq_getElem hml] at e5
      have e6 : SeqAt.readOf s.heap its[m] = toPy z' := Option.some.inj (show some (SeqAt.readOf s.heap its[m]) = some (toPy z') from e5)
      have e7 : its.toArray[m] = its[m] := by simp
      rw [e7, e6]
      exact eqv_toPy z' d 60 60 (ok_at m z' hz') h1
    have hj2 : j < its.toArray.size := by simpa using (show j < its.length by omega)
    have hz : its.length ≤ sizeLine := by omega
    refine call_meets PySem.F.slot_list_index ⟨_, ho, rfl⟩ PySem.F.entry_list_index (PySem.F.args_list_index_2 _ _)
      (SeqAt.list_indexAt a its.toArray n dd sls uy (fun u => PyData.eqv (SeqAt.readOf s.heap u) (toPy d)) j hj2 (by omega) ?_ ?_) ⟨ho, SeqAt.items_plain (vs := its.toArray) (show ReadsAll s.heap its.toArray.toList (toPyL l) as from h4) q1 p2.1 p1.1 (by omega), ?_⟩
    · show PyData.eqv (SeqAt.readOf s.heap its.toArray[j]) (toPy d) = true
      rw [at_ j hj2 z e2]
      exact e3
    · intro m hm hmj
      have hmd : m < l.length := by omega
      have hz' : l[m]? = some l[m] := List.getElem?_eq_getElem hmd
      show PyData.eqv (SeqAt.readOf s.heap its.toArray[m]) (toPy d) = false
      rw [at_ m hm _ hz']
      exact e4 m _ hmj hz'
    · exact ⟨.int (j : Nat), H, I.tok _, ⟨_, rfl⟩, q⟩
end
section
variable {c : Cf} {W : WX} {Γ : List Nat} {Y : Cx} {a : Expr} {pos p1 p2 : Pos} {ka kb : Kd} {fa fb : Env → R (D × Env)} {y : Str}
theorem sx_index (cx : Ctx c W Y) (ha : SX c W Γ ka Y a fa) (hb : SX c W Γ kb Y (.Name y p2) fb) (hne : ∀ ρ, ∃ o, fb ρ = optR o) (hc : ka.own = true ∨ kb.pu = true)
    (hbase : attributeBase a "index" Y.env (eval a Y.env) = eval a Y.env) (hline : (p1.endLine == pos.line) = true) :
    SX c W Γ (kA (ka.pu && kb.pu)) Y (.Call (.Attribute a "index" p1) [.Name y p2] [] pos) (fun ρ => (fa ρ).bind fun p => (fb p.2).bind fun q => (optR (meD .index p.1 [q.1])).bind fun d => .ok (d, q.2)) :=
  PE.imp (pe_bm PySem.F.plainAttrs_list PySem.F.slot_list_index PySem.F.type_list_index (mt_indexR (X := c.X) cx.K cx.hu) ha (pa_cons hb pa_nil rfl) hbase (by rfl) hline (by rfl) (by rfl)) fun σ H Q ⟨F, A, ρ, rp, h⟩ =>
    tX.one (g := fun d1 ρ1 => (fb ρ1).bind fun q => (optR (meD .index d1 [q.1])).bind fun d => .ok (d, q.2)) rp h fun x H1 F1 A1 d1 ρ1 B1 o1 h1 => by
      have hl : ∃ l, d1 = .lst l := by
        obtain ⟨o, eo⟩ := hne ρ1
        have h1' := h1
        rw [eo] at h1'
        obtain ⟨q, _, h2⟩ := Run.opt h1'
        obtain ⟨d, e, _⟩ := Run.opt h2
        cases d1 <;> first | (cases e; done) | exact ⟨_, rfl⟩
      obtain ⟨l, rfl⟩ := hl
      refine ⟨?_, tX.one (g := fun d2 ρ2 => (optR (meD .index (.lst l) [d2])).bind fun d => .ok (d, ρ2)) o1.rep h1 fun z H2 F2 A2 d2 ρ2 B2 o2 h2 => ?_⟩
      · obtain ⟨b, ps, rfl, _, sq, _⟩ := (o1.ot.read o1.rep.sub).lst_eq
        rw [cx.K]
        exact .inl ⟨rfl, _, sq⟩
      · obtain ⟨d, e, h3⟩ := Run.opt h2
        replace h3 : Ends' c Γ (kA (ka.pu && kb.pu)) σ ρ H F A Q (d, ρ2) := h3
        have two := o1.two o2 hc
        obtain ⟨h0, e2⟩ : (okD 60 d2 && okL 60 l) = true ∧ ((firstIx d2 l 0).map fun n : Nat => D.int n) = some d := by
          unfold meD at e
          simp only at e
          split at e
          · rename_i h0; exact ⟨h0, e⟩
          · cases e
        rw [Bool.and_eq_true] at h0
        obtain ⟨j, ej, rfl⟩ := Option.map_eq_some_iff.mp e2
        exact ⟨l, d2, z, j, two.o1.read two.mid.rep.sub, rfl, two.o2.read two.mid.rep.sub, h0.1, h0.2, ej, h3 _ _ _ _ _ (two.mid.val (.int _) (fun z => z) (.inr rfl))⟩
end
end Pz
end
section
set_option Elab.async false
set_option linter.all false
/-! x.pop(k): x a list of one's own. -/
namespace Pz
open PySem PySem.Spec PyProof.Rows L2

section
variable {c : Cf} {W : WX} {Γ : List Nat} {Y : Cx} {x : Str} {i : Nat} {p0 : Pos} {e : Expr} {pe : Bool} {fe : Env → R (D × Env)}
theorem mem_eraseIdx {α : Type} {x : α} : ∀ {l : List α} {n : Nat}, x ∈ l.eraseIdx n → x ∈ l
  | [], _, h => by simp at h
  | y :: l, 0, h => List.mem_cons_of_mem _ h
  | y :: l, n + 1, h => by
    rcases List.mem_cons.mp (show x ∈ y :: l.eraseIdx n from h) with h | h
    · exact h ▸ List.mem_cons_self
    · exact List.mem_cons_of_mem _ (mem_eraseIdx h)
theorem map_eraseIdx {α β : Type} (f : α → β) : ∀ (l : List α) (n : Nat), (l.eraseIdx n).map f = (l.map f).eraseIdx n
  | [], _ => rfl
  | y :: l, 0 => rfl
  | y :: l, n + 1 => congrArg (f y :: ·) (map_eraseIdx f l n)
theorem sx_pop1 {apos cpos : Pos} (cx : Ctx c W Y) (hN : Y.N[i]? = some x) (hv : Vis Y.env.scope x) (hd : (x == ("__debug__" : Str)) = false) (hcd : (x == ("__classdict__" : Str)) = false) (hi : Γ.getD i 0 = 1) (he : SX c W Γ ⟨true, pe, 0⟩ Y e fe)
    (hbase : attributeBase (.Name x p0) "pop" Y.env (eval (.Name x p0) Y.env) = eval (.Name x p0) Y.env)
    (hfew : ((backTo cpos (starEach [e] Y.env)).all (fun x => !x.1) && (backToKw cpos (keywordEach [] Y.env)).all (fun x => x.1.isSome) && decide (([e] : List Expr).length + ([] : List Keyword).length + (if ([] : List Keyword).isEmpty then 0 else 1) < 30)) = true)
    (hline : (apos.endLine == cpos.line) = true) (hs : starEach [e] Y.env = (false, eval e Y.env) :: starEach [] Y.env) (hpl : (backTo cpos (starEach [] Y.env)).any (·.1) = false) :
    SX c W Γ ⟨true, false, 0⟩ Y (.Call (.Attribute (.Name x p0) "pop" apos) [e] [] cpos) (fun ρ => (optR ((gt ρ i).bind lstD)).bind fun _ => (fe ρ).bind fun q => (optR ((gt q.2 i).bind lstD)).bind fun o => (optR (popL o q.1)).bind fun r => .ok (r.1, st q.2 i r.2)) :=
  PE.imp (pe_bm PySem.F.plainAttrs_list PySem.F.slot_list_pop PySem.F.type_list_pop mt_popAt (pe_var (i := i) hN hv hd hcd) (pa_cons he pa_nil hs) hbase hfew hline hs hpl) fun σ H Q ⟨F, A, ρ, r, h⟩ => by
    obtain ⟨d0, e0, h2⟩ := Run.opt h
    obtain ⟨d1, e1, e2⟩ := Option.bind_eq_some_iff.mp e0
    cases d1 <;> first | (cases e2; done) | skip
    obtain ⟨ad, ps0, s0, el0, g0, f0, _⟩ := r.list1 hi (gt_ok e1)
    refine ⟨.ref ad, s0, .inl ⟨rfl, _, .of g0⟩, tX.one (g := fun q ρ1 => (optR ((gt ρ1 i).bind lstD)).bind fun o => (optR (popL o q)).bind fun r => .ok (r.1, st ρ1 i r.2)) r h2 fun y H1 F1 A1 q ρ1 B o h3 => ?_⟩
    obtain ⟨xl, e3, h4⟩ := Run.opt h3
    obtain ⟨rr, e4, h5⟩ := Run.opt h4
    obtain ⟨xl0, e5, e6⟩ := Option.bind_eq_some_iff.mp e3
    cases xl0 <;> first | (cases e6; done) | skip
    rename_i l
    cases e6
    cases q <;> first | (cases e4; done) | skip
    rename_i k
    replace e4 : (if l.length ≤ lim then ((ixI l.length k).bind fun n => l[n]?.map fun x => (x, Pz.D.lst (l.eraseIdx n))) else none) = some rr := e4
    split at e4
    case isFalse => cases e4
    rename_i hlim
    obtain ⟨n, hn, e7⟩ := Option.bind_eq_some_iff.mp e4
    obtain ⟨z, hz, rfl⟩ := Option.map_eq_some_iff.mp e7
    replace h5 : Ends' c Γ ⟨true, false, 0⟩ σ ρ H F A Q (z, st ρ1 i (.lst (l.eraseIdx n))) := h5
    obtain ⟨ad', ps, s1, rfl, s3, s4, s5⟩ := o.rep.list1 hi (gt_ok e5)
    rw [s0] at s1
    cases s1
    rw [List.getElem?_map] at hz
    obtain ⟨⟨v, z'⟩, hv', rfl⟩ := Option.map_eq_some_iff.mp hz
    obtain ⟨r6, n6⟩ := s5 (ps.eraseIdx n) fun z hz => s4 z (mem_eraseIdx hz)
    rw [map_eraseIdx, map_eraseIdx] at r6
    rw [map_eraseIdx] at n6
    rw [List.length_map] at hn
    obtain ⟨q1, q2, q3, q4⟩ := ixN_seq (n := ps.length) (i := k) (j := n) hn
    have hk := o.ot.int_eq
    have len : ps.length ≤ 16777216 := by rw [List.length_map] at hlim; exact hlim
    refine ⟨ad, ps.map (·.1), k, n, v, rfl, by rw [hk], s3, by omega, by omega, by rw [List.length_map]; exact q1, by rw [List.getElem?_map, hv']; rfl, ?_⟩
    refine h5 v _ F1 A1 [] ⟨⟨r6, (o.nx0.trans n6).weak (fun _ z => z) (fun a z => .inl (z.elim id fun w => absurd w.2 (by simp))), fun z => by cases z⟩, ⟨rfl, s4 _ (List.mem_of_getElem? hv')⟩, fun _ => List.nodup_nil, fun _ _ z => absurd z (by simp)⟩
theorem eraseIdx_last {α : Type} : ∀ (l : List α), l.eraseIdx (l.length - 1) = l.dropLast
  | [] => rfl
  | [x] => rfl
  | x :: y :: l => by
    have := eraseIdx_last (y :: l)
    show x :: (y :: l).eraseIdx (l.length) = x :: (y :: l).dropLast
    rw [← this]; rfl
theorem sx_pop0 {apos cpos : Pos} (cx : Ctx c W Y) (hN : Y.N[i]? = some x) (hv : Vis Y.env.scope x) (hd : (x == ("__debug__" : Str)) = false) (hcd : (x == ("__classdict__" : Str)) = false) (hi : Γ.getD i 0 = 1)
    (hbase : attributeBase (.Name x p0) "pop" Y.env (eval (.Name x p0) Y.env) = eval (.Name x p0) Y.env) (hline : (apos.endLine == cpos.line) = true) :
    SX c W Γ ⟨true, false, 0⟩ Y (.Call (.Attribute (.Name x p0) "pop" apos) [] [] cpos) (fun ρ => (optR ((gt ρ i).bind lstD)).bind fun _ => ((.ok (.int (-1), ρ)) : R (D × Env)).bind fun q => (optR ((gt q.2 i).bind lstD)).bind fun o => (optR (popL o q.1)).bind fun r => .ok (r.1, st q.2 i r.2)) :=
  PE.imp (pe_bm0 PySem.F.plainAttrs_list PySem.F.slot_list_pop PySem.F.type_list_pop mt_pop (pe_var (i := i) hN hv hd hcd) hbase hline) fun σ H Q ⟨F, A, ρ, r, h⟩ => by
    obtain ⟨d0, e0, h2⟩ := Run.opt h
    replace h2 : Run c W σ H F (Own A) ((optR ((gt ρ i).bind lstD)).bind fun o => (optR (popL o (.int (-1)))).bind fun r => .ok (r.1, st ρ i r.2)) fun p => ∀ v H' F' A' B, Out c Γ ⟨true, false, 0⟩ σ ρ H F A p.2 H' F' A' v p.1 B → Q v H' := h2
    obtain ⟨xl, e3, h4⟩ := Run.opt h2
    obtain ⟨rr, e4, h5⟩ := Run.opt h4
    obtain ⟨xl0, e5, e6⟩ := Option.bind_eq_some_iff.mp e3
    cases xl0 <;> first | (cases e6; done) | skip
    rename_i l
    cases e6
    replace e4 : (if l.length ≤ lim then ((ixI l.length (-1)).bind fun n => l[n]?.map fun x => (x, Pz.D.lst (l.eraseIdx n))) else none) = some rr := e4
    split at e4
    case isFalse => cases e4
    obtain ⟨n, hn, e7⟩ := Option.bind_eq_some_iff.mp e4
    obtain ⟨z, hz, rfl⟩ := Option.map_eq_some_iff.mp e7
    replace h5 : Ends' c Γ ⟨true, false, 0⟩ σ ρ H F A Q (z, st ρ i (.lst (l.eraseIdx n))) := h5
    obtain ⟨ad, ps, s1, rfl, s3, s4, s5⟩ := r.list1 hi (gt_ok e5)
    have hn2 : n = ps.length - 1 := by
      rw [List.length_map] at hn
      unfold ixI at hn
      rw [if_neg (by omega)] at hn
      split at hn
      · cases hn; omega
      · cases hn
    subst hn2
    rw [List.getElem?_map] at hz
    obtain ⟨⟨v, z'⟩, hv', rfl⟩ := Option.map_eq_some_iff.mp hz
    obtain ⟨r6, n6⟩ := s5 (ps.eraseIdx (ps.length - 1)) fun z hz => s4 z (mem_eraseIdx hz)
    rw [map_eraseIdx, map_eraseIdx] at r6
    rw [map_eraseIdx] at n6
    refine ⟨.ref ad, s1, .inl ⟨rfl, _, .of s3⟩, ad, ps.map (·.1), v, rfl, rfl, s3, by rw [List.length_map, List.getElem?_map, hv']; rfl, ?_⟩
    have ed : (ps.map (·.1)).dropLast = (ps.map (·.1)).eraseIdx (ps.length - 1) := by
      rw [← eraseIdx_last, List.length_map]
    rw [ed]
    refine h5 v _ F A [] ⟨⟨r6, n6.weak (fun _ z => z) (fun a z => .inl (z.elim id fun w => absurd w.2 (by simp))), fun z => by cases z⟩, ⟨rfl, s4 _ (List.mem_of_getElem? hv')⟩, fun _ => List.nodup_nil, fun _ _ z => absurd z (by simp)⟩
end
end Pz
end
section
set_option Elab.async false
set_option linter.all false
/-! a < b < c, as a value. -/
namespace Pz
open PySem PySem.Spec PyProof.Rows L2
section
variable {c : Cf} {W : WX} {Γ : List Nat} {Y : Cx} {a b e : Expr} {pos : Pos} {ka kb kc : Kd} {fa fb fc : Env → R (D × Env)}
theorem sx_chain {op op' : CmpOp} {g g' : D → D → Option Bool} (hr : CmpR c Y op ka.lv kb.lv g) (hr' : CmpR c Y op' kb.lv kc.lv g') (hm : lastMarks [op, op'] [b, e] = false)
    (ha : SX c W Γ ka Y a fa) (hb : SX c W Γ kb Y b fb) (hc : SX c W Γ kc Y e fc) (h1 : ka.own = true ∨ kb.pu = true) (h2 : kb.own = true) :
    SX c W Γ (kA ((ka.pu && kb.pu) && kc.pu)) Y (.Compare a [op, op'] [b, e] pos) (fun ρ => (fa ρ).bind fun p => (fb p.2).bind fun q => (optR (g p.1 q.1)).bind fun d =>
      if d then (fc q.2).bind fun r => (optR (g' q.1 r.1)).bind fun d' => .ok (D.bl d', r.2) else .ok (D.bl false, q.2)) := by
  obtain ⟨r, ho, hr⟩ := hr
  obtain ⟨r', ho', hr'⟩ := hr'
  exact PE.imp (pe_chain ho ho' ha hb hc hm) fun σ H Q ⟨F, A, ρ, rp, h⟩ =>
    tX.one (g := fun d1 ρ1 => (fb ρ1).bind fun q => (optR (g d1 q.1)).bind fun d => if d then (fc q.2).bind fun r => (optR (g' q.1 r.1)).bind fun d' => .ok (D.bl d', r.2) else .ok (D.bl false, q.2)) rp h fun x H1 F1 A1 d1 ρ1 B1 o1 k1 =>
    tX.one (g := fun d2 ρ2 => (optR (g d1 d2)).bind fun d => if d then (fc ρ2).bind fun r => (optR (g' d2 r.1)).bind fun d' => .ok (D.bl d', r.2) else .ok (D.bl false, ρ2)) o1.rep k1 fun y H2 F2 A2 d2 ρ2 B2 o2 k2 => by
      obtain ⟨d, e1, k3⟩ := Run.opt k2
      have t := o1.two o2 h1
      refine hr H2 F2 x y d1 d2 d _ _ t.mid.rep.sub t.o1 t.o2 e1 _ ⟨d, rfl, ?_⟩
      cases d with
      | false =>
        replace k3 : Ends' c Γ (kA ((ka.pu && kb.pu) && kc.pu)) σ ρ H F A Q (.bl false, ρ2) := k3
        exact k3 _ _ _ _ _ (t.mid.val (.bl _) (fun z => (by simpa using z : (ka.pu = true ∧ kb.pu = true) ∧ kc.pu = true).1 |> fun w => by rw [w.1, w.2]; rfl) (.inr rfl))
      | true =>
        replace k3 : Run c W σ H2 F2 (Own A2) ((fc ρ2).bind fun r => (optR (g' d2 r.1)).bind fun d' => .ok (D.bl d', r.2)) (Ends' c Γ (kA ((ka.pu && kb.pu) && kc.pu)) σ ρ H F A Q) := k3
        exact tX.one (g := fun d3 ρ3 => (optR (g' d2 d3)).bind fun d' => .ok (D.bl d', ρ3)) o2.rep k3 fun w H3 F3 A3 d3 ρ3 B3 o3 k4 => by
          obtain ⟨d', e2, k5⟩ := Run.opt k4
          replace k5 : Ends' c Γ (kA ((ka.pu && kb.pu) && kc.pu)) σ ρ H F A Q (.bl d', ρ3) := k5
          exact hr' H3 F3 y w d2 d3 d' _ _ o3.rep.sub (o2.later o3.mid (.inl h2)) o3.ot e2 _ (k5 _ _ _ _ _ ((t.mid.trans o3.mid).val (.bl _) (fun z => z) (.inr rfl)))
theorem sc_chain {op op' : CmpOp} {g g' : D → D → Option Bool} (hr : CmpR c Y op ka.lv kb.lv g) (hr' : CmpR c Y op' kb.lv kc.lv g') (hm : lastMarks [op, op'] [b, e] = false)
    (ha : SX c W Γ ka Y a fa) (hb : SX c W Γ kb Y b fb) (hc : SX c W Γ kc Y e fc) (h1 : ka.own = true ∨ kb.pu = true) (h2 : kb.own = true) :
    SC c W Γ ((ka.pu && kb.pu) && kc.pu) Y (.Compare a [op, op'] [b, e] pos) (truF fun ρ => (fa ρ).bind fun p => (fb p.2).bind fun q => (optR (g p.1 q.1)).bind fun d =>
      if d then (fc q.2).bind fun r => (optR (g' q.1 r.1)).bind fun d' => .ok (D.bl d', r.2) else .ok (D.bl false, q.2)) := by
  obtain ⟨r, ho, hr⟩ := hr
  obtain ⟨r', ho', hr'⟩ := hr'
  refine PT.imp (pt_chain ho ho' ha hb hc hm) fun σ H Q ⟨F, A, ρ, rp, h⟩ => ?_
  replace h : Run c W σ H F (Own A) ((fa ρ).bind fun p => (fb p.2).bind fun q => (optR (g p.1 q.1)).bind fun d => if d then (fc q.2).bind fun r => (optR (g' q.1 r.1)).bind fun d' => .ok (d', r.2) else .ok (false, q.2))
      fun p => ∀ H' F' A', Mid c Γ σ ρ H F A p.2 H' F' A' (fun _ => False) ((ka.pu && kb.pu) && kc.pu) → Q p.1 H' := by
    have e : ∀ ρ, truF (fun ρ => (fa ρ).bind fun p => (fb p.2).bind fun q => (optR (g p.1 q.1)).bind fun d =>
      if d then (fc q.2).bind fun r => (optR (g' q.1 r.1)).bind fun d' => .ok (D.bl d', r.2) else .ok (D.bl false, q.2)) ρ = ((fa ρ).bind fun p => (fb p.2).bind fun q => (optR (g p.1 q.1)).bind fun d => if d then (fc q.2).bind fun r => (optR (g' q.1 r.1)).bind fun d' => .ok (d', r.2) else .ok (false, q.2)) := by
      intro ρ
      show ((fa ρ).bind _).bind _ = (fa ρ).bind _
      cases fa ρ with
      | error e => rfl
      | ok p =>
        show ((fb p.2).bind _).bind _ = (fb p.2).bind _
        cases fb p.2 with
        | error e => rfl
        | ok q =>
          show ((optR (g p.1 q.1)).bind _).bind _ = (optR (g p.1 q.1)).bind _
          cases g p.1 q.1 with
          | none => rfl
          | some d =>
            cases d with
            | false => rfl
            | true =>
              show ((fc q.2).bind _).bind _ = (fc q.2).bind _
              cases fc q.2 with
              | error e => rfl
              | ok w =>
                show ((optR (g' q.1 w.1)).bind _).bind _ = (optR (g' q.1 w.1)).bind _
                cases g' q.1 w.1 <;> rfl
    rw [← e]; exact h
  exact
    tX.one (g := fun d1 ρ1 => (fb ρ1).bind fun q => (optR (g d1 q.1)).bind fun d => if d then (fc q.2).bind fun r => (optR (g' q.1 r.1)).bind fun d' => .ok (d', r.2) else .ok (false, q.2)) rp h fun x H1 F1 A1 d1 ρ1 B1 o1 k1 =>
    tX.one (g := fun d2 ρ2 => (optR (g d1 d2)).bind fun d => if d then (fc ρ2).bind fun r => (optR (g' d2 r.1)).bind fun d' => .ok (d', r.2) else .ok (false, ρ2)) o1.rep k1 fun y H2 F2 A2 d2 ρ2 B2 o2 k2 => by
      obtain ⟨d, e1, k3⟩ := Run.opt k2
      have t := o1.two o2 h1
      refine hr H2 F2 x y d1 d2 d _ _ t.mid.rep.sub t.o1 t.o2 e1 _ ⟨d, rfl, ?_⟩
      cases d with
      | false =>
        replace k3 : ∀ H' F' A', Mid c Γ σ ρ H F A ρ2 H' F' A' (fun _ => False) ((ka.pu && kb.pu) && kc.pu) → Q false H' := k3
        exact ⟨false, rfl, k3 _ _ _ (t.mid.weak (fun _ z => z.elim) fun z => (by simpa using z : (ka.pu = true ∧ kb.pu = true) ∧ kc.pu = true).1 |> fun w => by rw [w.1, w.2]; rfl)⟩
      | true =>
        replace k3 : Run c W σ H2 F2 (Own A2) ((fc ρ2).bind fun r => (optR (g' d2 r.1)).bind fun d' => .ok (d', r.2)) (fun p => ∀ H' F' A', Mid c Γ σ ρ H F A p.2 H' F' A' (fun _ => False) ((ka.pu && kb.pu) && kc.pu) → Q p.1 H') := k3
        exact tX.one (g := fun d3 ρ3 => (optR (g' d2 d3)).bind fun d' => .ok (d', ρ3)) o2.rep k3 fun w H3 F3 A3 d3 ρ3 B3 o3 k4 => by
          obtain ⟨d', e2, k5⟩ := Run.opt k4
          replace k5 : ∀ H' F' A', Mid c Γ σ ρ H F A ρ3 H' F' A' (fun _ => False) ((ka.pu && kb.pu) && kc.pu) → Q d' H' := k5
          exact hr' H3 F3 y w d2 d3 d' _ _ o3.rep.sub (o2.later o3.mid (.inl h2)) o3.ot e2 _ ⟨d', rfl, k5 _ _ _ ((t.mid.trans o3.mid).weak (fun _ z => z.elim) fun z => z)⟩
end
end Pz
end
section
set_option Elab.async false
set_option linter.all false
set_option maxRecDepth 100000
set_option maxHeartbeats 1000000
/-! An own error: made by its base's __init__, that says super().__init__(value); self.value = value. -/
namespace Pz
open PySem PySem.W PySem.Calls PyProof.Rows PySem.HandSPX

/-- the base's __init__ -/
def errBody (l : Nat) (p0 p1 p3 p5 q1 q2 q3 q4 : Pos) : List Stmt :=
  [.Expr (.Call (.Attribute (.Call (.Name "super" p0) [] [] p1) "__init__" ⟨l, 8, l, 24⟩) [.Name "value" p3] [] ⟨l, 8, l, 31⟩) p5,
   .Assign [.Attribute (.Name "self" q1) "value" q2] (.Name "value" q3) q4]
def errScope : Scope := { kind := .function, names := [("self", .local), ("value", .local), ("__class__", .free), ("super", .globalImplicit)], isGenerator := false, isCoroutine := false, more := [] }
def errArgs (a1 a2 : Pos) : Arguments := { posonlyargs := [], args := [{ arg := "self", annotation := none, pos := a1 }, { arg := "value", annotation := none, pos := a2 }], vararg := none, kwonlyargs := [], kw_defaults := [], kwarg := none, defaults := [] }

section
variable {prog : Program} {w : World} {A : Around} {E : Value → Shared → Prop} {h : Heap} {g : Array GenState} {d : Drawn} {t : Nat} {os : OsState}
variable {nm q : Str} {C N : Addr} {bs bm : List Value} {hdct : Bool} {sn : List Str} {sub : List Value} {ab : Bool} {col : Option Bool} {dd : Option Addr} {k0 k1 k2 k3 k5 : Option Value}
theorem call_mw {u e t0 : Addr} {rest : List Value} {Q : Value → Shared → Prop}
    (hC : h.get? C = some (excClassObj nm q C N bs bm hdct sn sub ab col dd k0 k1 k2 k3 k5 "ValueError.__new__")) (he : h.get? e = some (excO C t0)) (hu : h.get? u = some (kxs_mw "ValueError.__init__" e)) (hrest : rest.length ≤ sizeLine)
    (hq : ∀ h' t1, (∀ b o, b ≠ e → h.get? b = some o → h'.get? b = some o) → h'.get? e = some (excO C t1) → Q .none ⟨h', g, d, t, os⟩) :
    wpAny (model prog w) A (call (.ref u) rest) Q E ⟨h, g, d, t, os⟩ := by
  refine wpAny_call (codeAny_of_tree ?_)
  show wpAny _ A.in1 (callAny (.ref u) ⟨rest, []⟩) _ _ _
  simp only [callAny]
  refine wpAny_bind (wpAny_load hu ?_)
  simp only [kxs_mw, show (Value.type "method-wrapper" == Value.type "method" || Value.type "method-wrapper" == Value.type "builtin_function_or_method" || Value.type "method-wrapper" == Value.type "method-wrapper") = true by decide, if_true]
  refine W.KFB.if_so (by decide) ?_
  refine wpAny_bind (check_bound_init F.excBase_ValueError.toExcCallFacts hC he rfl ?_)
  refine wpAny_bind (wpAny_pure (wpAny_pure ?_))
  refine ⟨plainId_quiet F.excBase_ValueError.init.plain _, codeAny_builtin F.excBase_ValueError.initEntry ?_⟩
  rw [Around.under_plainId F.excBase_ValueError.init.plain _]
  wp_walk
  refine hq _ h.objs.size (fun b o hb ho => ?_) ?_
  · rw [Heap.get?_update_other _ _ (Ne.symm hb)]
    exact Heap.get?_push_of_some _ ho
  · rw [Heap.get?_update_self _ (Heap.get?_push_of_some _ he) rfl]
    rfl
end

/-- what the written part holds of the base of own errors: its class D, its __init__ f -/
structure ErrB (K : Frag) (prog : Program) (mg : Str → Option Value) (D f : Addr) : Prop where
  fn : ∃ oc od osl name qual kV doc pm an ct cda cc a1 a2 l p0 p1 p3 p5 q1 q2 q3 q4, (l = 5 ∨ l = 8) ∧ K.lookup f = some ⟨oc, od, .func (ksFn name qual (errArgs a1 a2) (errBody l p0 p1 p3 p5 q1 q2 q3 q4) errScope .none kV doc pm an (.ref cda) ct cc), osl⟩ ∧ codeIn K (.ref cda) qual = true ∧
    (∃ ccl cdd vs ccs file tf, K.lookup cda = some ⟨ccl, cdd, .fields vs, ccs⟩ ∧ vs[2]? = some (.str file tf) ∧ ((prog.main.file : Str) == file) = true) ∧
    ∃ cl cld csl, K.lookup cc = some ⟨cl, cld, .cell (some (.ref D)), csl⟩
  cls : ∃ cdD, clsIn K D = some cdD
  opq : nsIn K cStatics "thirdparty.any" = some none
  top : (prog.main.scope.names.lookup ("super" : Str)).isSome = false
  sup : mg "super" = none
/-- .. of an own error's class C -/
structure ErrC (K : Frag) (D f C : Addr) : Prop where
  oex : L2.OexC K C
  iC : findIn K (.ref C) "__init__" = some (some (.ref f))
  tI : typeIn K (.ref f) = some (.type "function")
  sup : ks_superIn K C D "__init__" = some (some (.builtin "ValueError.__init__"))
  mro : mroIn K C (.ref D) = some true
  ve : subIn K (.ref C) (.type "ValueError") = some true
  nov : findIn K (.ref C) "value" = some none

section
variable {prog : Program} {w : World} {A : Around} {K : Frag} {mg : Str → Option Value} {D f C : Addr} {R : Result → Shared → Prop}
theorem bind_init {name qual : Str} {a1 a2 : Pos} {body : List Stmt} {kV doc pm : Value} {an : Option Addr} {cdv ct : Value} {cc : Addr} (u v : Value) : bindArgs (ksFn name qual (errArgs a1 a2) body errScope .none kV doc pm an cdv ct cc) ⟨[u, v], []⟩ = pure [(("self" : Str), u), (("value" : Str), v)] := by kernel_rfl
theorem ev_init {l : Nat} (hl : l = 5 ∨ l = 8) (env : PySem.Env) (p0 p1 p3 : Pos) : ∃ pl : Sem Bool, eval (.Call (.Attribute (.Call (.Name "super" p0) [] [] p1) "__init__" ⟨l, 8, l, 24⟩) [.Name "value" p3] [] ⟨l, 8, l, 31⟩) env = (do
      let ov ← attributeBase (.Call (.Name "super" p0) [] [] p1) "__init__" env (eval (.Call (.Name "super" p0) [] [] p1) env)
      standAt (⟨l, 8, l, 24⟩ : Pos).atName
      let (f, first) ← holding [ov] (getMethod ov "__init__" pl)
      callWith ⟨l, 8, l, 31⟩ f first (backTo ⟨l, 8, l, 31⟩ (starEach [.Name "value" p3] env)) []) := by
  rcases hl with rfl | rfl <;> exact ⟨_, rfl⟩
/-- C's __init__(e, v) -/
theorem init_low {s : Shared} {e t0 : Addr} {v : Value} (B : ErrB K prog mg D f) (T : ErrC K D f C) (X : K.In s.heap) (hg : s.heap.Ns mainGlobals mg) (hb : ∃ mb, s.heap.Ns builtinsNs mb ∧ ∀ x : Str, x ≠ "__name__" → mb x = bootBuiltins x) (hn : s.heap.NoLimit)
    (he0 : K.lookup e = none) (he : s.heap.get? e = some (excO C t0)) (hroom : A.depth < recursionLimit)
    (hq : ∀ h' tk' t1 dx, (∀ b o, b ≠ e → s.heap.get? b = some o → h'.get? b = some o) → s.heap.objs.size ≤ dx → dx ≠ e → h'.get? e = some { cls := .ref C, dict := some dx, data := .fields #[.ref t1, .none, .none, .none, .bool false, .none] } →
      h'.Ns1 dx (fun y => if y = ("value" : Str) then some v else none) → R (.ok (.ret .none)) { s with heap := h', toks := tk' }) :
    codeAny (model prog w) A (.call (.ref f) ⟨[.ref e, v], []⟩) R s := by
  obtain ⟨oc, od, osl, name, qual, kV, doc, pm, an, ct, cda, cc, a1, a2, l, p0, p1, p3, p5, q1, q2, q3, q4, hl, hf, hcd, ⟨ccl, cdd, vs, ccs, file, tf, hcode, hvs, hfile⟩, cl, cld, csl, hcell⟩ := B.fn
  obtain ⟨cdD, hD⟩ := B.cls
  obtain ⟨nm, q, N, bs, bm, sn, sub, ab, col, dd, k0, k1, k2, k3, k5, hC, hbm⟩ := T.oex.cls
  have hcl : clsIn K C = some { name := nm, bases := bs, mro := .ref C :: bm, ns := N, qualname := q, hasDict := true, slotNames := sn, subclasses := sub, abstract := ab, collection := col, hasDel := false } := by unfold clsIn; rw [hC] <;> rfl
  refine ks_codeAny_call_defAt (fd := ksFn name qual (errArgs a1 a2) (errBody l p0 p1 p3 p5 q1 q2 q3 q4) errScope .none kV doc pm an (.ref cda) ct cc) (body := errBody l p0 p1 p3 p5 q1 q2 q3 q4) (binds := [("self", .ref e), ("value", v)]) hroom (X _ _ hf) rfl hn (codeRec_of X hcd) rfl
    (.of_eq (bind_init _ _)) (show ∀ x ∈ errScope.names, x.2 ≠ .cell by decide) (by intro y hy; rcases List.mem_cons.mp hy with rfl | hy; rfl; rcases List.mem_cons.mp hy with rfl | hy; rfl; cases hy) (fun h₁ hns hk₁ => ?_) rfl rfl rfl
  obtain ⟨oD, hD1, hD2⟩ : ∃ oD, s.heap.get? D = some oD ∧ oD.data = .cls cdD := by
    unfold clsIn at hD
    split at hD
    · rename_i c d cd' sl ho
      cases hD
      exact ⟨_, X _ _ ho, rfl⟩
    · cases hD
  generalize hL : s.heap.objs.size = L at hns
  have hlt : ∀ {b : Addr} {o : Obj}, s.heap.get? b = some o → b ≠ L := fun {b o} q => by rw [← hL]; exact Nat.ne_of_lt (Heap.lt_size q)
  have heL : e ≠ L := hlt he
  obtain ⟨hp, gn, dr, tk, os⟩ := s
  show _root_.PySem.wpAt (model prog w) (A.deeper (ksEnv qual errScope L f (.ref cda) cc)) (.func (errBody l p0 p1 p3 p5 q1 q2 q3 q4) (ksEnv qual errScope L f (.ref cda) cc)) (execs (errBody l p0 p1 p3 p5 q1 q2 q3 q4) (ksEnv qual errScope L f (.ref cda) cc)) _ _ _
  generalize hm0 : (fun x : Str => ([(("self" : Str), Value.ref e), (("value" : Str), v)] : List (Str × Value)).reverse.lookup x) = m0 at hns
  have mself : m0 "self" = some (.ref e) := by rw [← hm0]; rfl
  have mval : m0 "value" = some v := by rw [← hm0]; rfl
  -- super()
  obtain ⟨pl, hev⟩ := ev_init hl (ksEnv qual errScope L f (.ref cda) cc) p0 p1 p3
  refine ks_wpAt_execs_cons (ks_wpAt_Expr_any (ks_wpAt_MethodCall (pl := pl) ?_ hev) rfl rfl)
  refine ks_wpAt_super_base (env := ksEnv qual errScope L f (.ref cda) cc) (ar := { arg := "self", annotation := none, pos := a1 }) rfl rfl rfl rfl (hk₁ _ _ (X _ _ hf)) rfl rfl rfl (hk₁ _ _ (X _ _ hcode)) rfl hvs hfile B.top ?_
  obtain ⟨mb, hb1, hb2⟩ := hb
  refine ks_loadName_global rfl rfl (loadGlobal_builtin (env := ksEnv qual errScope L f (.ref cda) cc) (hg.keeps hk₁) B.sup (hb1.keeps hk₁) ((hb2 _ (by decide +kernel)).trans (by kernel_rfl)) ⟨rfl, ?_⟩)
  refine wpAny_loadName_free rfl rfl rfl ⟨_, hk₁ _ _ (X _ _ hcell), rfl⟩ ?_
  refine wpAny_loadName_local rfl rfl hns mself ?_
  refine ks_wpAny_isType_cls (hk₁ _ _ hD1) hD2 ⟨rfl, ?_⟩
  refine ks_wpAny_call_super (hk₁ _ _ hD1) hD2 (hk₁ _ _ he) rfl (fun c z => by cases z) (looks_mroIn (X.keeps hk₁) T.mro) (fun h2 e2 k2 => ?_)
  have k02 : ∀ b o, hp.get? b = some o → h2.get? b = some o := fun b o z => k2 b o (hk₁ b o z)
  have X2 := X.keeps k02
  -- .__init__
  have hsup := T.sup
  unfold ks_superIn at hsup
  rw [hcl] at hsup
  have I2 : InstAt h2 e (excO C t0) C none := ⟨k02 _ _ he, rfl, rfl, trivial⟩
  refine kxs_getMethod kxs_ValueError e2 (looks_opaque X2 B.opq) (l₀ := .ref C :: bm) ?_ rfl X2 hsup (I2.type.andThen (looks_subIn X2 T.ve)) (ks_ne X2 I2 hcl) rfl ?_
  · exact fun A Q E s k q => wpAny_bind ((looks_clsIn X2 hcl) A _ E s k (wpAny_pure q))
  have hns2 : h2.Ns L m0 := hns.keeps k2
  have kp : ∀ b o, h2.get? b = some o → (h2.push (kxs_mw "ValueError.__init__" e)).get? b = some o := fun b o z => Heap.get?_push_of_some _ z
  show wpAny _ _ (callWith ⟨l, 8, l, 31⟩ (.ref h2.objs.size) [] (backTo ⟨l, 8, l, 31⟩ (starEach [.Name "value" p3] (ksEnv qual errScope L f (.ref cda) cc))) []) _ _ _
  refine kxs_callWith (i := "ValueError.__init__") (x := e) rfl (evalArgs_plain (spliced_cons (wpAny_Name (wpAny_loadName_local rfl rfl (hns2.keeps kp) mval (spliced_nil ⟨?_, ?_⟩)) rfl)))
  · show (h2.push (kxs_mw "ValueError.__init__" e)).get? h2.objs.size = _
    exact Heap.get?_push_at rfl rfl
  refine call_mw (t0 := t0) (kp _ _ (k02 _ _ (X _ _ hC))) (kp _ _ (k02 _ _ he)) (Heap.get?_push_at rfl rfl) (by rw [sizeLine_eq]; simp) fun h3 t1 k3 he3 => ?_
  have k23 : ∀ b o, b ≠ e → h2.get? b = some o → h3.get? b = some o := fun b o n z => k3 b o n (kp b o z)
  have hns3 : h3.Ns L m0 := by
    obtain ⟨oL, es, ep, z, r⟩ := hns2
    exact ⟨oL, es, ep, k23 L oL (Ne.symm heL) z, r⟩
  have X3 : K.In h3 := fun b o z => k23 b o (fun y => by
    subst y
    have z' : K.lookup b = some o := z
    rw [he0] at z'; cases z') (X2 b o z)
  refine ks_wpAt_execs_cons (ks_wpAt_Assign_Attr (wpAt_of_wpAny (wpAny_Name (wpAny_loadName_local rfl rfl hns3 mval (wpAny_Name (wpAny_loadName_local rfl rfl hns3 mself ?_) rfl)) rfl)) rfl)
  refine set_plain X3 (ox := excO C t1) (od := none) ⟨he3, rfl, rfl, trivial⟩ T.oex.sa (exc_osa X3 he3 hcl (show refsVE (.ref C :: bm) = true from hbm) rfl T.nov fun h4 tk4 dx k4 dn dne hx hn4 => ?_)
  show _root_.PySem.wpAt _ _ _ (execs [] _) _ _ _
  refine wpAt_of_wpAny (wpAny_execs_nil ?_)
  exact hq h4 tk4 t1 dx (fun b o n z => k4 b o n (k23 b o n (k02 b o z))) (by
    obtain ⟨oL, es, ep, z, r⟩ := hns3
    have h1 : L < h3.objs.size := Heap.lt_size z
    have h2 : h3.objs.size ≤ dx := dn
    have h3 : hp.objs.size = L := hL
    show hp.objs.size ≤ dx
    omega) dne hx hn4
end
end Pz

namespace Pz
open PySem PySem.Spec PyProof.Rows L2
/-- C(e): an own error of one field -/
def tMkE (C : Addr) (te : TE) : Sl → Hp → XK → Prop := fun σ H Q => te σ H fun x H1 => ∃ v, [x] = [v] ∧ ∀ d, H1 d = none → Q (.ref C) (some d) (upd H1 d (.xd [("value", v)]))
theorem pmk_err {X : Cx} {x : Str} {C D f : Addr} {e : Expr} {te : TE} {p pos : Pos} (B : ErrB X.K X.prog X.mg D f) (T : ErrC X.K D f C) (hg : Gl X x) (hm : X.mg x = some (.ref C)) (hr : X.A.depth + 1 < recursionLimit) (ha : PE X e te)
    (hdb : (x == ("__debug__" : Str)) = false) (he : starEach [e] X.env = (false, eval e X.env) :: starEach [] X.env) (hpl : (backTo pos (starEach [] X.env)).any (·.1) = false) :
    PMk X (.Call (.Name x p) [e] [] pos) (tMkE C te) := by
  intro pins s σ H Q I h
  obtain ⟨nm, q, N, bs, bm, sn, sub, ab, col, dd, k0, k1, k2, k3, k5, hC, hbm⟩ := T.oex.cls
  refine wpAny_Call_Name_kw (ld_glob I hg hm ?_ hdb)
  have pa : PA X [e] (tCons te tNil) := pa_cons ha pa_nil he
  refine PySem.W.callWith_K (h₀ := X.base) I.ok.mod.kin T.oex.kC (thn (pa.run pos pins s σ H _ I (show tCons te tNil σ H (fun vs H1 => ∃ v, vs = [v] ∧ ∀ d, H1 d = none → Q (.ref C) (some d) (upd H1 d (.xd [("value", v)]))) from ?_)) fun us s1 ⟨vs, H1, I1, r1, v, ev, q1⟩ => ⟨I1.kIn, ?_⟩) he hpl
  · exact h
  show wpAny _ _ (call (.ref C) us) _ _ _
  subst ev
  cases r1 with
  | @cons _ u _ ur ru rr =>
  cases rr
  obtain ⟨hp, g, dr, tk, os⟩ := s1
  have hsz : hp.objs.size ≤ hp.objs.size + 1 := Nat.le_succ _
  have hn : H1 (hp.objs.size + 1) = none := I1.hok.fresh hsz
  generalize hh2 : (hp.push (PySem.W.kdv_tup [u])).push (PySem.HandSPX.excO C hp.objs.size) = hp2
  have kk : ∀ b o, hp.get? b = some o → hp2.get? b = some o := fun b o e => by rw [← hh2]; exact Heap.get?_push_of_some _ (Heap.get?_push_of_some _ e)
  have hget : hp2.get? (hp.objs.size + 1) = some (PySem.HandSPX.excO C hp.objs.size) := by rw [← hh2]; heap_get
  have I2 : Inv X pins σ (upd H1 (hp.objs.size + 1) (exo (hp.objs.size + 1) C none)) ⟨hp2, g, dr, tk, os⟩ :=
    I1.laid (t' := tk) (a := hp.objs.size + 1) (o := exo (hp.objs.size + 1) C none) (h' := hp2) kk hsz (exo_ok hget)
  have he0 : X.K.lookup (hp.objs.size + 1) = none := by
    cases z : X.K.lookup (hp.objs.size + 1) with
    | none => rfl
    | some o =>
      have : hp.objs.size + 1 < hp.objs.size := Heap.lt_size (I1.kIn _ _ z)
      exact absurd this (by omega)
  refine wpAny_call (PySem.HandSPX.call_own F.excBase_ValueError (fun Y => PySem.HandSPX.refsVE_contains Y bm hbm) (I1.kIn _ _ hC) (PySem.W.looks_findIn I1.kIn T.iC) (fun self => PySem.W.bind_fn I1.kIn self T.tI) (by rw [sizeLine_eq]; simp) ?_)
  rw [hh2]
  obtain ⟨mb, hb1, hb2⟩ := I2.mod.blt
  refine init_low (s := ⟨hp2, g, dr, tk, os⟩) B T I2.kIn (I2.mod.glob.keeps I2.bk) ⟨mb, hb1.keeps I2.bk, hb2⟩ I2.nolimit he0 hget (by rw [make_depth]; exact hr) fun h' tk' t1 dx k dn dne hx hnd => ?_
  generalize ha0 : hp.objs.size + 1 = a at *
  have e1 : upd H1 a (exo a C none) a = some (exo a C none) := upd_same
  have dn' : hp2.objs.size ≤ dx := dn
  have hnd2 : upd H1 a (exo a C none) dx = none := I2.hok.fresh dn'
  have hnd1 : H1 dx = none := by rw [upd_ne dne] at hnd2; exact hnd2
  have nd : ∀ {b : Addr} {o : Obj}, hp2.get? b = some o → b ≠ dx := fun {b o} q => Nat.ne_of_lt (Nat.lt_of_lt_of_le (Heap.lt_size q) dn')
  have na : ∀ {b : Addr}, upd H1 a (exo a C none) b = none → b ≠ a := fun {b} n z => by
    rw [z, e1] at n
    cases n
  generalize hH : upd H1 a (exo a C none) = Hs at *
  have Un1 : Un (frs X.stack) [] Hs (upd (upd Hs dx (exd dx [("value", v)])) a (exo a C (some dx))) hp2 h' := {
    keep := fun b o q n _ _ => k b o (na n) q
    slot := fun b o q n _ _ => ⟨o.slots, k b o (na n) q⟩
    free := fun b o q n _ => by rw [upd_ne (na n), upd_ne (nd q)]; exact n
    there := fun b o q _ => by
      by_cases hb : b = a
      · exact ⟨_, by rw [hb]; exact hx⟩
      · exact ⟨o, k b o hb q⟩
    tups := fun b xs q => by rw [upd_ne (at_ne e1 q exo_tup), upd_ne (ne_of_none q hnd2)]; exact q
    frzs := fun b o v q => by rw [upd_ne (at_ne e1 q exo_frz), upd_ne (ne_of_none q hnd2)]; exact q
    tbls := fun b ps q => ⟨#[], by rw [upd_ne (at_ne e1 q exo_tbl), upd_ne (ne_of_none q hnd2), q]; simp⟩ }
  have hok : HOk X.prog X.w (upd (upd Hs dx (exd dx [("value", v)])) a (exo a C (some dx))) h' := fun b o q => by
    by_cases hb : b = a
    · subst hb
      rw [upd_same] at q
      cases q
      exact exo_ok hx
    · rw [upd_ne hb] at q
      by_cases hd : b = dx
      · subst hd
        rw [upd_same] at q
        cases q
        exact exd_ok hnd (relO_put (fs := []) ru fun g => True.intro)
      · rw [upd_ne hd] at q
        exact (I2.hok b o q).stay (fun c v hc z => k c v (by
            rcases hc with hc | hc
            · rw [hc]
              exact hb
            · exact at_ne e1 hc exo_own) z)
          (fun c hc => by rw [upd_ne (at_ne e1 hc exo_own), upd_ne (ne_of_none hc hnd2)]; exact hc) (fun c xs hc => by rw [upd_ne (at_ne e1 hc exo_tup), upd_ne (ne_of_none hc hnd2)]; exact hc)
  refine ⟨rfl, ?_⟩
  have q2 := q1 dx hnd1
  refine mk_end (raises_own T.oex.exC T.oex.tyC) I1 hsz kk (by rw [hH]; exact Un1) hok rfl I1.bare upd_same (by rw [upd_ne dne]; exact upd_same) hnd1 ?_
  have eq : upd (del (upd (upd Hs dx (exd dx [("value", v)])) a (exo a C (some dx))) a) dx (.xd [("value", v)]) = upd H1 dx (.xd [("value", v)]) := by
    funext b
    by_cases hd : b = dx
    · rw [hd, upd_same, upd_same]
    · rw [upd_ne hd, upd_ne hd]
      by_cases hb : b = a
      · rw [hb, del_same]; exact hn.symm
      · rw [del_ne hb, upd_ne hb, upd_ne hd, ← hH, upd_ne hb]
  rw [eq]
  exact q2
end Pz
end
section
set_option Elab.async false
set_option linter.all false
set_option maxHeartbeats 1000000
/-! try: .. except X as e: caught = e. The exception outlives the suite: it is tracked from there on. -/
namespace Pz
open PySem PySem.Spec PyProof.Rows L2

theorem cao_ok {P : Program} {w : World} {H : Hp} {h : Heap} {a C dx : Addr} {oe : Obj} {vs : Array Value} (he : h.get? a = some oe) (hz : Zc (.ref C) (some dx) oe) (hd : oe.data = .fields vs) : ObjOk P w H h a (CaO a C dx) :=
  ⟨⟨oe, vs, he, hz, hd⟩, ⟨_, he⟩, fun h1 h2 ⟨o, v, e, z, d⟩ k => ⟨o, v, k _ e, z, d⟩⟩
theorem cao_at {P : Program} {w : World} {H : Hp} {h : Heap} {a C dx : Addr} (hok : HOk P w H h) (e : H a = some (CaO a C dx)) : ∃ oe vs, h.get? a = some oe ∧ Zc (.ref C) (some dx) oe ∧ oe.data = .fields vs := by
  have x : ObjOk P w H h a (.ext fun h => ∃ oe vs, h.get? a = some oe ∧ Zc (.ref C) (some dx) oe ∧ oe.data = .fields vs) := hok a _ e
  exact x.1
section
variable {X : Cx} {pins : List (Addr × Obj)} {σ : Sl} {H : Hp} {s : Shared} {a C dx : Addr} {oe : Obj} {vs : Array Value}
/-- a pinned exception is tracked from now on -/
theorem inv_adopt (I : Inv X ((a, oe) :: pins) σ H s) (hex : X.ex = []) (hn : X.s_0.heap.get? a = none) (hp : ∀ p ∈ X.pn ++ pins, p.1 ≠ a) (hz : Zc (.ref C) (some dx) oe) (hd : oe.data = .fields vs) : Inv X pins σ (upd H a (CaO a C dx)) s := by
  have ha : (a, oe) ∈ X.pn ++ (a, oe) :: pins := List.mem_append_right _ List.mem_cons_self
  obtain ⟨h1, h2, h3, h4, h5⟩ := I.pin _ ha
  have ne : ∀ {b : Addr} {u : HO}, H b = some u → b ≠ a := fun {b u} e z => by rw [z, show H a = none from h2] at e; cases e
  refine ⟨I.ok, I.os, I.bare, ⟨I.base.keep, I.base.slot, fun b o e n hx => ?_, I.base.there, fun b xs e => ?_, fun b o u e => ?_, fun b ps e => ?_⟩, I.loc, I.cell, ?_, fun x c e => ?_, fun p hp' => ?_, fun b u e => ?_, I.len⟩
  · by_cases hb : b = a
    · rw [hb, hn] at e; cases e
    · rw [upd_ne hb]; exact I.base.free b o e n hx
  · have := I.base.tups b xs e
    rw [upd_ne (ne this)]; exact this
  · have := I.base.frzs b o u e
    rw [upd_ne (ne this)]; exact this
  · obtain ⟨more, this⟩ := I.base.tbls b ps e
    exact ⟨more, by rw [upd_ne (ne this)]; exact this⟩
  · rw [upd_ne (Ne.symm h3)]; exact I.free
  · obtain ⟨v, ⟨o, hc, hv⟩⟩ := I.cell x c e
    have : c ≠ a := fun z => by
      subst z
      have e1 : s.heap.get? c = some oe := h1
      rw [e1] at hc; cases hc
      exact h5 _ hv
    rw [upd_ne this]; exact I.freeC x c e
  · have hm : p ∈ X.pn ++ (a, oe) :: pins := by
      rcases List.mem_append.mp hp' with z | z
      · exact List.mem_append_left _ z
      · exact List.mem_append_right _ (List.mem_cons_of_mem _ z)
    obtain ⟨g1, g2, g3⟩ := I.pin p hm
    exact ⟨g1, by rw [upd_ne (hp p hp')]; exact g2, g3⟩
  · by_cases hb : b = a
    · subst hb
      rw [upd_same] at e
      cases e
      exact cao_ok h1 hz hd
    · rw [upd_ne hb] at e
      exact (I.hok b u e).stay (fun c v _ z => z) (fun c z => by rw [upd_ne (ne z)]; exact z) fun c xs z => by rw [upd_ne (ne z)]; exact z
end
/-- what the clause wishes -/
def wKeep (K : PySem.W.Frag) (c : Value) (i j : Nat) (Wout : WX) (D : Ends) : WX := fun cls d σ H =>
  ∃ b, PySem.W.exmOne K cls c = some b ∧ (b = true → ∃ C dx, cls = .ref C ∧ d = some dx ∧ ∀ a, H a = none → D.nx ((σ.set j (some (.ref a))).set i none) (upd H a (CaO a C dx))) ∧ (b = false → Wout cls d σ H)
section
variable {X : Cx} {x n m : Str} {c : Value} {i j : Nat} {body : List Stmt} {np np2 mp ap pos pos' : Pos} {tb : WX → TS} {Wout : WX}
theorem ps_try_keep (hs : X.stack = X.env :: X.outer) (hf : X.env.frame = some X.env.locals) (hex : X.ex = []) (hN : X.N.Nodup) (hi : X.N[i]? = some n) (hln : X.env.kindOf n = some .local) (hj : X.N[j]? = some m) (hlm : X.env.kindOf m = some .local) (hij : i ≠ j)
    (hd : (n == ("__debug__" : Str)) = false) (hcd : (n == ("__classdict__" : Str)) = false) (hil : i < X.N.length) (hc : Names X x c) (tk : Takes X Wout)
    (hb : ∀ (W : WX) (pn : List (Addr × Obj)) (xe : Value → Shared → Prop), Takes (X.tr pn xe) W → PassesOwn (model X.prog X.w) X.A X.env xe → PSs (X.tr pn xe) body (tb W)) :
    PS X (.Try body [.ExceptHandler (some (.Name x np)) (some n) [.Assign [.Name m mp] (.Name n np2) ap] pos'] [] [] pos) (fun D σ H => tb (wKeep X.K c i j Wout D) D σ H) := by
  refine ⟨fun pins s σ H D I h => ?_⟩
  have ok := I.ok
  have hfr : X.A.frames = some (X.env :: X.outer) := by rw [ok.frames, hs]
  have hloc : Loc X.env.scope n := .inl hln
  refine wpAny_Try_except ?_
  refine wpAny_mono ((hb (wKeep X.K c i j Wout D) (X.pn ++ pins) (fun e s₁ => wpAny (model X.prog X.w) X.A (noteFrame e X.env) (fun _ s₂ => wpAny (model X.prog X.w) X.A (setFlight e none) (fun _ s₃ =>
    wpAny (model X.prog X.w) X.A (handleBy e X.env [.ExceptHandler (some (.Name x np)) (some n) [.Assign [.Name m mp] (.Name n np2) ap] pos']) (SP X pins D) X.xe s₃) X.xe s₂) X.xe s₁) (fun u s' xx => ?_) PassesOwn.looking).run [] s σ H D (I.toTry _) h) (fun f s1 hsp => ?_) (fun e s1 he => he)
  · -- the catch
    obtain ⟨a, B, sI, pins', σ', H', cls, d, rfl, J', nb, up, sky, na, os, ag, b, hb1, hyes, hno⟩ := xx
    have J : Inv X pins σ' H' sI := J'.ofTry ok
    have sky' : Sky B (X.env :: X.outer) a (Zc cls d) X.env.locals s'.heap := by rw [← hs]; exact sky
    have Ba : B.get? a = none := by
      rcases sky' with z | z | z
      · exact z.2.1
      · exact z.2.1
      · exact z.2.1
    show wpAny (model X.prog X.w) X.A (noteFrame (.ref a) X.env) _ _ _
    refine Sky.land Zc.steady hfr hf sky' fun h3 fl3 up3 => ?_
    have J3 : Inv X pins σ' H' { s' with heap := h3 } := J.landed nb fl3.1 (up.trans up3) os ag
    obtain ⟨oe3, vs3, he3, hz3, hd3⟩ := fl3.there
    have notFr : ∀ {h : Heap} {o : Obj} {vs : Array Value}, h.FunFrames B (X.env :: X.outer) → h.get? a = some o → o.data = .fields vs → a ∉ frs (X.env :: X.outer) := fun {h o vs} ff e dd hm => by
      obtain ⟨_, o', e', hnf⟩ := ff.mem hm
      rw [e] at e'; cases e'
      exact hnf _ dd
    have nfr := notFr fl3.2.2.1 he3 hd3
    have nL : a ≠ X.env.locals := fun z => nfr (List.mem_filterMap.mpr ⟨X.env, List.mem_cons_self, by rw [hf, z]⟩)
    have nF : a ∉ X.fs := fun hm => by
      obtain ⟨e, he, q⟩ := List.mem_filterMap.mp hm
      exact nfr (List.mem_filterMap.mpr ⟨e, List.mem_cons_of_mem _ he, q⟩)
    have nI : sI.heap.get? a = none := by
      cases z : sI.heap.get? a with
      | none => rfl
      | some o =>
        have := nb a o z (by rw [hs]; exact nfr)
        rw [Ba] at this; cases this
    have n0 : X.s_0.heap.get? a = none := by
      cases z : X.s_0.heap.get? a with
      | none => rfl
      | some o =>
        obtain ⟨o', this⟩ := J.base.there a o z (by rw [hex]; simp)
        rw [nI] at this; cases this
    have npin : ∀ p ∈ X.pn ++ pins, p.1 ≠ a := fun p hp z => by
      have := (J.pin p hp).1
      rw [z, nI] at this; cases this
    have S3 := J3.suite he3 hd3 na nL nF
    refine wpAny_handleBy_cons (codeAny_handlers_test ?_) (by intro q; cases q)
    have LT : PySem.W.Looks (model X.prog X.w) h3 (typeOf (.ref a)) cls := fun A Q E s k q => wpAny_typeOf_ref (k _ _ he3) (by rw [hz3.1]; exact q)
    have LM := PySem.W.exm_one (M := model X.prog X.w) (J3.kIn) LT hb1
    have test : ∀ {Q : Value → Shared → Prop} {E : Value → Shared → Prop}, Q c { s' with heap := h3 } → wpAny (model X.prog X.w) (X.A.mark (some (.ref a))) (eval (.Name x np) X.env) Q E { s' with heap := h3 } := fun {Q E} q => by
      obtain ⟨hg, hdbg, hm | ⟨hm, hv, hnn⟩⟩ := hc
      · exact ld_glob (X := X.suite a ((a, oe3) :: (X.pn ++ pins))) S3 hg hm q hdbg
      · exact ld_blt (X := X.suite a ((a, oe3) :: (X.pn ++ pins))) S3 hg hm hv q hnn hdbg
    refine test (LM.here ?_)
    cases b with
    | true =>
      obtain ⟨C, dx, rfl, rfl, hyes2⟩ := hyes rfl
      refine codeAny_handlers_suite_as ?_
      refine HandSPX.lands_againZ fl3 fun h4 fl4 up4 => ?_
      have J4 : Inv X pins σ' H' { s' with heap := h4 } := J.landed nb fl4.1 ((up.trans up3).trans up4) os ag
      obtain ⟨oe4, vs4, he4, hz4, hd4⟩ := fl4.there
      have S4 := J4.suite he4 hd4 na nL nF
      refine store_ok (X := X.suite a ((a, oe4) :: (X.pn ++ pins))) (v := .ref a) S4 hN hi hloc rfl (fun s5 S5 => ?_) (.inr hln)
      have lil : i < σ'.length := by rw [J.len]; exact hil
      -- caught = error
      refine wpAny_execs_cons (wpAny_mono ((ps_set (X := X.suite a ((a, oe4) :: (X.pn ++ pins))) (te := tVar i) hN hj (.inl hlm) (pe_var hi (.inl hln) hd hcd) rfl (.inr hlm)).run [] s5 _ H' { nx := fun σ6 H6 => σ6 = (σ'.set i (some (.ref a))).set j (some (.ref a)) ∧ H6 = H', rt := fun _ _ => False, bk := fun _ _ => False, ct := fun _ _ => False } S5 ⟨.ref a, List.getElem?_set_self lil, rfl, rfl⟩) (fun f s6 hsp => ?_) (fun _ _ z => False.elim z))
      cases f with
      | next =>
        obtain ⟨σ6, H6, S6, e1, e2⟩ := hsp
        rw [e1, e2] at S6
        have S7 : L2.Inv X ((a, oe4) :: pins) ((σ'.set i (some (.ref a))).set j (some (.ref a))) H' s6 :=
          ⟨ok, S6.os, S6.bare, S6.base, S6.loc, S6.cell, S6.free, S6.freeC, fun p hp => S6.pin p (by
            rw [List.append_nil]
            rcases List.mem_append.mp hp with z | z
            · exact List.mem_cons_of_mem _ (List.mem_append_left _ z)
            · rcases List.mem_cons.mp z with z | z
              · rw [z]; exact List.mem_cons_self
              · exact List.mem_cons_of_mem _ (List.mem_append_right _ z)), S6.hok, S6.len⟩
        show wpAny _ _ (execs [] X.env) _ _ _
        refine wpAny_execs_nil (gone_ok S7 hN hi hln fun s7 J7 => ?_)
        have e : (((σ'.set i (some (V.ref a))).set j (some (.ref a))).set i none) = (σ'.set j (some (.ref a))).set i none := by
          rw [List.set_comm _ _ (Ne.symm hij), List.set_set, List.set_comm _ _ hij]
        rw [e] at J7
        exact ⟨_, _, inv_adopt J7 hex n0 npin hz4 hd4, hyes2 a na⟩
      | brk => obtain ⟨_, _, _, z⟩ := hsp; exact z.elim
      | cont => obtain ⟨_, _, _, z⟩ := hsp; exact z.elim
      | ret u => obtain ⟨_, _, _, _, _, z⟩ := hsp; exact z.elim
    | false =>
      show wpAny _ X.A (handleBy (.ref a) X.env []) _ _ _
      refine wpAny_handleBy_nil ?_
      obtain ⟨k1, k2, k3, oe, vs, T, oT, ts', he, hz, hd, h1, hr⟩ := id fl3
      unfold PySem.passOn
      refine wpAny_bind (wpAny_field he hd h1 ?_)
      rw [if_neg (show ¬ ((Value.ref T == Value.none) = true) from by simp)]
      have fin : wpAny (model X.prog X.w) X.A (setFlight (.ref a) X.env.frame) (fun _ s4 => wpAny (model X.prog X.w) X.A (throw (.ref a) : Sem Flow) (SP X pins D) X.xe s4) X.xe { s' with heap := h3 } := by
        rw [hf]
        refine HandSPX.setFlight_upZ fl3 fun h4 hh4 up4 => wpAny_throw (tk _ _ ?_)
        exact ⟨a, B, sI, pins, σ', H', cls, d, rfl, J, nb, (up.trans up3).trans up4, .inr (.inr (by rw [hs]; exact hh4)), na, os, ag, hno rfl⟩
      first
        | exact wpAny_bind (wpAny_pure (wpAny_bind fin))
        | exact wpAny_bind fin
  · cases f with
    | next =>
      obtain ⟨σ', H', J', q⟩ := hsp
      exact wpAny_execs_nil ⟨σ', H', J'.ofTry ok, q⟩
    | brk =>
      obtain ⟨σ', H', J', q⟩ := hsp
      exact ⟨σ', H', J'.ofTry ok, q⟩
    | cont =>
      obtain ⟨σ', H', J', q⟩ := hsp
      exact ⟨σ', H', J'.ofTry ok, q⟩
    | ret u =>
      obtain ⟨v, σ', H', J', r, q⟩ := hsp
      exact ⟨v, σ', H', J'.ofTry ok, r, q⟩
end
end Pz
end
section
set_option Elab.async false
set_option linter.all false
/-! A caught error: isinstance, its field. -/
namespace Pz
open PySem PySem.Spec PyProof.Rows L2

/-- what K tells of an own error's class, for its instances -/
structure XCl (K : PySem.W.Frag) (C : Addr) : Prop where
  xf : XfC K C
  nov : PySem.W.findIn K (.ref C) "value" = some none
  hcl : (PySem.W.clsIn K C).isSome = true
  ha : PySem.W.findIn K (.ref C) "__class__" = some (some (.builtin "object.__class__"))
  hn : PySem.W.specialIn K (.builtin "object.__class__") "__get__" = some (some (.builtin "getset_descriptor.__get__"))
  ht : PySem.W.takesIn K (.builtin "object.__class__") = some true
  hm : PySem.W.mroIn K C (.type "object") = some true
theorem RD.exc_eq {X : Tx} {F : Hp} {v : V} {k : Nat} {fs : List D} (h : RD X F v (.exc k fs)) : ∃ (a C dx : Addr) (w : V) (d : D), v = .ref a ∧ fs = [d] ∧ X.ca k = some C ∧ F a = some (CaO a C dx) ∧ F dx = some (.xd [("value", w)]) ∧ RD X F w d := by
  cases h with | exc e1 e2 e3 r => exact ⟨_, _, _, _, _, rfl, rfl, e1, e2, e3, r⟩
section
variable {X : Cx} {pins : List (Addr × Obj)} {σ : Sl} {H : Hp} {s : Shared} {a C dx : Addr} {fs : List (Str × V)}
theorem exc_inst (I : L2.Inv X pins σ H s) (h : H a = some (CaO a C dx)) (hd : H dx = some (.xd fs)) : ∃ oe od, PySem.W.InstAt s.heap a oe C (some od) ∧ s.heap.get? dx = some od := by
  obtain ⟨oe, vs, e1, e2, e3⟩ := cao_at I.hok h
  have hx : ObjOk X.prog X.w H s.heap dx (.xd fs) := I.hok dx _ hd
  obtain ⟨mA, ⟨od, es, ep, ho, _⟩, _⟩ := hx
  exact ⟨oe, od, ⟨e1, e2.1, by unfold PySem.W.notCls; rw [e3] <;> rfl, by rw [e2.2]; exact ho⟩, ho⟩
/-- isinstance(e, c) -/
def rIsC (K : PySem.W.Frag) : List V → Hp → VK → Prop := fun xs H Q => ∃ (a C dx : Addr) (fs : List (Str × V)) (c : V) (u : Value) (b : Bool), xs = [.ref a, c] ∧ H a = some (CaO a C dx) ∧ H dx = some (.xd fs) ∧ ClsV c u ∧ XCl K C ∧ PySem.W.kitOne K (.ref C) u = some b ∧ Q (.bl b) H
theorem call_isC : CallR X (.builtin "isinstance") (rIsC X.K) := by
  intro pins s σ H xs us Q I r h
  obtain ⟨a, C, dx, fs, c, u, b, rfl, h1, h2, k, T, e, q⟩ := h
  obtain ⟨u1, u2, rfl, r1, r2⟩ := vals2 r
  have e2 := k.eq r2
  subst e2
  obtain rfl : u1 = Value.ref a := r1
  obtain ⟨oe, od, J, _⟩ := exc_inst I h1 h2
  exact PySem.W.kia_one (PySem.W.kitx_exc (ox := oe) (od := some od) T.hcl T.xf.ga T.xf.gg T.xf.exC T.ha T.hn T.ht T.hm) I.kIn J e (fun z => nomatch z) fun tk => ⟨.bl b, H, I.tok tk, rfl, q⟩
/-- e.value -/
def tXv (K : PySem.W.Frag) (te : TE) : TE := fun σ H Q => te σ H fun x H1 => ∃ (a C dx : Addr) (v : V), x = .ref a ∧ H1 a = some (CaO a C dx) ∧ H1 dx = some (.xd [("value", v)]) ∧ XCl K C ∧ Q v H1
theorem pe_xv {e : Expr} {te : TE} {pos : Pos} (he : PE X e te) (hb : attributeBase e "value" X.env (eval e X.env) = eval e X.env) : PE X (.Attribute e "value" pos) (tXv X.K te) := by
  refine ⟨fun pins s σ H Q I h => ?_⟩
  refine attr_of hb (thn (he.run pins s σ H _ I h) fun u s1 hh => ?_)
  obtain ⟨x, H1, I1, rx, a, C, dx, v, ex, h1, h2, T, q⟩ := hh
  subst ex
  obtain rfl : u = Value.ref a := rx
  obtain ⟨oe, od, J, hod⟩ := exc_inst I1 h1 h2
  have hx : ObjOk X.prog X.w H1 s1.heap dx (.xd [("value", v)]) := I1.hok dx _ h2
  obtain ⟨mA, hns, hr⟩ := hx
  obtain ⟨od2, ho, hl⟩ := lookIn_ns hns
  rw [hod] at ho
  cases ho
  obtain ⟨u, hu, ru⟩ := RelO.some_of (v := v) (o := mA "value") (hr "value")
  exact HandSPX.exc_get I1.kIn J T.xf.ga T.xf.gg T.xf.exC (PySem.W.findObj_own T.xf.hdC T.nov rfl (by rw [hl, hu])) (handed_of ru) ⟨v, H1, I1.tok _, ru, q⟩
end
section
variable {c : Cf} {W : WX} {Γ : List Nat} {Y : Cx} {e a b : Expr} {es : List Expr} {pos p0 p1 p2 : Pos} {k ka kb kc : Kd} {fa fb fc : Env → R (D × Env)} {x : Str}
/-- isinstance(a, C), C an own class: k -/
theorem sx_isiC {j : Nat} {C2 : Addr} (cx : Ctx c W Y) (hg : Gl Y "isinstance") (hm : Y.mg "isinstance" = none) (hg2 : Gl Y x) (hm2 : Y.mg x = some (.ref C2)) (hd : (x == ("__debug__" : Str)) = false)
    (hX : ∀ k C, c.X.ca k = some C → XCl Y.K C ∧ PySem.W.kitOne Y.K (.ref C) (.ref C2) = some (j == 0 || j == k)) (hP : ∀ d, tyOk d = true → PySem.W.kitOne Y.K (.type (tnD d)) (.ref C2) = some false)
    (ha : SX c W Γ ka Y a fa) (hs : noStar a = true) :
    SX c W Γ (kA ka.pu) Y (.Call (.Name "isinstance" p0) [a, .Name x p1] [] pos) (fun ρ => (fa ρ).bind fun p => (optR (isTs p.1 [.cls j])).bind fun b => .ok (.bl b, p.2)) :=
  PE.imp (pe_callB (call_isi.or call_isC) hg hm PyProof.Rows.boot_isinstance (pa_cons ha (pa_cons (pe_glob (v := .ref C2) hg2 hm2 rfl hd) pa_nil (star_cons rfl)) (star_cons hs)) (by decide) (by decide) (star_cons hs) (star_any rfl)) fun σ H Q ⟨F, A, ρ, rp, h⟩ =>
    tX.one (g := fun d ρ1 => (optR (isTs d [.cls j])).bind fun b => .ok (D.bl b, ρ1)) rp h fun v H1 F1 A1 d ρ1 B o h1 => by
      obtain ⟨b, e', h2⟩ := Run.opt h1
      replace h2 : Ends' c Γ (kA ka.pu) σ ρ H F A Q (.bl b, ρ1) := h2
      have hq := h2 _ _ _ _ _ (o.mid.val (.bl b) (fun z => z) (.inr rfl))
      have rd := o.ot.read o.rep.sub
      have plain : tyOk d = true → b = false → rIsi Y.K [v, .ref C2] H1 Q := fun h0 hb => by
        subst hb
        refine ⟨v, .ref C2, .type (tnD d), .ref C2, false, rfl, .own _, ?_, hP d h0, hq⟩
        rw [cx.K]; exact rd.ty h0
      cases d with
      | exc k fs =>
        obtain ⟨a', C, dx, w, dd, rfl, rfl, k1, k2, k3, _⟩ := rd.exc_eq
        have e2 : (j == 0 || j == k) = b := Option.some.inj e'
        obtain ⟨x1, x2⟩ := hX k C k1
        exact .inr ⟨a', C, dx, _, .ref C2, .ref C2, b, rfl, k2, k3, .own _, x1, by rw [← e2]; exact x2, hq⟩
      | non => exact .inl (plain rfl (Option.some.inj e').symm)
      | bl _ => exact .inl (plain rfl (Option.some.inj e').symm)
      | int _ => exact .inl (plain rfl (Option.some.inj e').symm)
      | str _ => exact .inl (plain rfl (Option.some.inj e').symm)
      | lst _ => exact .inl (plain rfl (Option.some.inj e').symm)
      | tup _ => exact .inl (plain rfl (Option.some.inj e').symm)
      | dic _ _ => exact .inl (plain rfl (Option.some.inj e').symm)
      | set _ => cases e'
      | fn _ => cases e'
/-- e.value -/
theorem sx_attr (cx : Ctx c W Y) (hX : ∀ k C, c.X.ca k = some C → XCl Y.K C) (ha : SX c W Γ ka Y a fa) (hb : attributeBase a "value" Y.env (eval a Y.env) = eval a Y.env) (hl : ka.own = true) :
    SX c W Γ ⟨true, ka.pu, 0⟩ Y (.Attribute a "value" pos) (fun ρ => (fa ρ).bind fun p => (optR (attrD 0 p.1)).bind fun d => .ok (d, p.2)) :=
  PE.imp (pe_xv (sx_low ha hl (Nat.zero_le _)) hb) fun σ H Q ⟨F, A, ρ, rp, h⟩ =>
    tX.one (g := fun d ρ1 => (optR (attrD 0 d)).bind fun d => .ok (d, ρ1)) rp h fun v H1 F1 A1 d ρ1 B o h1 => by
      obtain ⟨d', e', h2⟩ := Run.opt h1
      replace h2 : Ends' c Γ ⟨true, ka.pu, 0⟩ σ ρ H F A Q (d', ρ1) := h2
      cases d <;> first | (cases e'; done) | skip
      obtain ⟨a', C, dx, w, dd, rfl, rfl, k1, k2, k3, rw'⟩ := o.ot.2.exc_eq
      cases e'
      exact ⟨a', C, dx, w, rfl, o.rep.sub _ _ k2, o.rep.sub _ _ k3, hX _ C k1, h2 w _ _ _ _ (o.mid.val rw' (fun z => z) (.inl rfl))⟩
end
/-- the own errors' classes: their names and numbers -/
structure ErrT (c : Cf) (P : Program) (mg : Str → Option Value) (ex : List (Str × Nat)) : Prop where
  nm : ∀ x k, (x, k) ∈ ex → ∃ C, c.X.ca k = some C ∧ mg x = some (.ref C)
  base : ∀ k C, c.X.ca k = some C → ∃ D f, ErrB c.X.K P mg D f ∧ ErrC c.X.K D f C
  xc : ∀ k C, c.X.ca k = some C → XCl c.X.K C
  rel : ∀ k C j C2, c.X.ca k = some C → c.X.ca j = some C2 → PySem.W.kitOne c.X.K (.ref C) (.ref C2) = some (j == 0 || j == k) ∧ PySem.W.exmOne c.X.K (.ref C) (.ref C2) = some (j == 0 || j == k)
  pl : ∀ j C2 d, c.X.ca j = some C2 → tyOk d = true → PySem.W.kitOne c.X.K (.type (tnD d)) (.ref C2) = some false
end Pz
end
section
set_option Elab.async false
set_option linter.all false
/-! Defs as values, and their calls. -/
namespace Pz
open PySem PySem.Spec PyProof.Rows L2

/-- f(e, ..), f a local name -/
theorem pe_callLG {Y : Cx} {cx : CXT} {E : Sl → XK} {x : Str} {i : Nat} {p pos : Pos} {e : Expr} {es : List Expr} {t : TA} (hN : Y.N[i]? = some x) (hv : Vis Y.env.scope x) (hx : ∀ σ, PassesAt cx Y σ (E σ)) (ha : PA Y (e :: es) t) (hd : (x == ("__debug__" : Str)) = false) (hcd : (x == ("__classdict__" : Str)) = false)
    (he : starEach (e :: es) Y.env = (false, eval e Y.env) :: starEach es Y.env) (hp : (backTo pos (starEach es Y.env)).any (·.1) = false) :
    PE Y (.Call (.Name x p) (e :: es) [] pos) (fun σ H Q => ∃ ad k fd ps sp, σ[i]? = some (some (.ref ad)) ∧ FnG Y.prog Y.w Y.K Y.mg Y.base cx k ad fd ps sp ∧ RoomG k Y.A ∧ PySem.W.keepIn Y.K (.ref ad) = true ∧ Binds Y.K fd ps [] ∧ t σ H fun vs H1 => sp vs H1 Q (E σ)) := by
  constructor
  intro pins s σ H Q I ⟨ad, k, fd, ps, sp, hs, F, rm, hk, hb, h⟩
  refine wpAny_Call_Name_kw (thn ((pe_var (pos := p) hN hv hd hcd).run pins s σ H (fun v H1 => v = .ref ad ∧ H1 = H) I ⟨.ref ad, hs, rfl, rfl⟩) fun u s1 ⟨v, H1, I1, r1, q1⟩ => ?_)
  obtain ⟨rfl, rfl⟩ := q1
  cases r1
  apply PySem.W.callWith_K (h₀ := Y.base) I.ok.mod.kin hk _ he hp
  refine thn (ha.run pos pins s1 σ _ _ I1 h) fun us s1 ⟨vs, H1, I1, rl, z⟩ => ⟨I1.kIn, wpAny_call (codeAny_mono (run_g F rm (us := us) (vs := vs) ?_ (hx σ) I1 rl z) fun r s2 q => ?_)⟩
  · have := hb s1 us I1.kIn (by rw [List.append_nil, ← rl.length]; exact F.len _ _ _ _ z)
    rw [List.append_nil] at this
    exact this
  · match r, q with
    | .error e, q => exact q
    | .ok (.ret u), q => exact q
    | .ok .next, q => exact q.elim
    | .ok .brk, q => exact q.elim
    | .ok .cont, q => exact q.elim
/-- the defs that are values -/
structure FvAt (c : Cf) (Y : Cx) (call : Nat → List D → R (D × List D)) : Prop where
  ex : ∀ f ad, c.X.fa f = some ad → ∃ k fd ps np sg, FnG Y.prog Y.w Y.K Y.mg Y.base (L2.CX Y.prog Y.w) k ad fd ps (spF c np [] sg (call f)) ∧ RoomG k Y.A ∧ PySem.W.keepIn Y.K (.ref ad) = true ∧ Binds Y.K fd ps [] ∧ (∀ i, sg.pl.getD i 0 = 0) ∧ ∀ ds, ds.length ≠ np → call f ds = bad
theorem RD.fn_eq {X : Tx} {F : Hp} {v : V} {f : Nat} (h : RD X F v (.fn f)) : ∃ a, v = .ref a ∧ X.fa f = some a := by
  cases h with | fn e => exact ⟨_, rfl, e⟩
section
variable {c : Cf} {W : WX} {Γ : List Nat} {Y : Cx} {e : Expr} {es : List Expr} {pos p0 : Pos} {fs : Env → R (List D × Env)} {ls : List (Option Nat)} {pu : Bool} {x : Str} {i : Nat} {call : Nat → List D → R (D × List D)}
theorem sx_fnv {f : Nat} {a : Addr} (hg : Gl Y x) (hm : Y.mg x = some (.ref a)) (hf : c.X.fa f = some a) (hd : (x == ("__debug__" : Str)) = false) : SX c W Γ (kA true) Y (.Name x pos) (fun ρ => .ok (.fn f, ρ)) :=
  sx_const (pe_glob (v := .ref a) hg hm rfl hd) (fun _ => .fn hf) rfl
theorem sx_callv (cx : Ctx c W Y) (fv : FvAt c Y call) (hN : Y.N[i]? = some x) (hv : Vis Y.env.scope x) (hd : (x == ("__debug__" : Str)) = false) (hcd : (x == ("__classdict__" : Str)) = false) (ha : SA c W Γ ls pu Y (e :: es) fs) (hn : allN ls = true)
    (hs : starEach (e :: es) Y.env = (false, eval e Y.env) :: starEach es Y.env) (hs2 : (backTo pos (starEach es Y.env)).any (·.1) = false) :
    SX c W Γ ⟨true, pu, 0⟩ Y (.Call (.Name x p0) (e :: es) [] pos) (fun ρ => (optR ((gt ρ i).bind fnO)).bind fun f => (fs ρ).bind fun p => (call f p.1).bind fun r => .ok (r.1, p.2)) := by
  refine PE.imp (pe_callLG (E := WE W) hN hv (fun σ => passAt cx.tk σ) ha hd hcd hs hs2) fun σ H Q ⟨F, A, ρ, r, h⟩ => ?_
  obtain ⟨f, ef, h⟩ := Run.opt h
  obtain ⟨g, eg, ef⟩ := Option.bind_eq_some_iff.mp ef
  obtain ⟨vg, evg, og⟩ := r.val i g (gt_ok eg)
  have eg' : g = .fn f := by cases g <;> first | (cases ef; done) | (cases ef; rfl)
  subst eg'
  obtain ⟨ad, rfl, hfa⟩ := (og.rd_of_atom rfl).fn_eq
  obtain ⟨k, fd, ps, np, sg, F0, hr, hk, hb, hp, hlen⟩ := fv.ex f ad hfa
  refine ⟨ad, k, fd, ps, _, evg, F0, hr, hk, hb, tF.one (g := fun ds ρ1 => (call f ds).bind fun r => .ok (r.1, ρ1)) r h fun vs H1 F1 A1 ds ρ1 m ap h1 => ?_⟩
  obtain ⟨qs, e1, e2, e3⟩ := ap.ps hn
  have ld : ds.length = np := by
    by_cases hl : ds.length = np
    · exact hl
    · rw [hlen ds hl] at h1; exact False.elim h1
  have lv : vs.length = np := ap.len.1.trans (ap.len.2.symm.trans ld)
  refine ⟨F1, fun _ => [], ds, lv, ld, ⟨m.rep.sub, by rw [List.length_map, List.length_map, lv, ld], fun i d hi => ?_, fun _ _ => rfl, fun _ => List.nodup_nil, fun _ _ _ _ z => absurd z (by simp)⟩, ?_⟩
  · have hi := map_some_get hi
    have hln : ls[i]? = some none := by
      have hlt : i < ls.length := by rw [← ap.len.2]; exact (List.getElem?_eq_some_iff.mp hi).1
      rw [List.getElem?_eq_getElem hlt]
      have := (List.all_eq_true.mp hn) ls[i] (List.getElem_mem hlt)
      cases e : ls[i] with
      | none => rfl
      | some z => rw [e] at this; cases this
    obtain ⟨v, ev, rv⟩ := ap.get0 hln hi
    exact ⟨v, map_some_of ev, by rw [hp]; exact ⟨rfl, rv⟩⟩
  · refine Run.imp (Run.shift h1.bind (Q := Own fun _ => []) fun a ⟨_, z⟩ => absurd z (by simp)) fun q _ hq v H' F' A' B hlen r' n' o nd dj => ?_
    replace hq : Ends' c Γ ⟨true, pu, 0⟩ σ ρ H F A Q (q.1, ρ1) := hq
    have nf : Nxt H1 F1 (fun _ => False) H' F' (fun a => a ∈ B) := n'.weak (fun a ⟨_, z⟩ => absurd z (by simp)) fun a z => .inl (.inr z)
    have n1 : Nxt H1 F1 (Own A1) H' F' (fun a => Own A1 a ∨ a ∈ B) := (nf.beside (B := Own A1)).weak (fun a z => z.elim False.elim fun z => z) fun a z => .inl (z.elim .inr .inl)
    have hB : ∀ a ∈ B, H1 a = none := fun a ha => (nf.own a ha).elim False.elim fun z => z
    have oo : Out c Γ ⟨true, pu, sg.rl⟩ σ ρ H F A ρ1 H' F' A1 v q.1 B := ⟨⟨m.rep.step nf r'.sub fun _ _ z => z, (m.nx0.trans n1).weak (fun _ z => z) fun a z => .inl (z.imp (fun z => z) fun z => z.2), fun z => by
      obtain ⟨z1, z2, z3⟩ := m.pu z
      exact ⟨z1, z2, (z3.trans (nf.weak (fun _ z => z) fun a z => z.elim))⟩⟩, o, fun _ => nd, fun _ a ha z => (m.rep.dom z).1 (hB a ha)⟩
    obtain ⟨F2, B2, o2⟩ := oo.low (k' := ⟨true, pu, 0⟩) rfl (Nat.zero_le _) fun z => z
    exact hq v H' F2 A1 B2 o2
end
end Pz
end
section
set_option Elab.async false
set_option linter.all false
/-! Comprehensions of two walks. -/
namespace Pz
open PySem PySem.Spec PyProof.Rows L2
section
variable {K : PySem.W.Frag}
/-- a walk's turns, whatever a turn does -/
theorem walk_turns {J : It} {n : Nat} {G : Hp → Prop} {Yl : Nat → Hp → V → Hp → Prop} (w : Walk J n G Yl) {H0 : Hp} {Qd : Hp → Prop} {R : V → Hp → (Hp → Prop) → Prop} (Pv : Nat → Hp → Prop) (h0 : Pv 0 H0) (hG : ∀ i H, i ≤ n → Pv i H → G H)
    (hs : ∀ i x H H', i < n → Pv i H → Yl i H x H' → R x H' (Pv (i + 1))) (hd : ∀ H, Pv n H → Qd H) :
    ∃ W : Nat → Nat → Hp → Prop, (∃ m, W 0 m H0) ∧ ∀ i m H, W i m H →
      (J.stop i H ∧ Qd H) ∨ (J.go i H ∧ ∃ Nx : Hp → Prop, (∀ H', Nx H' → ∃ m', m' < m ∧ W (i + 1) m' H') ∧ ∀ x H', J.yld i H x H' → R x H' Nx) := by
  refine ⟨fun i m H => m = n - i ∧ i ≤ n ∧ Pv i H, ⟨n, by simp, Nat.zero_le _, h0⟩, ?_⟩
  rintro i m H ⟨rfl, hi, p⟩
  have q := hG i H hi p
  by_cases hlt : i < n
  · exact .inr ⟨w.goes i H hlt q, Pv (i + 1), fun H' p' => ⟨n - (i + 1), by omega, rfl, hlt, p'⟩, fun x H' y => hs i x H H' hlt p (w.yields i H x H' hlt q y)⟩
  · have e : i = n := by omega
    subst e
    exact .inl ⟨w.stops H q, hd H p⟩
end
section
variable {c : Cf} {W : WX} {Z : Zd} {Γ Γ1 Γ' : List Nat} {Y : Cx} {e a b : Expr} {es : List Expr} {pos p0 : Pos} {fa fb fe : Env → R (D × Env)} {fi fi2 : Env → R (List D × Env)} {fc fc2 : Env → R (Bool × Env)} {g g2 : D → Env → R Env} {ls : List (Option Nat)} {pa pb pu pi pi2 pc pc2 pe : Bool} {k ka kb : Kd}
  {σ σ1 σ2 : Sl} {ρ ρ' ρ0 ρ1 ρ2 : Env} {H F H' F' H1 F1 H2 F2 : Hp} {A A' A1 A2 : Nat → List Addr} {v : V} {d : D} {B : List Addr} {n i : Nat} {x : Str}
theorem unset_in : ∀ {l : List Nat} {ρ : Env} {i : Nat}, i ∈ l → i < ρ.length → (unset ρ l)[i]? = some none
  | [], _, _, h, _ => absurd h (by simp)
  | j :: l, ρ, i, h, hl => by
    show (unset (ρ.set j none) l)[i]? = _
    by_cases m : i ∈ l
    · exact unset_in m (by simpa using hl)
    · have e : i = j := (List.mem_cons.mp h).resolve_right m
      subst e
      rw [unset_out m, List.getElem?_set_self hl]
theorem unset_unset {own own2 : List Nat} (h : ∀ i ∈ own2, i ∈ own) (ρ : Env) : unset (unset ρ own2) own = unset ρ own := by
  apply List.ext_getElem?
  intro i
  by_cases m : i ∈ own
  · by_cases hi : i < ρ.length
    · rw [unset_in m (by rw [unset_length]; exact hi), unset_in m hi]
    · rw [List.getElem?_eq_none (by rw [unset_length, unset_length]; omega), List.getElem?_eq_none (by rw [unset_length]; omega)]
  · rw [unset_out m, unset_out fun z => m (h i z), unset_out m]
def lc2F (g : D → Env → R Env) (fc : Env → R (Bool × Env)) (fi2 : Env → R (List D × Env)) (g2 : D → Env → R Env) (fc2 : Env → R (Bool × Env)) (fe : Env → R (D × Env)) (own own2 : List Nat) : D → Env → List D → R (List D × Env) := fun x ρ acc => (g x (unset ρ own)).bind fun ρ1 => (fc ρ1).bind fun t => if t.1 then (fi2 t.2).bind fun p2 => compR (lcF g2 fc2 fe own2) p2.1 p2.2 acc else .ok (acc, t.2)
theorem lc2_go {own own2 : List Nat} {Q : VK} (h0 : ∀ i ∈ own, Γ.getD i 0 = 0) (hsub : ∀ i ∈ own2, i ∈ own)
    (h : tX c W Γ ⟨true, false, 1⟩ (fun ρ => (fi ρ).bind fun p => (nox (compR (lc2F g fc fi2 g2 fc2 fe own own2) p.1 p.2 [])).bind fun r => .ok (.lst r.1, back p.2 r.2 own)) σ H Q) :
    tLc2 (tI c W Γ pi fi) (tG c never (Zb own) Γ Γ g) (tX2 c never Γ pc fc) (tI c never Γ pi2 fi2) (tG c never (Zb own2) Γ Γ g2) (tX2 c never Γ pc2 fc2) (tX c never Γ ⟨true, pe, 0⟩ fe) own own2 σ H Q := by
  obtain ⟨F, A, ρ, r, h⟩ := h
  refine ⟨F, A, ρ, r, h.bind.imp fun p _ hq J H1 F1 A1 md ⟨G, gG, w⟩ Dp hD => ?_⟩
  cases er : compR (lc2F g fc fi2 g2 fc2 fe own own2) p.1 p.2 [] with
  | error z => rw [er] at hq; exact hq.elim
  | ok rr =>
  rw [er] at hq
  replace hq : Ends' c Γ ⟨true, false, 1⟩ σ ρ H F A Q (.lst rr.1, back p.2 rr.2 own) := hq
  have own0 : ∀ i ∈ own, A1 i = [] := fun i hi => by
    by_cases e : ∃ d, p.2[i]? = some (some d)
    · obtain ⟨d, e⟩ := e
      obtain ⟨v, _, o⟩ := md.rep.val i d e
      rw [h0 i hi] at o
      exact o.1
    · exact md.rep.non i fun d z => e ⟨d, z⟩
  have hD1 : ¬ Own A1 Dp := fun z => (md.rep.dom z).1 hD
  let Pv : Nat → Hp → Prop := fun i H' => ∃ F' A' ρ' acc, ∃ ps : List (V × D), Sub F1 F' ∧ Rep c.X Γ (unset ρ' own) (wipe σ own) H' F' A' ∧ ρ'.length = p.2.length ∧ Kept Dp (ps.map (·.1)) H' F' A' ∧ acc = ps.map (·.2) ∧ (∀ q ∈ ps, RD c.X F' q.1 q.2) ∧
    Nxt H1 F1 (Own A1) H' F' (Own A') ∧ compR (lc2F g fc fi2 g2 fc2 fe own own2) (p.1.drop i) ρ' acc = .ok rr
  have sb := upd_sub (o := .lst []) hD
  refine walk_turns w (R := fun x H' Nx => tG c never (Zb own) Γ Γ g x (wipe σ own) H' fun σ2 H2 => wipe σ2 own = wipe σ own ∧ tX2 c never Γ pc fc σ2 H2 fun b H3 => if b = true then _ else Nx H3) Pv ?_ (fun i H' _ ⟨F', A', ρ', acc, ps, s, r', _⟩ => gG H' (s.trans r'.sub)) ?_ ?_
  · have n0 : Nxt H1 F1 (Own A1) (upd H1 Dp (.lst [])) F1 (Own A1) := Nxt.grow sb
    have r1 : Rep c.X Γ p.2 σ (upd H1 Dp (.lst [])) F1 A1 := md.rep.step (Nxt.grow (P := fun _ => False) sb) (md.rep.sub.trans sb) fun _ _ z => z
    obtain ⟨A2, r2, o2⟩ := r1.unset own
    refine ⟨F1, A2, p.2, [], [], Sub.refl _, r2.swap (wipe_length _ _) fun i d e => wipe_out (unset_get e).1, rfl, ⟨upd_same, md.fresh hD, fun z => hD1 (o2 _ z)⟩, rfl, fun _ z => absurd z (by simp), n0.weak (fun _ z => z) fun a z => .inl (o2 a z), er⟩
  · intro i x Hc H2 hlt ⟨F', A', ρ', acc, ps, s, r', hlen, kp, eacc, hps, n', ecomp⟩ hy
    obtain ⟨d, hd⟩ : ∃ d, p.1[i]? = some d := ⟨p.1[i], List.getElem?_eq_getElem hlt⟩
    obtain ⟨F2, k1, k2, k3, k4, rx⟩ := hy F' s r'.sub d hd
    have nn : Nxt Hc F' (fun _ => False) H2 F2 (fun _ => False) := ⟨fun a o e _ => k1 a o e, k2, fun a e => (k4 a e).elim .inl fun z => .inr (.inr z), fun _ z => z.elim⟩
    have nn' : Nxt Hc F' (Own A') H2 F2 (Own A') := nn.weak (fun _ z => z.elim) fun a z => .inr z
    have r2 := r'.step nn k3 fun _ _ z => z
    have ed : p.1.drop i = d :: p.1.drop (i + 1) := by
      rw [List.drop_eq_getElem_cons hlt]
      congr 1
      have := List.getElem?_eq_getElem hlt
      rw [hd] at this
      exact (Option.some.inj this).symm
    rw [ed] at ecomp
    obtain ⟨p1, e1, e2⟩ := bind_ok_inv (show ((lc2F g fc fi2 g2 fc2 fe own own2) d ρ' acc).bind (fun q => compR (lc2F g fc fi2 g2 fc2 fe own own2) (p.1.drop (i + 1)) q.2 q.1) = .ok rr from ecomp)
    obtain ⟨ρ1, e3, e4⟩ := bind_ok_inv e1
    obtain ⟨t, e5, e6⟩ := bind_ok_inv e4
    refine ⟨F2, A', _, d, r2, rx, Run.of_eq e3 fun σ2 H3 F3 A3 ag r3 n3 => ⟨wipe_agree ag, F3, A3, ρ1, r3, Run.of_eq e5 fun H4 F4 A4 m4 => ?_⟩⟩
    have nA : Nxt H1 F1 (Own A1) H4 F4 (Own A4) := ((n'.trans nn').trans n3).trans m4.nx0
    have kp4 : Kept Dp (ps.map (·.1)) H4 F4 A4 := ((kp.step nn').step n3).step m4.nx0
    have s4 : Sub F' F4 := k2.trans (n3.fro.trans m4.nx0.fro)
    obtain ⟨tb, ρt⟩ := t
    have l2 : σ2.length = p.2.length := by rw [ag.len, wipe_length, ← md.rep.len]
    have lt : ρt.length = p.2.length := by rw [m4.rep.len, l2]
    cases tb with
    | false =>
      show Pv (i + 1) H4
      replace e6 : (Except.ok (acc, ρt) : R (List D × Env)) = .ok p1 := e6
      cases e6
      obtain ⟨A5, r5, o5⟩ := m4.rep.again ag
      exact ⟨F4, A5, ρt, acc, ps, s.trans s4, r5, lt, ⟨kp4.at_, kp4.fr, fun z => kp4.nown (o5 _ z)⟩, eacc, fun q hq => (hps q hq).mono s4, nA.weak (fun _ z => z) fun a z => .inl (o5 a z), e2⟩
    | true =>
      replace e6 : (fi2 ρt).bind (fun p2 => compR (lcF g2 fc2 fe own2) p2.1 p2.2 acc) = .ok p1 := e6
      obtain ⟨p2, e7, e8⟩ := bind_ok_inv e6
      obtain ⟨acc1, ρr⟩ := p1
      refine ⟨F4, A4, ρt, m4.rep, Run.of_eq e7 fun J1 H5 F5 A5 md1 ⟨G1, gG1, w1⟩ => ?_⟩
      have n5 := nA.trans md1.nx0
      have kp5 := kp4.step md1.nx0
      have s5 : Sub F' F5 := s4.trans md1.nx0.fro
      have lp2 : p2.2.length = p.2.length := by rw [md1.rep.len, l2]
      let Pu : Nat → Hp → Prop := fun j H' => ∃ F' A' ρ' acc, ∃ ps : List (V × D), Sub F5 F' ∧ Rep c.X Γ (unset ρ' own2) (wipe σ2 own2) H' F' A' ∧ ρ'.length = p.2.length ∧ Kept Dp (ps.map (·.1)) H' F' A' ∧ acc = ps.map (·.2) ∧ (∀ q ∈ ps, RD c.X F' q.1 q.2) ∧
        Nxt H1 F1 (Own A1) H' F' (Own A') ∧ compR (lcF g2 fc2 fe own2) (p2.1.drop j) ρ' acc = .ok (acc1, ρr)
      refine walk_turns w1 (R := fun x H' Nx => tG c never (Zb own2) Γ Γ g2 x (wipe σ2 own2) H' fun σ3 H5 => wipe σ3 own2 = wipe σ2 own2 ∧ tX2 c never Γ pc2 fc2 σ3 H5 fun b H6 =>
        if b = true then tX c never Γ ⟨true, pe, 0⟩ fe σ3 H6 fun y H7 => ∃ acc, H7 Dp = some (HO.lst acc) ∧ acc.length < sizeLine ∧ Nx (upd H7 Dp (HO.lst (acc ++ [y]))) else Nx H6) Pu ?_ (fun i H' _ ⟨F', A', ρ', acc, ps, s, r', _⟩ => gG1 H' (s.trans r'.sub)) ?_ ?_
      · obtain ⟨A6, r6, o6⟩ := md1.rep.unset own2
        refine ⟨F5, A6, p2.2, acc, ps, Sub.refl _, r6.swap (wipe_length _ _) fun i d e => wipe_out (unset_get e).1, lp2, ⟨kp5.at_, kp5.fr, fun z => kp5.nown (o6 _ z)⟩, eacc, fun q hq => (hps q hq).mono s5, n5.weak (fun _ z => z) fun a z => .inl (o6 a z), e8⟩
      · intro j x Hc H2 hlt ⟨F', A', ρ', acc, ps, s, r', hlen, kp, eacc, hps, n', ecomp⟩ hy
        obtain ⟨d, hd⟩ : ∃ d, p2.1[j]? = some d := ⟨p2.1[j], List.getElem?_eq_getElem hlt⟩
        obtain ⟨F2, k1, k2, k3, k4, rx⟩ := hy F' s r'.sub d hd
        have nn : Nxt Hc F' (fun _ => False) H2 F2 (fun _ => False) := ⟨fun a o e _ => k1 a o e, k2, fun a e => (k4 a e).elim .inl fun z => .inr (.inr z), fun _ z => z.elim⟩
        have nn' : Nxt Hc F' (Own A') H2 F2 (Own A') := nn.weak (fun _ z => z.elim) fun a z => .inr z
        have r2 := r'.step nn k3 fun _ _ z => z
        have ed : p2.1.drop j = d :: p2.1.drop (j + 1) := by
          rw [List.drop_eq_getElem_cons hlt]
          congr 1
          have := List.getElem?_eq_getElem hlt
          rw [hd] at this
          exact (Option.some.inj this).symm
        rw [ed] at ecomp
        obtain ⟨p1, e1, e2⟩ := bind_ok_inv (show ((lcF g2 fc2 fe own2) d ρ' acc).bind (fun q => compR (lcF g2 fc2 fe own2) (p2.1.drop (j + 1)) q.2 q.1) = .ok (acc1, ρr) from ecomp)
        obtain ⟨ρ1, e3, e4⟩ := bind_ok_inv e1
        obtain ⟨t, e5, e6⟩ := bind_ok_inv e4
        refine ⟨F2, A', _, d, r2, rx, Run.of_eq e3 fun σ3 H3 F3 A3 ag2 r3 n3 => ⟨wipe_agree ag2, F3, A3, ρ1, r3, Run.of_eq e5 fun H4 F4 A4 m4 => ?_⟩⟩
        have nA : Nxt H1 F1 (Own A1) H4 F4 (Own A4) := ((n'.trans nn').trans n3).trans m4.nx0
        have kp4 : Kept Dp (ps.map (·.1)) H4 F4 A4 := ((kp.step nn').step n3).step m4.nx0
        have s4 : Sub F' F4 := k2.trans (n3.fro.trans m4.nx0.fro)
        obtain ⟨tb, ρt⟩ := t
        have l3 : σ3.length = p.2.length := by rw [ag2.len, wipe_length, l2]
        have lt : ρt.length = p.2.length := by rw [m4.rep.len, l3]
        cases tb with
        | false =>
          show Pu (j + 1) H4
          replace e6 : (Except.ok (acc, ρt) : R (List D × Env)) = .ok p1 := e6
          cases e6
          obtain ⟨A5, r5, o5⟩ := m4.rep.again ag2
          exact ⟨F4, A5, ρt, acc, ps, s.trans s4, r5, lt, ⟨kp4.at_, kp4.fr, fun z => kp4.nown (o5 _ z)⟩, eacc, fun q hq => (hps q hq).mono s4, nA.weak (fun _ z => z) fun a z => .inl (o5 a z), e2⟩
        | true =>
          show tX c never Γ { own := true, pu := pe, lv := 0 } fe σ3 H4 fun y H4 => ∃ acc, H4 Dp = some (HO.lst acc) ∧ acc.length < sizeLine ∧ Pu (j + 1) (upd H4 Dp (HO.lst (acc ++ [y])))
          replace e6 : (fe ρt).bind (push acc) = .ok p1 := e6
          obtain ⟨q, e7, e8⟩ := bind_ok_inv e6
          unfold push at e8
          split at e8 <;> cases e8
          rename_i hacc
          refine ⟨F4, A4, ρt, m4.rep, Run.of_eq e7 fun y H5 F5 A5 B o5 => ⟨ps.map (·.1), (kp4.step o5.nx0).at_, by rw [← line_lim]; rw [eacc] at hacc; simpa using hacc, ?_⟩⟩
          have kp5 := kp4.step o5.nx0
          have n6 : Nxt H5 F5 (fun a => a = Dp) (upd H5 Dp (.lst (ps.map (·.1) ++ [y]))) F5 (fun a => a = Dp) := ⟨fun a u hu hn => by rw [upd_ne hn]; exact hu, Sub.refl _, fun a z => .inl z, fun a z => .inl z⟩
          have sub6 : Sub F5 (upd H5 Dp (.lst (ps.map (·.1) ++ [y]))) := fun a u hu => by
            have : a ≠ Dp := fun e => by rw [e, kp5.fr] at hu; cases hu
            rw [upd_ne this]; exact o5.rep.sub a u hu
          have r6 : Rep c.X Γ q.2 σ3 (upd H5 Dp (.lst (ps.map (·.1) ++ [y]))) F5 A5 := o5.rep.step n6 sub6 fun a z e => kp5.nown (e ▸ z)
          obtain ⟨A7, r7, o7⟩ := r6.again ag2
          refine ⟨F5, A7, q.2, acc ++ [q.1], ps ++ [(y, q.1)], s.trans (s4.trans o5.nx0.fro), r7, by rw [o5.rep.len, l3], ⟨by rw [List.map_append]; exact upd_same, kp5.fr, fun z => kp5.nown (o7 _ z)⟩, by rw [eacc, List.map_append]; rfl, fun z hz => ?_, ?_, e2⟩
          · rcases List.mem_append.mp hz with hz | hz
            · exact (hps z hz).mono (s4.trans o5.nx0.fro)
            · rw [List.mem_singleton.mp hz]; exact o5.ot.2
          · have nB := nA.trans o5.nx0
            refine ⟨fun a u hu hn => ?_, nB.fro, nB.new, fun a z => nB.own a (o7 a z)⟩
            have : a ≠ Dp := fun e => by rw [e, hD] at hu; cases hu
            rw [upd_ne this]; exact nB.keep a u hu hn
      · intro He ⟨F', A', ρ', acc, ps, s', r', hlen, kp, eacc, hps, n', ecomp⟩
        rw [List.drop_length] at ecomp
        replace ecomp : (Except.ok (acc, ρ') : R (List D × Env)) = .ok (acc1, ρr) := ecomp
        cases ecomp
        obtain ⟨A6, r6, o6⟩ := r'.unset own
        rw [unset_unset hsub] at r6
        have ag' := wipe_agree ag
        refine ⟨F', A6, ρr, acc1, ps, (s.trans s5).trans s', r6.swap (by rw [wipe_length, wipe_length, l2]; exact md.rep.len.symm) fun i d e => ?_, hlen, ⟨kp.at_, kp.fr, fun z => kp.nown (o6 _ z)⟩, eacc, hps, n'.weak (fun _ z => z) fun a z => .inl (o6 a z), e2⟩
        have m : i ∉ own := (unset_get e).1
        rw [← ag', wipe_out m, wipe_out fun z => m (hsub i z)]
  · intro He ⟨F', A', ρ', acc, ps, s, r', hlen, kp, eacc, hps, n', ecomp⟩
    rw [List.drop_length] at ecomp
    replace ecomp : (Except.ok (acc, ρ') : R (List D × Env)) = .ok rr := ecomp
    cases ecomp
    have hall := md.nx0.trans n'
    have dis : ∀ i, i ∈ own → A' i = [] := fun i hi => r'.non i fun d z => (unset_get z).1 hi
    refine hq (.ref Dp) He F' A' [Dp] ⟨⟨⟨r'.sub, ?_, fun i d hi => ?_, fun i hi => ?_, r'.nd, r'.dis⟩, ?_, fun z => absurd z (by simp)⟩, ?_, fun _ => by simp, fun _ a ha z => kp.nown (List.mem_singleton.mp ha ▸ z)⟩
    · rw [back_length, hlen]; exact md.rep.len
    · by_cases m : i ∈ own
      · have hil : i < p.2.length := by
          have := (List.getElem?_eq_some_iff.mp hi).1
          rw [back_length, hlen] at this; exact this
        rw [back_in m (by rw [hlen]; exact hil) hil] at hi
        obtain ⟨v, ev, o⟩ := md.rep.val i d hi
        refine ⟨v, ev, ?_⟩
        rw [h0 i m] at o ⊢
        exact ⟨dis i m, o.2.mono s⟩
      · rw [back_out m] at hi
        obtain ⟨v, ev, o⟩ := r'.val i d (by rw [unset_out m]; exact hi)
        rw [wipe_out m] at ev
        exact ⟨v, ev, o⟩
    · by_cases m : i ∈ own
      · exact dis i m
      · exact r'.non i fun d z => hi d (by rw [back_out m]; rw [unset_out m] at z; exact z)
    · exact ⟨hall.keep, hall.fro, hall.new, fun a z => z.elim (hall.own a) fun z => by rw [List.mem_singleton.mp z.2]; exact md.nx0.free hD⟩
    · refine ⟨Dp, ps.map fun q => (q.1, q.2, []), rfl, by rw [eacc, List.map_map]; rfl, by rw [kp.at_, List.map_map]; rfl, kp.fr, ?_, fun q hq' => ?_⟩
      · rw [List.map_map]
        have : (List.map ((fun x : V × D × List Addr => x.2.2) ∘ fun x : V × D => (x.1, x.2, [])) ps).flatten = [] := by
          simp [List.flatten_eq_nil_iff]
        rw [this]
      · obtain ⟨z, hz, rfl⟩ := List.mem_map.mp hq'
        exact ⟨rfl, hps z hz⟩
/-- name = [..] of two walks, whose value is stored ahead of its end -/
theorem ss_setLc2 {own own2 : List Nat} {sm : Stmt} (nm : NmAt Y Γ Z i x) (h0 : ∀ i ∈ own, Γ.getD i 0 = 0) (hsub : ∀ i ∈ own2, i ∈ own)
    (h : PS Y sm (tAsg (tLc2 (tI c W Γ pi fi) (tG c never (Zb own) Γ Γ g) (tX2 c never Γ pc fc) (tI c never Γ pi2 fi2) (tG c never (Zb own2) Γ Γ g2) (tX2 c never Γ pc2 fc2) (tX c never Γ ⟨true, pe, 0⟩ fe) own own2) (gName i))) {m : Nat} (hm : m ≤ 1) :
    SS c W Z Γ (Γ.set i m) Y sm (fun ρ => ((fi ρ).bind fun p => (nox (compR (lc2F g fc fi2 g2 fc2 fe own own2) p.1 p.2 [])).bind fun r => .ok (.lst r.1, back p.2 r.2 own)).bind fun p => .ok (.nx (st p.2 i p.1))) :=
  PS.imp h fun N σ H ⟨F, A, ρ, r, h⟩ => lc2_go h0 hsub (tX.inS (ka := ⟨true, false, 1⟩) (g := fun d ρ1 => (.ok (.nx (st ρ1 i d)) : R Fl)) r h fun x H1 F1 A1 d ρ1 B o h1 => by
    replace h1 : EndS c Z (Γ.set i m) N σ H F A (.nx (st ρ1 i d)) := h1
    obtain ⟨F2, B2, o2⟩ := o.low (k' := ⟨true, false, m⟩) rfl hm fun z => z
    obtain ⟨A', r', o'⟩ := o2.rep.store nm.lv o2.ot (o2.nd rfl) (o2.dj rfl)
    exact h1 _ H1 F2 A' (.set nm.mm) r' (o2.mid.nx.weak (fun _ h => h) fun a z => .inl ((o' a z).imp (fun z => z) fun z => ⟨rfl, z⟩)))
end
end Pz
end
section
set_option Elab.async false
set_option linter.all false
/-! d.get(k), d.get(k, x). -/
namespace Pz
open PySem PySem.Spec PyProof.Rows L2
section
variable {c : Cf} {W : WX} {Γ : List Nat} {Y : Cx} {a b e : Expr} {pos p1 : Pos} {pa pb pe : Bool} {fa fb fe : Env → R (D × Env)}
theorem dic_of {d : D} (h : dicO d = some ()) : ∃ ks vs, d = .dic ks vs := by
  cases d <;> first | (cases h; done) | exact ⟨_, _, rfl⟩
theorem sx_dget1 (cx : Ctx c W Y) (ha : SX c W Γ ⟨true, pa, 0⟩ Y a fa) (hb : SX c W Γ ⟨true, pb, 0⟩ Y b fb) (m : M1 Y a "get" p1 b pos) :
    SX c W Γ ⟨true, pa && pb, 0⟩ Y (.Call (.Attribute a "get" p1) [b] [] pos) (fun ρ => (fa ρ).bind fun p => (optR (dicO p.1)).bind fun _ => (fb p.2).bind fun q => (optR (meD .get p.1 [q.1])).bind fun d => .ok (d, q.2)) :=
  PE.imp (pe_dget1 (by have := cx.hu; omega) ha hb m) fun σ H Q ⟨F, A, ρ, r, h⟩ =>
    tX.one (g := fun d1 ρ1 => (optR (dicO d1)).bind fun _ => (fb ρ1).bind fun q => (optR (meD .get d1 [q.1])).bind fun d => .ok (d, q.2)) r h fun x H1 F1 A1 d1 ρ1 B1 o1 h1 => by
      obtain ⟨u, e0, h1⟩ := Run.opt h1
      cases u
      obtain ⟨ks, vs, rfl⟩ := dic_of e0
      have rd := o1.ot.2
      obtain ⟨ad, ps, rfl, rfl, e2, rfl, rr⟩ := rd.dic_eq
      refine ⟨ad, rfl, .inl ⟨_, .inl (o1.rep.sub _ _ e2)⟩, tX.one (g := fun d2 ρ2 => (optR (meD .get (.dic (ps.map fun p => kD p.1) (ps.map (·.2.2))) [d2])).bind fun d => .ok (d, ρ2)) o1.rep h1 fun z H2 F2 A2 d2 ρ2 B2 o2 h2 => ?_⟩
      obtain ⟨d, e, h3⟩ := Run.opt h2
      replace h3 : Ends' c Γ ⟨true, pa && pb, 0⟩ σ ρ H F A Q (d, ρ2) := h3
      have two := o1.two o2 (.inl rfl)
      replace e : (if atomK d2 = true then some ((lookD d2 (ps.map fun p => kD p.1) (ps.map (·.2.2))).getD .non) else none) = some d := e
      split at e <;> first | (cases e; done) | skip
      rename_i hk
      obtain ⟨o, g, ho⟩ := dget_of (H := H2) (o2.rep.sub _ _ (o2.nx0.fro _ _ e2)) (fun p hp => (rr p hp).mono o2.nx0.fro) (o2.ot.2) hk
      refine ⟨o, g, ?_⟩
      rcases ho with ⟨z1, rfl⟩ | ⟨w, y, z1, rfl, z2⟩
      · rw [z1] at e; cases e
        exact h3 _ _ _ _ _ (two.mid.val .non (fun z => z) (.inl rfl))
      · rw [z1] at e; cases e
        exact h3 _ _ _ _ _ (two.mid.val z2 (fun z => z) (.inl rfl))
theorem sx_dget2 (cx : Ctx c W Y) (ha : SX c W Γ ⟨true, pa, 0⟩ Y a fa) (hb : SX c W Γ ⟨true, pb, 0⟩ Y b fb) (he : SX c W Γ ⟨true, pe, 0⟩ Y e fe) (m : M2 Y a "get" p1 b e pos) :
    SX c W Γ ⟨true, pa && (pb && pe), 0⟩ Y (.Call (.Attribute a "get" p1) [b, e] [] pos) (fun ρ => (fa ρ).bind fun p => (optR (dicO p.1)).bind fun _ => (fb p.2).bind fun q => (fe q.2).bind fun r => (optR (meD .get2 p.1 [q.1, r.1])).bind fun d => .ok (d, r.2)) :=
  PE.imp (pe_dget2 (by have := cx.hu; omega) ha hb he m) fun σ H Q ⟨F, A, ρ, r, h⟩ =>
    tX.one (g := fun d1 ρ1 => (optR (dicO d1)).bind fun _ => (fb ρ1).bind fun q => (fe q.2).bind fun r => (optR (meD .get2 d1 [q.1, r.1])).bind fun d => .ok (d, r.2)) r h fun x H1 F1 A1 d1 ρ1 B1 o1 h1 => by
      obtain ⟨u, e0, h1⟩ := Run.opt h1
      cases u
      obtain ⟨ks, vs, rfl⟩ := dic_of e0
      have rd := o1.ot.2
      obtain ⟨ad, ps, rfl, rfl, e2, rfl, rr⟩ := rd.dic_eq
      refine ⟨ad, rfl, .inl ⟨_, .inl (o1.rep.sub _ _ e2)⟩, tX.one (g := fun d2 ρ2 => (fe ρ2).bind fun r => (optR (meD .get2 (.dic (ps.map fun p => kD p.1) (ps.map (·.2.2))) [d2, r.1])).bind fun d => .ok (d, r.2)) o1.rep h1 fun z H2 F2 A2 d2 ρ2 B2 o2 h2 => ?_⟩
      refine tX.one (g := fun d3 ρ3 => (optR (meD .get2 (.dic (ps.map fun p => kD p.1) (ps.map (·.2.2))) [d2, d3])).bind fun d => .ok (d, ρ3)) o2.rep h2 fun w H3 F3 A3 d3 ρ3 B3 o3 h3 => ?_
      obtain ⟨d, e, h4⟩ := Run.opt h3
      replace h4 : Ends' c Γ ⟨true, pa && (pb && pe), 0⟩ σ ρ H F A Q (d, ρ3) := h4
      have two := o2.two o3 (.inl rfl)
      have three := (o1.mid.trans two.mid)
      replace e : (if atomK d2 = true then some ((lookD d2 (ps.map fun p => kD p.1) (ps.map (·.2.2))).getD d3) else none) = some d := e
      split at e <;> first | (cases e; done) | skip
      rename_i hk
      have s23 := o2.nx0.fro.trans o3.nx0.fro
      obtain ⟨o, g, ho⟩ := dget_of (H := H3) (o3.rep.sub _ _ (s23 _ _ e2)) (fun p hp => (rr p hp).mono s23) (o2.ot.2) hk
      refine ⟨o, g, ?_⟩
      have fin : ∀ w d, RD c.X F3 w d → Out c Γ ⟨true, pa && (pb && pe), 0⟩ σ ρ H F A ρ3 H3 F3 A3 w d [] := fun w d r => ⟨three.weak (fun _ h => absurd h.2 (by simp)) fun z => z, ⟨rfl, r⟩, fun _ => List.nodup_nil, fun _ a ha => absurd ha (by simp)⟩
      rcases ho with ⟨z1, rfl⟩ | ⟨w', y, z1, rfl, z2⟩
      · rw [z1] at e; cases e
        exact h4 _ _ _ _ _ (fin _ _ o3.ot.2)
      · rw [z1] at e; cases e
        exact h4 _ _ _ _ _ (fin _ _ z2)
end
end Pz
end
section
set_option Elab.async false
set_option linter.all false
/-! len(set(x)), x a list or a tuple of ints. -/
namespace Pz
open PySem PySem.Spec PyProof.Rows L2
/-- so many distinct ones -/
def Dist (ns : List Int) (n : Nat) : Prop := ∃ ks : List Int, ks.Nodup ∧ ks.length = n ∧ ∀ k, k ∈ ks ↔ k ∈ ns
def tLs (K : PySem.W.Frag) (ta : TE) : TE := fun σ H Q => ta σ H fun x H1 => ∃ (l : Addr) (ns : List Int), x = .ref l ∧ (SqL K H1 l (ns.map V.int) ∨ SqT K H1 l (ns.map V.int)) ∧ ns.length ≤ 4000 ∧ ∀ n, Dist ns n → Q (.int (n : Nat)) H1
theorem lsFirst (f : Nat → Int) : ∀ n : Nat, (PyProof.Rows.firstMet f n).Nodup ∧ ∀ k, k ∈ PyProof.Rows.firstMet f n ↔ ∃ i, i < n ∧ f i = k
  | 0 => ⟨List.nodup_nil, fun k => ⟨fun h => (by cases h), fun ⟨i, hi, _⟩ => absurd hi (Nat.not_lt_zero i)⟩⟩
  | n + 1 => by
    obtain ⟨h1, h2⟩ := lsFirst f n
    rw [PyProof.Rows.firstMet_succ]
    show (if (PyProof.Rows.firstMet f n).any (· == f n) then PyProof.Rows.firstMet f n else PyProof.Rows.firstMet f n ++ [f n]).Nodup ∧ ∀ k, k ∈ (if (PyProof.Rows.firstMet f n).any (· == f n) then PyProof.Rows.firstMet f n else PyProof.Rows.firstMet f n ++ [f n]) ↔ _
    by_cases hm : f n ∈ PyProof.Rows.firstMet f n
    · have : (PyProof.Rows.firstMet f n).any (· == f n) = true := List.any_eq_true.mpr ⟨_, hm, by simp⟩
      rw [if_pos this]
      refine ⟨h1, fun k => (h2 k).trans ⟨fun ⟨i, hi, e⟩ => ⟨i, by omega, e⟩, fun ⟨i, hi, e⟩ => ?_⟩⟩
      by_cases hin : i = n
      · subst hin
        exact (h2 k).mp (e ▸ hm)
      · exact ⟨i, by omega, e⟩
    · have : ¬ (PyProof.Rows.firstMet f n).any (· == f n) = true := fun h => by
        obtain ⟨x, hx, e⟩ := List.any_eq_true.mp h
        exact hm (by rw [← eq_of_beq e]; exact hx)
      rw [if_neg this]
      refine ⟨?_, fun k => ?_⟩
      · rw [List.nodup_append]
        refine ⟨h1, by simp, fun a ha b hb e => ?_⟩
        rw [List.mem_singleton] at hb
        subst hb; subst e
        exact hm ha
      · rw [List.mem_append, List.mem_singleton, h2]
        constructor
        · rintro (⟨i, hi, e⟩ | rfl)
          · exact ⟨i, by omega, e⟩
          · exact ⟨n, by omega, rfl⟩
        · rintro ⟨i, hi, e⟩
          by_cases hin : i = n
          · subst hin; exact .inr e.symm
          · exact .inl ⟨i, by omega, e⟩
theorem lsFirstL (ns : List Int) : Dist ns (PyProof.Rows.firstMet (fun i => ns.getD i 0) ns.length).length := by
  obtain ⟨h1, h2⟩ := lsFirst (fun i => ns.getD i 0) ns.length
  refine ⟨_, h1, rfl, fun k => (h2 k).trans ⟨fun ⟨i, hi, e⟩ => ?_, fun h => ?_⟩⟩
  · rw [List.getD_eq_getElem?_getD, List.getElem?_eq_getElem hi] at e
    exact e ▸ List.getElem_mem hi
  · obtain ⟨i, hi, rfl⟩ := List.getElem_of_mem h
    exact ⟨i, hi, by rw [List.getD_eq_getElem?_getD, List.getElem?_eq_getElem hi]; rfl⟩
theorem pe_lenset {X : Cx} {a : Expr} {ta : TE} {p p2 q pos : Pos} (hc : X.calm = true) (hg : Gl X "len") (hm : X.mg "len" = none) (hg2 : Gl X "set") (hm2 : X.mg "set" = none) (ha : PE X a ta)
    (na : starEach [a] X.env = (false, eval a X.env) :: starEach [] X.env) : PE X (.Call (.Name "len" p) [.Call (.Name "set" p2) [a] [] q] [] pos) (tLs X.K ta) := by
  refine ⟨fun pins s σ H Q I h => ?_⟩
  refine Call_ (ld_blt I hg hm boot_len ?_)
  refine PyProof.Rows.callWith_builtin1 (PyProof.Rows.args_cons ?_ rfl) rfl rfl
  refine Call_ (ld_blt I hg2 hm2 boot_set ?_)
  refine PyProof.Rows.callWith_type1 (PyProof.Rows.args_cons (thn (ha.run pins s σ H _ I h) fun v s1 ⟨x, H1, I1, r1, q1⟩ => PyProof.Rows.args_nil ?_) na) na rfl
  obtain ⟨l, ns, rfl, hq, hl, q1⟩ := q1
  cases r1
  rcases hq with hq | hq
  · obtain ⟨its, r, pl, hz⟩ := I1.list hq
    have hlen : its.toArray.size = ns.length := by rw [List.size_toArray, ← r.length, List.length_map]
    refine call_set_list (I1.ok.hd hc) pl.isList (by simpa using RZ.intsAre_vals r) (by rw [hlen]; unfold scanBound; omega) fun h' tk hS hk => ?_
    refine PyProof.Rows.args_nil ?_
    rw [hlen] at hS
    have hd := lsFirstL ns
    generalize PyProof.Rows.firstMet (fun i => ns.getD i 0) ns.length = fm at hS hd
    obtain ⟨o, es, ep, t, ho, hex, hd2, _, _, _, hf, hn⟩ := hS
    have I2 : Inv X pins σ H1 { s1 with heap := h', toks := tk } := I1.kept fun b o e => hk b o (Heap.lt_size e) e
    have hb : fm.length ≤ 4000 := by
      obtain ⟨ks, k1, k2, k3⟩ := hd
      have : ks.length ≤ ns.length := by
        have : ∀ (l m : List Int), l.Nodup → (∀ x ∈ l, x ∈ m) → l.length ≤ m.length := fun l => by
          induction l with
          | nil => intro m _ _; exact Nat.zero_le _
          | cons x l ih =>
            intro m hn h
            have hn' := List.nodup_cons.mp hn
            have := ih (m.erase x) hn'.2 fun y hy => (List.mem_erase_of_ne (show y ≠ x from fun e => hn'.1 (by rw [← e]; exact hy))).mpr (h y (List.mem_cons_of_mem _ hy))
            rw [List.length_erase_of_mem (h x List.mem_cons_self)] at this
            have : 0 < m.length := List.length_pos_of_mem (h x List.mem_cons_self)
            rw [List.length_cons]; omega
        exact this ks ns k1 fun x hx => (k3 x).mp hx
      omega
    exact call_len_set ho hex hd2 hf (by rw [hn] <;> omega) ⟨.int fm.length, H1, I2.tok _, ⟨_, by rw [hn]⟩, q1 _ hd⟩
  · obtain ⟨its, r, pl, hz⟩ := I1.tuple hq
    refine call_set_tupI ns (I1.ok.hd hc) (items := its.toArray) pl (by simpa using RZ.intsAre_vals r) (by unfold scanBound; omega) fun h' tk c hS hc' hk => ?_
    refine PyProof.Rows.args_nil ?_
    obtain ⟨o, es, ep, t, ho, hex, hd2, g1, g2, g3, g4, hf, hn, _⟩ := hS
    have I2 : Inv X pins σ H1 { s1 with heap := h', toks := tk } := I1.kept fun b o e => hk b o e
    have hd : Dist ns es.size := ⟨es.toList.map keyOf, g2, by rw [List.length_map, Array.length_toList], fun k => by rw [← g3 k]; simp⟩
    have hsz : es.size ≤ ns.length := by omega
    exact call_len_set ho hex hd2 hf (by omega) ⟨.int es.size, H1, I2.tok _, ⟨_, rfl⟩, q1 _ hd⟩
theorem lsMem (k : Int) (ks : List Int) : memD (.int k) (ks.map D.int) = decide (k ∈ ks) := by
  unfold memD
  rw [List.any_map]
  induction ks with
  | nil => simp
  | cons x l ih =>
    rw [List.any_cons, ih]
    show ((x == k) || _) = _
    have hc : (k = x) = (x = k) := propext ⟨fun e => e.symm, fun e => e.symm⟩
    by_cases h : x = k <;> by_cases h2 : k ∈ l <;> simp [h, h2, hc]
theorem lsDedup : ∀ (ns acc : List Int), acc.Nodup → ∃ ks : List Int, dedup (acc.map D.int) (ns.map D.int) = ks.map D.int ∧ ks.Nodup ∧ ∀ k, k ∈ ks ↔ k ∈ acc ∨ k ∈ ns
  | [], acc, h => ⟨acc.reverse, by show (acc.map D.int).reverse = _; rw [List.map_reverse], List.pairwise_reverse.mpr (List.Pairwise.imp (fun h => Ne.symm h) h), fun k => by simp⟩
  | n :: ns, acc, h => by
    show ∃ ks : List Int, (if memD (.int n) (acc.map D.int) then dedup (acc.map D.int) (ns.map D.int) else dedup (.int n :: acc.map D.int) (ns.map D.int)) = ks.map D.int ∧ _
    rw [lsMem]
    by_cases hm : n ∈ acc
    · obtain ⟨ks, h1, h2, h3⟩ := lsDedup ns acc h
      rw [if_pos (by simpa using hm)]
      refine ⟨ks, h1, h2, fun k => (h3 k).trans ?_⟩
      rw [List.mem_cons]
      constructor
      · rintro (h | h)
        · exact .inl h
        · exact .inr (.inr h)
      · rintro (h | rfl | h)
        · exact .inl h
        · exact .inl hm
        · exact .inr h
    · obtain ⟨ks, h1, h2, h3⟩ := lsDedup ns (n :: acc) (List.nodup_cons.mpr ⟨hm, h⟩)
      rw [if_neg (by simpa using hm)]
      refine ⟨ks, h1, h2, fun k => (h3 k).trans ?_⟩
      rw [List.mem_cons, List.mem_cons]
      constructor
      · rintro ((h | h) | h)
        · exact .inr (.inl h)
        · exact .inl h
        · exact .inr (.inr h)
      · rintro (h | h | h)
        · exact .inl (.inr h)
        · exact .inl (.inl h)
        · exact .inr h
theorem lsLe : ∀ (l m : List Int), l.Nodup → (∀ x ∈ l, x ∈ m) → l.length ≤ m.length
  | [], m, _, _ => Nat.zero_le _
  | x :: l, m, hn, h => by
    have hn' := List.nodup_cons.mp hn
    have := lsLe l (m.erase x) hn'.2 fun y hy => (List.mem_erase_of_ne (show y ≠ x from fun e => hn'.1 (by rw [← e]; exact hy))).mpr (h y (List.mem_cons_of_mem _ hy))
    rw [List.length_erase_of_mem (h x List.mem_cons_self)] at this
    have : 0 < m.length := List.length_pos_of_mem (h x List.mem_cons_self)
    rw [List.length_cons]; omega
theorem Dist.uniq {ns : List Int} {n m : Nat} (h : Dist ns n) (h' : Dist ns m) : n = m := by
  obtain ⟨ks, k1, rfl, k3⟩ := h
  obtain ⟨js, j1, rfl, j3⟩ := h'
  exact Nat.le_antisymm (lsLe ks js k1 fun x hx => (j3 x).mpr ((k3 x).mp hx)) (lsLe js ks j1 fun x hx => (k3 x).mpr ((j3 x).mp hx))
theorem lsInts : ∀ {l : List D}, (l.all fun y => match y with | .int _ => true | _ => false) = true → ∃ ns : List Int, l = ns.map D.int
  | [], _ => ⟨[], rfl⟩
  | y :: l, h => by
    rw [List.all_cons, Bool.and_eq_true] at h
    obtain ⟨ns, rfl⟩ := lsInts h.2
    obtain ⟨h1, _⟩ := h
    cases y <;> first | (cases h1; done) | exact ⟨_ :: ns, rfl⟩
section
variable {c : Cf} {W : WX} {Γ : List Nat} {Y : Cx} {a : Expr} {p p2 q pos : Pos} {pa : Bool} {fa : Env → R (D × Env)}
theorem lsMap {X : Tx} {F : Hp} : ∀ {ps : List (V × D)} {ns : List Int}, ps.map (·.2) = ns.map D.int → (∀ p ∈ ps, RD X F p.1 p.2) → ps.map (·.1) = ns.map V.int
  | [], [], _, _ => rfl
  | [], _ :: _, h, _ => by cases h
  | _ :: _, [], h, _ => by cases h
  | p :: ps, n :: ns, h, r => by
    rw [List.map_cons, List.map_cons, List.cons.injEq] at h
    rw [List.map_cons, List.map_cons, lsMap h.2 fun q hq => r q (List.mem_cons_of_mem _ hq)]
    have := r p List.mem_cons_self
    rw [h.1] at this
    rw [this.int_eq]
/-- len(set(a)) -/
theorem sx_lenset (cx : Ctx c W Y) (hg : Gl Y "len") (hm : Y.mg "len" = none) (hg2 : Gl Y "set") (hm2 : Y.mg "set" = none) (ha : SX c W Γ ⟨true, pa, 0⟩ Y a fa) (na : starEach [a] Y.env = (false, eval a Y.env) :: starEach [] Y.env) :
    SX c W Γ (kA pa) Y (.Call (.Name "len" p) [.Call (.Name "set" p2) [a] [] q] [] pos) (fun ρ => (fa ρ).bind fun p => (optR (biD .set [p.1])).bind fun d => (optR (lenD d)).bind fun e => .ok (e, p.2)) :=
  PE.imp (pe_lenset cx.calm hg hm hg2 hm2 ha na) fun σ H Q ⟨F, A, ρ, r, h⟩ => tX.one (g := fun d ρ1 => (optR (biD .set [d])).bind fun d => (optR (lenD d)).bind fun e => .ok (e, ρ1)) r h fun x H1 F1 A1 d ρ1 B o h1 => by
    obtain ⟨d1, e1, h1⟩ := Run.opt h1
    obtain ⟨d2, e2, h1⟩ := Run.opt h1
    replace h1 : Ends' c Γ (kA pa) σ ρ H F A Q (d2, ρ1) := h1
    obtain ⟨l, e3, e4⟩ := Option.bind_eq_some_iff.mp (show ((seqO d).bind fun l => if (l.all fun y => match y with | .int _ => true | _ => false) && decide (l.length ≤ 4000) then some (D.set (dedup [] l)) else none) = some d1 from e1)
    split at e4 <;> cases e4
    rename_i hl
    rw [Bool.and_eq_true, decide_eq_true_eq] at hl
    obtain ⟨ns, rfl⟩ := lsInts hl.1
    rw [List.length_map] at hl
    cases e2
    obtain ⟨ks, k1, k2, k3⟩ := lsDedup ns [] List.nodup_nil
    have hd : Dist ns (dedup [] (ns.map D.int)).length := ⟨ks, k2, by rw [show dedup [] (ns.map D.int) = ks.map D.int from k1, List.length_map], fun k => (k3 k).trans (by simp)⟩
    have rd := o.ot.2
    rw [cx.K]
    have fin : ∀ n, Dist ns n → Q (.int (n : Nat)) H1 := fun n hn => by
      rw [hn.uniq hd]
      exact h1 _ _ _ _ _ (o.mid.val (.int _) (fun z => z) (.inr rfl))
    cases d <;> first | (cases e3; done) | skip
    · cases e3
      obtain ⟨ad, ps, rfl, e5, sq, rr⟩ := rd.lst_eq
      refine ⟨ad, ns, rfl, .inl ?_, hl.2, fin⟩
      rw [← lsMap e5.symm rr]
      exact o.rep.sub.sqL sq
    · cases e3
      obtain ⟨ad, ps, rfl, e5, sq, rr⟩ := rd.tup_eq
      refine ⟨ad, ns, rfl, .inr ?_, hl.2, fin⟩
      rw [← lsMap e5.symm rr]
      exact Sub.sqT o.rep.sub sq
end
end Pz
end
section
set_option Elab.async false
set_option linter.all false
/-! Own values within own values: displays, appends; reading own slots for an atom; a comprehension that lends each item. -/
namespace Pz
open PySem PySem.Spec PyProof.Rows L2

section
variable {c : Cf} {W : WX} {Z : Zd} {Γ Γ0 Γ1 Γ' : List Nat} {Y : Cx} {e a b : Expr} {es : List Expr} {pos p0 : Pos} {fa fb fe : Env → R (D × Env)} {fs : Env → R (List D × Env)} {pa pb pu pe : Bool} {k ka kb : Kd}
  {σ σ1 σ2 : Sl} {ρ ρ' ρ0 ρ1 ρ2 : Env} {H F H' F' H1 F1 H2 F2 : Hp} {A A' A1 A2 : Nat → List Addr} {v : V} {d : D} {B : List Addr} {n m i j : Nat} {x : Str}
theorem RD.atom {X : Tx} {F G : Hp} {v : V} {d : D} (h : RD X F v d) (a : isAtom d = true) : RD X G v d := by
  cases h with
  | non => exact .non
  | bl b => exact .bl b
  | int i => exact .int i
  | str s => exact .str s
  | fn e => exact .fn e
  | lst _ _ _ _ => cases a
  | tup _ _ _ _ => cases a
  | dic _ _ _ _ _ _ => cases a
  | exc _ _ _ _ => cases a
/-- an atom, read from slots of any level: all is frozen for the while -/
theorem sx_atz {o : Bool} {l : Nat} (h : SX c W Γ0 ⟨o, true, l⟩ Y e fe) (hz : ∀ i, Γ0.getD i 0 = 0) : SX c W Γ (kA true) Y e (fun ρ => (fe ρ).bind fun p => (optR (atomD p.1)).bind fun d => .ok (d, p.2)) :=
  PE.imp h fun σ H Q ⟨F, A, ρ, r, h⟩ => by
    obtain ⟨F0, A0, r0, n0⟩ := r.relevel (Γ' := Γ0) fun i _ _ => by rw [hz]; exact Nat.zero_le _
    refine ⟨F0, A0, ρ, r0, (h.bind.at n0 fun _ z => z).imp fun p _ hp v H' F' A' B o => ?_⟩
    obtain ⟨d, e1, h2⟩ := Run.opt hp
    unfold atomD at e1
    split at e1 <;> cases e1
    rename_i ia
    obtain ⟨u1, u2, u3⟩ := o.mid.pu rfl
    have nn : Nxt H F (fun _ => False) H' F (fun _ => False) := ⟨fun a o e _ => u3.keep a o e (fun z => z), Sub.refl _, fun _ h => .inl h, fun _ z => z.elim⟩
    have r1 : Rep c.X Γ ρ σ H' F A := r.step nn (fun a o e => u3.keep a o (r.sub a o e) fun z => z) fun _ _ z => z
    replace h2 : Ends' c Γ (kA true) σ ρ H F A Q (p.1, p.2) := h2
    rw [u1] at h2
    exact h2 v H' F A [] ⟨⟨r1, nn.weak (fun _ z => z.elim) fun a z => .inr (z.elim (fun z => z) fun z => absurd z.2 (by simp)), fun _ => ⟨rfl, rfl, nn⟩⟩, .atom ((o.ot.rd_of_atom ia).atom ia) ia, fun _ => List.nodup_nil, fun _ a z => absurd z (by simp)⟩

/-! ### arguments that are own, all at one level -/
/-- behind an argument list: the values, each with its tree -/
structure OutL (c : Cf) (Γ : List Nat) (n : Nat) (σ : Sl) (ρ : Env) (H F : Hp) (A : Nat → List Addr) (ρ' : Env) (H' F' : Hp) (A' : Nat → List Addr) (qs : List (V × D × List Addr)) : Prop where
  rep : Rep c.X Γ ρ' σ H' F' A'
  nx : Nxt H F (Own A) H' F' (fun a => Own A' a ∨ a ∈ (qs.map (·.2.2)).flatten)
  ot : ∀ q ∈ qs, OT c.X H' F' n q.1 q.2.1 q.2.2
  nd : (qs.map (·.2.2)).flatten.Nodup
  dj : ∀ a ∈ (qs.map (·.2.2)).flatten, ¬ Own A' a
def tFo (c : Cf) (W : WX) (Γ : List Nat) (n : Nat) (f : Env → R (List D × Env)) : TA := fun σ H Q =>
  ∃ F A ρ, Rep c.X Γ ρ σ H F A ∧ Run c W σ H F (Own A) (f ρ) fun p => ∀ H' F' A' qs, p.1 = qs.map (·.2.1) → OutL c Γ n σ ρ H F A p.2 H' F' A' qs → Q (qs.map (·.1)) H'
abbrev SAo (c : Cf) (W : WX) (Γ : List Nat) (n : Nat) (Y : Cx) (es : List Expr) (f : Env → R (List D × Env)) : Prop := PA Y es (tFo c W Γ n f)
theorem sao_nil : SAo c W Γ n Y [] (fun ρ => .ok ([], ρ)) := PA.imp pa_nil fun σ H Q ⟨F, A, ρ, r, h⟩ => by
  replace h : ∀ H' F' A' qs, ([] : List D) = qs.map (·.2.1) → OutL c Γ n σ ρ H F A ρ H' F' A' qs → Q (qs.map (·.1)) H' := h
  exact h H F A [] rfl ⟨r, Nxt.refl.weak (fun _ h => h) fun a z => .inl (z.elim (fun z => z) fun z => absurd z (by simp)), fun _ z => absurd z (by simp), List.nodup_nil, fun _ z => absurd z (by simp)⟩
theorem sao_cons (he : SX c W Γ ⟨true, pa, n⟩ Y e fa) (hr : SAo c W Γ n Y es fs) (hs : starEach (e :: es) Y.env = (false, eval e Y.env) :: starEach es Y.env) :
    SAo c W Γ n Y (e :: es) (fun ρ => (fa ρ).bind fun p => (fs p.2).bind fun q => .ok (p.1 :: q.1, q.2)) :=
  PA.imp (pa_cons he hr hs) fun σ H Q ⟨F, A, ρ, r, h⟩ => tX.one (g := fun d ρ1 => (fs ρ1).bind fun q => .ok (d :: q.1, q.2)) r h fun x H1 F1 A1 d ρ1 B o h1 => by
    refine ⟨F1, A1, ρ1, o.rep, h1.bind.imp fun p _ hp H2 F2 A2 qs eq m => ?_⟩
    replace hp : ∀ H' F' A' rs, (d :: p.1) = rs.map (·.2.1) → OutL c Γ n σ ρ H F A p.2 H' F' A' rs → Q (rs.map (·.1)) H' := hp
    have dB := o.dj rfl
    have old : ∀ a ∈ B, H1 a ≠ none := fun a ha => (o.ot.dom a ha).1
    have nB : ∀ a ∈ B, ¬ (Own A2 a ∨ a ∈ (qs.map (·.2.2)).flatten) := fun a ha z => (m.nx.own a z).elim (dB a ha) (old a ha)
    refine hp H2 F2 A2 ((x, d, B) :: qs) (by rw [eq]; rfl) ⟨m.rep, ?_, fun q hq => ?_, ?_, fun a ha => ?_⟩
    · have := o.mid.nx.trans (m.nx.beside (B := fun a => true = true ∧ a ∈ B))
      refine this.weak (fun _ h => h) fun a z => .inl ?_
      rcases z with z | z
      · exact .inl (.inl z)
      · simp only [List.map_cons, List.flatten_cons, List.mem_append] at z
        exact z.elim (fun z => .inr ⟨rfl, z⟩) fun z => .inl (.inr z)
    · rcases List.mem_cons.mp hq with rfl | hq
      · exact o.ot.step m.nx dB
      · exact m.ot q hq
    · simp only [List.map_cons, List.flatten_cons]
      exact List.nodup_append.mpr ⟨o.nd rfl, m.nd, fun a ha b hb e => nB a ha (.inr (e ▸ hb))⟩
    · simp only [List.map_cons, List.flatten_cons, List.mem_append] at ha
      exact ha.elim (fun z w => nB a z (.inl w)) (m.dj a)
/-- a new list or tuple of own items -/
theorem OutL.made {t : Bool} {qs : List (V × D × List Addr)} (m : OutL c Γ n σ ρ H F A ρ' H' F' A' qs) {p : Addr} (hp : H' p = none) :
    Out c Γ ⟨true, false, n + 1⟩ σ ρ H F A ρ' (upd H' p (if t then .tup (qs.map (·.1)) else .lst (qs.map (·.1)))) F' A' (.ref p) (mkO t (qs.map (·.2.1))) (p :: (qs.map (·.2.2)).flatten) := by
  have sb := upd_sub (o := if t then HO.tup (qs.map (·.1)) else .lst (qs.map (·.1))) hp
  have hF : F' p = none := by
    cases e : F' p with
    | none => rfl
    | some o => rw [m.rep.sub p o e] at hp; cases hp
  have nn : Nxt H' F' (fun _ => False) (upd H' p (if t then HO.tup (qs.map (·.1)) else .lst (qs.map (·.1)))) F' (fun a => a = p) := ⟨fun a o e _ => sb a o e, Sub.refl _, fun _ h => .inl h, fun a z => .inr (by rw [z]; exact hp)⟩
  have np : p ∉ (qs.map (·.2.2)).flatten := fun z => by
    obtain ⟨l, hl, z⟩ := List.mem_flatten.mp z
    obtain ⟨q, hq, rfl⟩ := List.mem_map.mp hl
    exact ((m.ot q hq).dom p z).1 hp
  have ots : ∀ q ∈ qs, OT c.X (upd H' p (if t then HO.tup (qs.map (·.1)) else .lst (qs.map (·.1)))) F' n q.1 q.2.1 q.2.2 := fun q hq => (m.ot q hq).step nn fun _ _ z => z
  refine ⟨⟨m.rep.step nn (m.rep.sub.trans sb) fun _ _ z => z, ?_, fun z => by cases z⟩, ?_, fun _ => List.nodup_cons.mpr ⟨np, m.nd⟩, fun _ a ha => ?_⟩
  · have := m.nx.trans (nn.beside (B := fun a => Own A' a ∨ a ∈ (qs.map (·.2.2)).flatten) |>.weak (Q := fun a => Own A' a ∨ a ∈ (qs.map (·.2.2)).flatten) (Q' := fun a => a = p ∨ (Own A' a ∨ a ∈ (qs.map (·.2.2)).flatten)) (fun a z => z.elim False.elim fun z => z) fun a z => .inl z)
    refine this.weak (fun _ h => h) fun a z => .inl ?_
    rcases z with z | z
    · exact .inr (.inl z)
    · exact (List.mem_cons.mp z.2).elim .inl fun z => .inr (.inr z)
  · cases t
    · exact ⟨p, qs, rfl, rfl, upd_same, hF, rfl, ots⟩
    · exact ⟨p, qs, rfl, rfl, upd_same, hF, rfl, ots⟩
  · rcases List.mem_cons.mp ha with rfl | ha
    · exact fun z => (m.rep.dom z).1 hp
    · exact m.dj a ha
theorem sx_lsto (h : SAo c W Γ n Y es fs) (hl : es.length ≤ 1000) (hk : ∀ ρ p, fs ρ = .ok p → p.1.length = es.length) : SX c W Γ ⟨true, false, n + 1⟩ Y (.List es pos) (fun ρ => (fs ρ).bind fun p => .ok (.lst p.1, p.2)) :=
  PE.imp (pe_lst h) fun σ H Q ⟨F, A, ρ, r, h⟩ => ⟨F, A, ρ, r, h.bind.imp fun p e0 hp H' F' A' qs eq m => by
    replace hp : Ends' c Γ ⟨true, false, n + 1⟩ σ ρ H F A Q (.lst p.1, p.2) := hp
    have hq : qs.length = es.length := by rw [← hk ρ p e0, eq, List.length_map]
    refine ⟨by rw [List.length_map, hq, sizeLine_eq]; omega, fun q hq => ?_⟩
    rw [eq] at hp
    exact hp _ _ _ _ _ (m.made (t := false) hq)⟩
theorem sx_tupo {x1} (h : SAo c W Γ n Y es fs) (hl : es.length ≤ 1000) (hk : ∀ ρ p, fs ρ = .ok p → p.1.length = es.length) : SX c W Γ ⟨true, false, n + 1⟩ Y (.Tuple es x1 pos) (fun ρ => (fs ρ).bind fun p => .ok (.tup p.1, p.2)) :=
  PE.imp (pe_tup h) fun σ H Q ⟨F, A, ρ, r, h⟩ => ⟨F, A, ρ, r, h.bind.imp fun p e0 hp H' F' A' qs eq m => by
    replace hp : Ends' c Γ ⟨true, false, n + 1⟩ σ ρ H F A Q (.tup p.1, p.2) := hp
    have hq : qs.length = es.length := by rw [← hk ρ p e0, eq, List.length_map]
    refine ⟨by rw [List.length_map, hq, sizeLine_eq]; omega, fun q hq => ?_⟩
    rw [eq] at hp
    exact hp _ _ _ _ _ (m.made (t := true) hq)⟩

/-! ### a comprehension that lends each item of an own list -/
/-- beside the slots: the walked object at a (its items' trees qs), the new list at p -/
structure Lw (X : Tx) (n : Nat) (u : HO) (a p : Addr) (xs : List V) (qs : List (V × D × List Addr)) (H F : Hp) (A : Nat → List Addr) : Prop where
  at_ : H a = some u
  fr : F a = none
  own : ¬ Own A a
  ka : Kept p xs H F A
  ot : ∀ q ∈ qs, OT X H F n q.1 q.2.1 q.2.2
  nd : (a :: p :: (qs.map (·.2.2)).flatten).Nodup
  dj : ∀ b ∈ (qs.map (·.2.2)).flatten, ¬ Own A b
theorem flat_in {qs : List (V × D × List Addr)} {q : V × D × List Addr} (h : q ∈ qs) {b : Addr} (m : b ∈ q.2.2) : b ∈ (qs.map (·.2.2)).flatten := flat_mem (f := fun q : V × D × List Addr => q.2.2) h m
/-- .. over a step that touches nothing of it -/
theorem Lw.step {X : Tx} {u : HO} {a p : Addr} {xs : List V} {qs : List (V × D × List Addr)} (w : Lw X n u a p xs qs H F A) (nx : Nxt H F (Own A1) H' F' (Own A')) (ha : ¬ Own A1 a) (hp : ¬ Own A1 p) (hq : ∀ b ∈ (qs.map (·.2.2)).flatten, ¬ Own A1 b) : Lw X n u a p xs qs H' F' A' := by
  have gone : ∀ b, H b ≠ none → ¬ Own A1 b → ¬ Own A' b := fun b h1 h2 z => (nx.own b z).elim h2 h1
  have fr : ∀ b, H b ≠ none → F b = none → ¬ Own A1 b → F' b = none := fun b h1 h2 h3 => by
    cases e : F' b with
    | none => rfl
    | some o =>
      rcases nx.new b (by rw [e]; simp) with z | z | z
      · exact absurd h2 z
      · exact absurd z h3
      · exact absurd z h1
  have hpn : H p ≠ none := by rw [w.ka.at_]; simp
  have han : H a ≠ none := by rw [w.at_]; simp
  refine ⟨nx.keep a _ w.at_ ha, fr a han w.fr ha, gone a han ha, ⟨nx.keep p _ w.ka.at_ hp, fr p hpn w.ka.fr hp, gone p hpn hp⟩, fun q h => (w.ot q h).step nx fun b m => hq b (flat_in h m), w.nd, fun b m => ?_⟩
  obtain ⟨l, hl, z⟩ := List.mem_flatten.mp m
  obtain ⟨q, h, rfl⟩ := List.mem_map.mp hl
  exact gone b ((w.ot q h).dom b z).1 (hq b m)
def lcwF (fe : Env → R (D × Env)) (j i : Nat) : Env → R (D × Env) := fun ρ => (optR ((gt ρ i).bind ownI)).bind fun p => (nox (lcwR fe j i p.2 ((ρ.set i none).set j none) [] [])).bind fun r => .ok (.lst r.2.1, st (backO ρ r.2.2 j) i (mkO p.1 r.1))
theorem lcw_core {J : It} {G : Hp → Prop} {t : Bool} {l : List D} {a : Addr} {qs : List (V × D × List Addr)} {Q : VK} (hij : i ≠ j) (hjl : j < Γ.length) (hi : Γ.getD i 0 = n + 1) (hj : Γ.getD j 0 = 0) (r : Rep c.X Γ ρ σ H F A)
    (eo : σ[i]? = some (some (.ref a))) (ei : gt ρ i = some (mkO t l)) (el : l = qs.map (·.2.1)) (ea : H a = some (if t then HO.tup (qs.map (·.1)) else .lst (qs.map (·.1)))) (fa : F a = none) (eA : A i = a :: (qs.map (·.2.2)).flatten) (ots : ∀ q ∈ qs, OT c.X H F n q.1 q.2.1 q.2.2)
    (w : Walk J (qs.map (·.1)).length G (YAt (qs.map (·.1)))) (hG : ∀ H', H' a = some (if t then HO.tup (qs.map (·.1)) else .lst (qs.map (·.1))) → G H')
    (h : Run c W σ H F (Own A) ((nox (lcwR fe j i l ((ρ.set i none).set j none) [] [])).bind fun r => .ok (.lst r.2.1, st (backO ρ r.2.2 j) i (mkO t r.1))) (Ends' c Γ ⟨true, false, 1⟩ σ ρ H F A Q)) :
    ∀ Dp, H Dp = none → ∃ W' : Nat → Nat → Hp → Prop, (∃ m, W' 0 m (upd H Dp (.lst []))) ∧ ∀ i m H, W' i m H →
      (J.stop i H ∧ Q (.ref Dp) H) ∨ (J.go i H ∧ ∃ Nx : Hp → Prop, (∀ H', Nx H' → ∃ m', m' < m ∧ W' (i + 1) m' H') ∧ ∀ x H', J.yld i H x H' → gName j x (wipe σ [j]) H' fun σ2 H2 => wipe σ2 [j] = wipe σ [j] ∧ tYes σ2 H2 fun b H3 =>
        if b = true then tX c never (Γ.set j n) ⟨true, pe, 0⟩ fe σ2 H3 fun y H4 => ∃ acc, H4 Dp = some (.lst acc) ∧ acc.length < sizeLine ∧ Nx (upd H4 Dp (.lst (acc ++ [y]))) else Nx H3) := by
  intro Dp hD
  have hil : i < ρ.length := (List.getElem?_eq_some_iff.mp (gt_ok ei)).1
  have iown : ∀ b ∈ A i, Own A b := fun b hb => ⟨i, hb⟩
  cases er : lcwR fe j i l ((ρ.set i none).set j none) [] [] with
  | error z => rw [er] at h; exact h.elim
  | ok rr =>
  rw [er] at h
  replace h : Ends' c Γ ⟨true, false, 1⟩ σ ρ H F A Q (.lst rr.2.1, st (backO ρ rr.2.2 j) i (mkO t rr.1)) := h
  have Aj : A j = [] := by
    by_cases e : ∃ d, ρ[j]? = some (some d)
    · obtain ⟨d, e⟩ := e
      obtain ⟨v, _, o⟩ := r.val j d e
      rw [hj] at o
      exact o.1
    · exact r.non j fun d z => e ⟨d, z⟩
  let u : HO := if t then HO.tup (qs.map (·.1)) else .lst (qs.map (·.1))
  let Pv : Nat → Hp → Prop := fun k H' => ∃ F' A' ρ', ∃ (dn td : List (V × D × List Addr)) (ps : List (V × D)), dn.length = k ∧ td = qs.drop k ∧ dn.map (·.1) = (qs.take k).map (·.1) ∧
    Sub F F' ∧ Rep c.X Γ ρ' (wipe σ [j]) H' F' A' ∧ ρ'.length = ρ.length ∧ ρ'[i]? = some none ∧ (j < ρ.length → ρ'[j]? = some none) ∧
    Lw c.X n u a Dp (ps.map (·.1)) (dn ++ td) H' F' A' ∧ (∀ q ∈ ps, RD c.X F' q.1 q.2) ∧
    Nxt H F (Own A) H' F' (fun b => Own A' b ∨ b ∈ a :: Dp :: ((dn ++ td).map (·.2.2)).flatten) ∧ lcwR fe j i (td.map (·.2.1)) ρ' (dn.map (·.2.1)) (ps.map (·.2)) = .ok rr
  have sb := upd_sub (o := .lst []) hD
  refine lc_it w Pv ?_ (fun k H' _ ⟨F', A', ρ', dn, td, ps, _, _, _, _, _, _, _, _, lw, _⟩ => hG H' lw.at_) ?_ ?_
  · have n0 : Nxt H F (fun _ => False) (upd H Dp (.lst [])) F (fun b => b = Dp) := ⟨fun b o e _ => sb b o e, Sub.refl _, fun _ h => .inl h, fun b z => .inr (by rw [z]; exact hD)⟩
    have r1 : Rep c.X Γ ρ σ (upd H Dp (.lst [])) F A := r.step n0 (r.sub.trans sb) fun _ _ z => z
    have r2 := (r1.drop i).drop j
    have aA : ∀ k, a ∈ A k → k = i := fun k hk => Classical.byContradiction fun z => r.dis k i z a hk (by rw [eA]; exact List.mem_cons_self)
    have fl : ∀ b ∈ (qs.map (·.2.2)).flatten, b ∈ A i := fun b hb => by rw [eA]; exact List.mem_cons_of_mem _ hb
    have nA : ∀ b, Own (fun k => if k = j then [] else (fun k => if k = i then [] else A k) k) b → Own A b ∧ b ∉ A i := fun b ⟨k, z⟩ => by
      by_cases e1 : k = j
      · simp [e1] at z
      · by_cases e2 : k = i
        · simp [e2] at z
        · simp only [e1, e2, if_false] at z
          exact ⟨⟨k, z⟩, fun y => r.dis k i e2 b z y⟩
    have nD : ¬ Own A Dp := fun z => (r.dom z).1 hD
    have fD : F Dp = none := by
      cases e : F Dp with
      | none => rfl
      | some o => rw [r.sub Dp o e] at hD; cases hD
    have naD : a ≠ Dp := fun e => by rw [e, hD] at ea; cases ea
    refine ⟨F, _, (ρ.set i none).set j none, [], qs, [], rfl, rfl, rfl, Sub.refl _, r2.swap (wipe_length _ _) fun k d e => wipe_out ?_, by simp, ?_, fun hjl => ?_, ⟨?_, fa, fun z => (nA a z).2 (by rw [eA]; exact List.mem_cons_self), ⟨upd_same, fD, fun z => nD (nA _ z).1⟩, fun q hq => (ots q hq).step n0 fun _ _ z => z, ?_, fun b hb z => (nA b z).2 (fl b hb)⟩, fun _ z => absurd z (by simp), ?_, by rw [← el]; exact er⟩
    · intro z
      have : k = j := by simpa using z
      subst this
      by_cases hl : k < (ρ.set i none).length
      · rw [List.getElem?_set_self hl] at e; cases e
      · rw [List.getElem?_eq_none (by rw [List.length_set]; omega)] at e; cases e
    · rw [List.getElem?_set_ne (Ne.symm hij), List.getElem?_set_self hil]
    · rw [List.getElem?_set_self (by simpa using hjl)]
    · rw [upd_ne naD]; exact ea
    · have nd := r.nd i
      rw [eA] at nd
      obtain ⟨n1, n2⟩ := List.nodup_cons.mp nd
      refine List.nodup_cons.mpr ⟨fun z => ?_, List.nodup_cons.mpr ⟨fun z => nD ⟨i, fl _ z⟩, n2⟩⟩
      rcases List.mem_cons.mp z with z | z
      · exact naD z
      · exact n1 z
    · have := (n0.beside (B := Own A)).weak (Q := Own A) (Q' := fun b => Own (fun k => if k = j then [] else (fun k => if k = i then [] else A k) k) b ∨ b ∈ a :: Dp :: ((([] : List (V × D × List Addr)) ++ qs).map (·.2.2)).flatten) (fun b z => z.elim False.elim fun z => z) fun b z => .inl ?_
      · exact this
      · rcases z with z | z
        · exact .inr (nA b z).1
        · rcases List.mem_cons.mp z with z | z
          · exact .inr ⟨i, by rw [eA, z]; exact List.mem_cons_self⟩
          · rcases List.mem_cons.mp z with z | z
            · exact .inl z
            · exact .inr ⟨i, fl b z⟩
  · intro k x Hc H2 hlt ⟨F', A', ρ', dn, td, ps, hk, htd, hv, s, r', hlen, oi, oj, lw, hps, nx, ecomp⟩ hy
    obtain ⟨rfl, hx⟩ := hy
    rw [List.length_map] at hlt
    have htd2 : td = qs[k] :: qs.drop (k + 1) := by rw [htd]; exact List.drop_eq_getElem_cons hlt
    generalize hq : qs[k] = q at htd2
    generalize hr : qs.drop (k + 1) = rest at htd2
    have ex : x = q.1 := by
      rw [List.getElem?_map, List.getElem?_eq_getElem hlt, hq] at hx
      exact (Option.some.inj hx).symm
    subst ex
    rw [htd2] at ecomp lw nx
    have hq0 : q ∈ dn ++ q :: rest := by simp
    have efl : ((dn ++ q :: rest).map (·.2.2)).flatten = (dn.map (·.2.2)).flatten ++ (q.2.2 ++ (rest.map (·.2.2)).flatten) := by simp
    have efr : ((dn ++ rest).map (·.2.2)).flatten = (dn.map (·.2.2)).flatten ++ (rest.map (·.2.2)).flatten := by simp
    have nd1 := lw.nd
    rw [efl] at nd1
    have pm : ∀ N : List Addr, (a :: Dp :: ((dn.map (·.2.2)).flatten ++ (N ++ (rest.map (·.2.2)).flatten))).Perm (N ++ (a :: Dp :: ((dn.map (·.2.2)).flatten ++ (rest.map (·.2.2)).flatten))) := fun N =>
      (((List.perm_append_comm_assoc _ _ _).cons Dp).cons a).trans ((List.perm_middle.symm.cons a).trans List.perm_middle.symm)
    obtain ⟨nq, nS, nqS⟩ := List.nodup_append.mp ((pm q.2.2).nodup_iff.mp nd1)
    have ndq : q.2.2.Nodup := nq
    have djq : ∀ b ∈ q.2.2, ¬ Own A' b := fun b hb => lw.dj b (flat_in hq0 hb)
    obtain ⟨A2, r2, o2⟩ := r'.store (i := j) hjl (lw.ot q hq0) ndq djq
    have inS : ∀ b ∈ (dn.map (·.2.2)).flatten ++ (rest.map (·.2.2)).flatten, b ∈ ((dn ++ q :: rest).map (·.2.2)).flatten := fun b hb => by
      rw [efl]
      rcases List.mem_append.mp hb with z | z
      · exact List.mem_append_left _ z
      · exact List.mem_append_right _ (List.mem_append_right _ z)
    have nS2 : ∀ b ∈ a :: Dp :: ((dn.map (·.2.2)).flatten ++ (rest.map (·.2.2)).flatten), H2 b ≠ none ∧ ¬ Own A2 b := fun b hb => by
      have nb : b ∉ q.2.2 := fun z => nqS b z b hb rfl
      have key : H2 b ≠ none ∧ ¬ Own A' b := by
        rcases List.mem_cons.mp hb with rfl | hb
        · exact ⟨by rw [lw.at_]; simp, lw.own⟩
        · rcases List.mem_cons.mp hb with rfl | hb
          · exact ⟨by rw [lw.ka.at_]; simp, lw.ka.nown⟩
          · refine ⟨?_, lw.dj b (inS b hb)⟩
            obtain ⟨l', hl', z⟩ := List.mem_flatten.mp (inS b hb)
            obtain ⟨q', hq', rfl⟩ := List.mem_map.mp hl'
            exact ((lw.ot q' hq').dom b z).1
      exact ⟨key.1, fun z => (o2 b z).elim key.2 nb⟩
    have lw' : Lw c.X n u a Dp (ps.map (·.1)) (dn ++ rest) H2 F' A' := ⟨lw.at_, lw.fr, lw.own, lw.ka, fun q' h' => lw.ot q' ((List.mem_append.mp h').elim (fun z => List.mem_append_left _ z) fun z => List.mem_append_right _ (List.mem_cons_of_mem _ z)), by rw [efr]; exact nS, fun b hb => lw.dj b (inS b (by rw [← efr]; exact hb))⟩
    obtain ⟨p1, e1, e2⟩ := bind_ok_inv (show (fe (st ρ' j q.2.1)).bind (fun p : D × Env => (optR (gt p.2 j)).bind fun x' : D => if (ps.map fun z : V × D => z.2).length < lim then lcwR fe j i (rest.map fun z : V × D × List Addr => z.2.1) ((p.2.set i none).set j none) ((dn.map fun z : V × D × List Addr => z.2.1) ++ [x']) ((ps.map fun z : V × D => z.2) ++ [p.1]) else bad) = .ok rr from ecomp)
    obtain ⟨x', e3, e4⟩ := bind_ok_inv e2
    have e3 : gt p1.2 j = some x' := by
      cases e : gt p1.2 j with
      | none => rw [e] at e3; cases e3
      | some y => rw [e] at e3; cases e3; rfl
    split at e4
    case isFalse => cases e4
    rename_i hacc
    refine ⟨?_, ?_⟩
    · exact wipe_agree (own := [j]) (.set (by simp [inOwn]))
    show tX c never (Γ.set j n) { own := true, pu := pe, lv := 0 } fe ((wipe σ [j]).set j (some q.1)) H2 fun y H4 => ∃ acc, H4 Dp = some (HO.lst acc) ∧ acc.length < sizeLine ∧ Pv (k + 1) (upd H4 Dp (HO.lst (acc ++ [y])))
    refine ⟨F', A2, st ρ' j q.2.1, r2, Run.of_eq e1 fun y H5 F5 A5 B o5 => ?_⟩
    have lw5 := lw'.step o5.nx0 (nS2 a List.mem_cons_self).2 (nS2 Dp (List.mem_cons_of_mem _ List.mem_cons_self)).2 fun b hb => (nS2 b (List.mem_cons_of_mem _ (List.mem_cons_of_mem _ (by rw [← efr]; exact hb)))).2
    refine ⟨ps.map (·.1), lw5.ka.at_, by rw [← line_lim]; simpa using hacc, ?_⟩
    have jl : j < p1.2.length := (List.getElem?_eq_some_iff.mp (gt_ok e3)).1
    have jl2 : j < (wipe σ [j]).length := by
      have := o5.rep.len
      rw [List.length_set] at this
      omega
    obtain ⟨v', ev', ox⟩ := o5.rep.val j x' (gt_ok e3)
    rw [List.getElem?_set_self jl2] at ev'
    cases ev'
    rw [getD_set_self hjl] at ox
    have nN : ∀ b ∈ A5 j, b ∉ a :: Dp :: ((dn.map (·.2.2)).flatten ++ (rest.map (·.2.2)).flatten) := fun b hb z => (o5.nx0.own b ⟨j, hb⟩).elim (nS2 b z).2 (nS2 b z).1
    let A6 : Nat → List Addr := fun k => if k = j then [] else (fun k => if k = i then [] else A5 k) k
    have r6 := (o5.rep.drop i).drop j
    have own6 : ∀ b, Own A6 b → Own A5 b ∧ b ∉ A5 j := fun b ⟨k, z⟩ => by
      by_cases e : k = j
      · simp [A6, e] at z
      · by_cases e2 : k = i
        · simp [A6, e2] at z
        · simp only [A6, e, e2, if_false] at z
          exact ⟨⟨k, z⟩, fun y => o5.rep.dis k j e b z y⟩
    have jl3 : j < (p1.2.set i none).length := by simpa using jl
    have r7 : Rep c.X Γ ((p1.2.set i none).set j none) (wipe σ [j]) H5 F5 A6 := by
      have r6' : Rep c.X Γ ((p1.2.set i none).set j none) ((wipe σ [j]).set j (some q.1)) H5 F5 A6 := ⟨r6.sub, r6.len, fun k d hk => by
        obtain ⟨v, ev, o⟩ := r6.val k d hk
        refine ⟨v, ev, ?_⟩
        by_cases e : k = j
        · subst e
          rw [List.getElem?_set_self jl3] at hk; cases hk
        · rw [getD_set_ne (Ne.symm e)] at o; exact o, r6.non, r6.nd, r6.dis⟩
      refine r6'.swap (by simp) fun k d hk => ?_
      by_cases e : k = j
      · subst e
        rw [List.getElem?_set_self jl3] at hk; cases hk
      · rw [List.getElem?_set_ne (Ne.symm e)]
    have sub6 : Sub F5 (upd H5 Dp (.lst (ps.map (·.1) ++ [y]))) := fun b o e => by
      have : b ≠ Dp := fun z => by rw [z, lw5.ka.fr] at e; cases e
      rw [upd_ne this]; exact o5.rep.sub b o e
    have n6 : Nxt H5 F5 (fun b => b = Dp) (upd H5 Dp (.lst (ps.map (·.1) ++ [y]))) F5 (fun b => b = Dp) := ⟨fun b o e hb => by rw [upd_ne hb]; exact e, Sub.refl _, fun _ h => .inl h, fun _ h => .inl h⟩
    have nD6 : ¬ Own A6 Dp := fun z => lw5.ka.nown (own6 _ z).1
    have r8 := r7.step n6 sub6 fun b z e => nD6 (e ▸ z)
    let new : V × D × List Addr := (q.1, x', A5 j)
    have efn : (((dn ++ [new]) ++ rest).map (·.2.2)).flatten = (dn.map (·.2.2)).flatten ++ (A5 j ++ (rest.map (·.2.2)).flatten) := by simp [new]
    have stepT : ∀ q' ∈ (dn ++ [new]) ++ rest, OT c.X H5 F5 n q'.1 q'.2.1 q'.2.2 := fun q' h' => by
      rw [List.append_assoc] at h'
      rcases List.mem_append.mp h' with z | z
      · exact lw5.ot q' (List.mem_append_left _ z)
      · rcases List.mem_append.mp z with z | z
        · rw [List.mem_singleton.mp z]; exact ox
        · exact lw5.ot q' (List.mem_append_right _ z)
    have ndn : (a :: Dp :: (((dn ++ [new]) ++ rest).map (·.2.2)).flatten).Nodup := by
      rw [efn]
      exact (pm (A5 j)).nodup_iff.mpr (List.nodup_append.mpr ⟨o5.rep.nd j, nS, fun b hb b' hb' e => nN b hb (e ▸ hb')⟩)
    have nDt : Dp ∉ (((dn ++ [new]) ++ rest).map (·.2.2)).flatten := (List.nodup_cons.mp (List.nodup_cons.mp ndn).2).1
    have lw6 : Lw c.X n u a Dp ((ps ++ [(y, p1.1)]).map (·.1)) ((dn ++ [new]) ++ rest) (upd H5 Dp (.lst (ps.map (·.1) ++ [y]))) F5 A6 := by
      refine ⟨?_, lw5.fr, fun z => lw5.own (own6 _ z).1, ⟨by rw [upd_same, List.map_append]; rfl, lw5.ka.fr, nD6⟩, fun q' h' => (stepT q' h').step n6 fun b hb e => nDt (e ▸ flat_in h' hb), ndn, fun b hb => ?_⟩
      · have : a ≠ Dp := fun e => by
          have := lw.nd
          rw [e] at this
          exact (List.nodup_cons.mp this).1 List.mem_cons_self
        rw [upd_ne this]; exact lw5.at_
      · rw [efn] at hb
        intro z
        rcases List.mem_append.mp hb with w | w
        · exact lw5.dj b (by rw [efr]; exact List.mem_append_left _ w) (own6 _ z).1
        · rcases List.mem_append.mp w with w | w
          · exact (own6 _ z).2 w
          · exact lw5.dj b (by rw [efr]; exact List.mem_append_right _ w) (own6 _ z).1
    have hk1 : k < qs.length := hlt
    refine ⟨F5, A6, (p1.2.set i none).set j none, dn ++ [new], rest, ps ++ [(y, p1.1)], by simp [hk], ?_, ?_, s.trans o5.nx0.fro, r8, ?_, ?_, fun _ => List.getElem?_set_self jl3, lw6, fun z hz => ?_, ?_, by rw [List.map_append, List.map_append]; exact e4⟩
    · exact hr.symm
    · rw [List.map_append, hv, List.take_succ_eq_append_getElem hlt, List.map_append, hq]; rfl
    · rw [List.length_set, List.length_set, ← hlen]
      have h1 := o5.rep.len
      have h2 := r'.len
      rw [List.length_set] at h1
      rw [h1, h2]
    · rw [List.getElem?_set_ne (Ne.symm hij), List.getElem?_set_self]
      have h1 := o5.rep.len
      have h2 := r'.len
      rw [List.length_set] at h1
      rw [h1, ← h2, hlen]; exact hil
    · rcases List.mem_append.mp hz with z | z
      · exact (hps _ z).mono o5.nx0.fro
      · rw [List.mem_singleton.mp z]; exact o5.ot.2
    · have m1 := o5.nx0.beside (B := fun b => b ∈ a :: Dp :: ((dn.map (·.2.2)).flatten ++ (rest.map (·.2.2)).flatten))
      have memS : ∀ b, b ∈ a :: Dp :: ((dn.map (·.2.2)).flatten ++ (rest.map (·.2.2)).flatten) → b ∈ a :: Dp :: ((dn ++ q :: rest).map (·.2.2)).flatten := fun b hb => by
        rcases List.mem_cons.mp hb with z | hb
        · exact List.mem_cons.mpr (.inl z)
        · rcases List.mem_cons.mp hb with z | hb
          · exact List.mem_cons_of_mem _ (List.mem_cons.mpr (.inl z))
          · exact List.mem_cons_of_mem _ (List.mem_cons_of_mem _ (inS b hb))
      have m2 := m1.weak (Q := fun b => Own A' b ∨ b ∈ a :: Dp :: ((dn ++ q :: rest).map (·.2.2)).flatten) (Q' := fun b => Own A6 b ∨ b ∈ a :: Dp :: (((dn ++ [new]) ++ rest).map (·.2.2)).flatten) (fun b z => by
        rcases z with z | z
        · rcases o2 b z with z | z
          · exact .inl z
          · exact .inr (List.mem_cons_of_mem _ (List.mem_cons_of_mem _ (flat_in hq0 z)))
        · exact .inr (memS b z)) (fun b z => .inl (by
        rcases z with z | z
        · exact .inl (own6 b z).1
        · rw [efn] at z
          rcases List.mem_cons.mp z with w | z
          · exact .inr (List.mem_cons.mpr (.inl w))
          · rcases List.mem_cons.mp z with w | z
            · exact .inr (List.mem_cons_of_mem _ (List.mem_cons.mpr (.inl w)))
            · rcases List.mem_append.mp z with w | z
              · exact .inr (List.mem_cons_of_mem _ (List.mem_cons_of_mem _ (List.mem_append_left _ w)))
              · rcases List.mem_append.mp z with w | z
                · exact .inl ⟨j, w⟩
                · exact .inr (List.mem_cons_of_mem _ (List.mem_cons_of_mem _ (List.mem_append_right _ z)))))
      have m3 := n6.weak (Q := fun b => Own A6 b ∨ b ∈ a :: Dp :: (((dn ++ [new]) ++ rest).map (·.2.2)).flatten) (Q' := fun b => Own A6 b ∨ b ∈ a :: Dp :: (((dn ++ [new]) ++ rest).map (·.2.2)).flatten) (fun b z => .inr (by rw [z]; exact List.mem_cons_of_mem _ List.mem_cons_self)) fun b z => .inr z
      exact nx.trans (m2.trans m3)
  · intro He ⟨F', A', ρ', dn, td, ps, hk, htd, hv, s, r', hlen, oi, oj, lw, hps, nx, ecomp⟩
    rw [List.length_map] at hk htd hv
    rw [List.drop_length] at htd
    rw [List.take_length] at hv
    subst htd
    rw [List.append_nil] at lw nx
    replace ecomp : (Except.ok (dn.map (·.2.1), ps.map (·.2), ρ') : R (List D × List D × Env)) = .ok rr := ecomp
    cases ecomp
    let Af : Nat → List Addr := fun k => if k = i then a :: (dn.map (·.2.2)).flatten else A' k
    have nd := lw.nd
    have ndD : Dp ∉ a :: (dn.map (·.2.2)).flatten := fun z => by
      rcases List.mem_cons.mp z with z | z
      · rw [z] at nd; exact (List.nodup_cons.mp nd).1 List.mem_cons_self
      · exact (List.nodup_cons.mp (List.nodup_cons.mp nd).2).1 z
    have nda : (a :: (dn.map (·.2.2)).flatten).Nodup := List.nodup_cons.mpr ⟨fun z => (List.nodup_cons.mp nd).1 (List.mem_cons_of_mem _ z), (List.nodup_cons.mp (List.nodup_cons.mp nd).2).2⟩
    have dja : ∀ b ∈ a :: (dn.map (·.2.2)).flatten, ¬ Own A' b := fun b hb => by
      rcases List.mem_cons.mp hb with rfl | hb
      · exact lw.own
      · exact lw.dj b hb
    have Aj' : A' j = [] := r'.non j fun d z => by
      by_cases hl : j < ρ.length
      · rw [oj hl] at z; cases z
      · rw [List.getElem?_eq_none (by rw [hlen]; omega)] at z; cases z
    have ownf : ∀ b, Own Af b → Own A' b ∨ b ∈ a :: (dn.map (·.2.2)).flatten := fun b ⟨k, z⟩ => by
      by_cases e : k = i
      · simp only [Af, e, if_true] at z; exact .inr z
      · simp only [Af, e, if_false] at z; exact .inl ⟨k, z⟩
    have lb : (backO ρ ρ' j).length = ρ.length := by unfold backO; rw [List.length_set, hlen]
    refine h (.ref Dp) He F' Af [Dp] ⟨⟨⟨r'.sub, by unfold st; rw [List.length_set, lb]; exact r.len, fun k d hk' => ?_, fun k hk' => ?_, fun k => ?_, fun k m hkm b hb hm => ?_⟩, ?_, fun z => by cases z⟩, ?_, fun _ => by simp, fun _ b hb z => ?_⟩
    · unfold st at hk'
      by_cases e : k = i
      · subst e
        rw [List.getElem?_set_self (by rw [lb]; exact hil)] at hk'
        cases hk'
        refine ⟨.ref a, eo, ?_⟩
        rw [hi]
        have eat := lw.at_
        have efr := lw.fr
        have eot := lw.ot
        simp only [u] at eat
        rw [← hv] at eat
        cases t
        · exact ⟨a, dn, rfl, rfl, eat, efr, by simp [Af], eot⟩
        · exact ⟨a, dn, rfl, rfl, eat, efr, by simp [Af], eot⟩
      · rw [List.getElem?_set_ne (Ne.symm e)] at hk'
        unfold backO at hk'
        by_cases e2 : k = j
        · subst e2
          have hl : k < ρ'.length := by
            have := (List.getElem?_eq_some_iff.mp hk').1
            simpa using this
          rw [List.getElem?_set_self hl] at hk'
          have hk2 : ρ[k]? = some (some d) := by
            cases e3 : ρ[k]? with
            | none => rw [e3] at hk'; cases hk'
            | some z => rw [e3] at hk'; cases hk'; rfl
          obtain ⟨v, ev, o⟩ := r.val k d hk2
          refine ⟨v, ev, ?_⟩
          rw [hj] at o ⊢
          simp only [Af, e, if_false]
          exact ⟨Aj', o.2.mono s⟩
        · rw [List.getElem?_set_ne (Ne.symm e2)] at hk'
          obtain ⟨v, ev, o⟩ := r'.val k d hk'
          rw [wipe_out (by simpa using e2)] at ev
          refine ⟨v, ev, ?_⟩
          simp only [Af, e, if_false]
          exact o
    · by_cases e : k = i
      · subst e
        exact absurd (by unfold st; rw [List.getElem?_set_self (by rw [lb]; exact hil)]) (hk' _)
      · simp only [Af, e, if_false]
        by_cases e2 : k = j
        · rw [e2]; exact Aj'
        · exact r'.non k fun d z => hk' d (by unfold st backO; rw [List.getElem?_set_ne (Ne.symm e), List.getElem?_set_ne (Ne.symm e2)]; exact z)
    · by_cases e : k = i
      · simp only [Af, e, if_true]; exact nda
      · simp only [Af, e, if_false]; exact r'.nd k
    · by_cases e : k = i <;> by_cases e' : m = i
      · exact hkm (e.trans e'.symm)
      · simp only [Af, e, e', if_true, if_false] at hb hm; exact dja b hb ⟨m, hm⟩
      · simp only [Af, e, e', if_true, if_false] at hb hm; exact dja b hm ⟨k, hb⟩
      · simp only [Af, e, e', if_false] at hb hm; exact r'.dis k m hkm b hb hm
    · refine nx.weak (fun _ z => z) fun b z => .inl ?_
      rcases z with z | z
      · rcases ownf b z with z | z
        · exact .inl z
        · refine .inr ?_
          rcases List.mem_cons.mp z with z | z
          · exact List.mem_cons.mpr (.inl z)
          · exact List.mem_cons_of_mem _ (List.mem_cons_of_mem _ z)
      · rw [List.mem_singleton.mp z.2]
        exact .inr (List.mem_cons_of_mem _ List.mem_cons_self)
    · refine ⟨Dp, ps.map fun q => (q.1, q.2, []), rfl, by rw [List.map_map]; rfl, by rw [lw.ka.at_, List.map_map]; rfl, lw.ka.fr, ?_, fun q hq' => ?_⟩
      · rw [List.map_map]
        have : (List.map ((fun x : V × D × List Addr => x.2.2) ∘ fun x : V × D => (x.1, x.2, [])) ps).flatten = [] := by
          simp [List.flatten_eq_nil_iff]
        rw [this]
      · obtain ⟨z, hz, rfl⟩ := List.mem_map.mp hq'
        exact ⟨rfl, hps z hz⟩
    · rw [List.mem_singleton.mp hb] at z
      exact (ownf _ z).elim lw.ka.nown ndD

theorem lcw_go {Q : VK} (hij : i ≠ j) (hjl : j < Γ.length) (hi : Γ.getD i 0 = n + 1) (hj : Γ.getD j 0 = 0) (h : tX c W Γ ⟨true, false, 1⟩ (lcwF fe j i) σ H Q) :
    tLc (iSeq c.X.K (tVar i)) (gName j) tYes (tX c never (Γ.set j n) ⟨true, pe, 0⟩ fe) [j] σ H Q := by
  obtain ⟨F, A, ρ, r, h⟩ := h
  obtain ⟨p, e1, h⟩ := Run.opt h
  obtain ⟨d, e2, e3⟩ := Option.bind_eq_some_iff.mp e1
  obtain ⟨v, ev, o⟩ := r.val i d (gt_ok e2)
  rw [hi] at o
  refine ⟨v, ev, ?_⟩
  cases d <;> first | (cases e3; done) | skip
  · rename_i l
    cases e3
    obtain ⟨a, qs, rfl, q2, q3, q4, q5, q6⟩ := o
    refine .inl ⟨a, rfl, ⟨_, .of q3⟩, ?_⟩
    exact lcw_core (t := false) hij hjl hi hj r ev e2 q2 q3 q4 q5 q6 (G := fun H => SqL c.X.K H a (qs.map (·.1))) walk_list (fun H' z => .of (by simpa using z)) h
  · rename_i l
    cases e3
    obtain ⟨a, qs, rfl, q2, q3, q4, q5, q6⟩ := o
    refine .inr (.inl ⟨a, rfl, ⟨_, .of q3⟩, ?_⟩)
    exact lcw_core (t := true) hij hjl hi hj r ev e2 q2 q3 q4 q5 q6 (G := fun H => SqT c.X.K H a (qs.map (·.1))) walk_tup (fun H' z => .of (by simpa using z)) h
theorem ss_setLcw {l : Nat} {sm : Stmt} (nm : NmAt Y Γ Z l x) (hij : i ≠ j) (hjl : j < Γ.length) (hi : Γ.getD i 0 = n + 1) (hj : Γ.getD j 0 = 0)
    (h : PS Y sm (tAsg (tLc (iSeq c.X.K (tVar i)) (gName j) tYes (tX c never (Γ.set j n) ⟨true, pe, 0⟩ fe) [j]) (gName l))) {m : Nat} (hm : m ≤ 1) :
    SS c W Z Γ (Γ.set l m) Y sm (fun ρ => (lcwF fe j i ρ).bind fun p => .ok (.nx (st p.2 l p.1))) :=
  PS.imp h fun N σ H ⟨F, A, ρ, r, h⟩ => lcw_go hij hjl hi hj (tX.inS (ka := ⟨true, false, 1⟩) (g := fun d ρ1 => (.ok (.nx (st ρ1 l d)) : R Fl)) r h fun x H1 F1 A1 d ρ1 B o h1 => by
    replace h1 : EndS c Z (Γ.set l m) N σ H F A (.nx (st ρ1 l d)) := h1
    obtain ⟨F2, B2, o2⟩ := o.low (k' := ⟨true, false, m⟩) rfl hm fun z => z
    obtain ⟨A', r', o'⟩ := o2.rep.store nm.lv o2.ot (o2.nd rfl) (o2.dj rfl)
    exact h1 _ H1 F2 A' (.set nm.mm) r' (o2.mid.nx.weak (fun _ h => h) fun a z => .inl ((o' a z).imp (fun z => z) fun z => ⟨rfl, z⟩)))
/-- a slot's own list gets one more own item -/
theorem Rep.more {l : List D} {y : V} {q : D} (r : Rep c.X Γ ρ σ H F A) (hi : Γ.getD i 0 = n + 1) (h : ρ[i]? = some (some (.lst l))) (oy : OT c.X H F n y q B) (nB : B.Nodup) (dB : ∀ a ∈ B, ¬ Own A a) :
    ∃ (ad : Addr) (xs : List V), σ[i]? = some (some (.ref ad)) ∧ xs.length = l.length ∧ H ad = some (.lst xs) ∧ ∃ A', Rep c.X Γ (st ρ i (.lst (l ++ [q]))) σ (upd H ad (.lst (xs ++ [y]))) F A' ∧ Nxt H F (fun a => Own A a ∨ a ∈ B) (upd H ad (.lst (xs ++ [y]))) F (Own A') := by
  obtain ⟨v, ev, o⟩ := r.val i _ h
  rw [hi] at o
  obtain ⟨ad, ts, rfl, e2, e3, e4, e5, e6⟩ := o
  have hil : i < ρ.length := (List.getElem?_eq_some_iff.mp h).1
  have adi : ad ∈ A i := by rw [e5]; exact List.mem_cons_self
  have nd := r.nd i
  rw [e5] at nd
  obtain ⟨nd1, nd2⟩ := List.nodup_cons.mp nd
  have adB : ad ∉ B := fun z => dB ad z ⟨i, adi⟩
  have fl : ∀ b ∈ (ts.map (·.2.2)).flatten, b ∈ A i := fun b hb => by rw [e5]; exact List.mem_cons_of_mem _ hb
  have nn : Nxt H F (fun a => a = ad) (upd H ad (.lst (ts.map (·.1) ++ [y]))) F (fun a => a = ad) := ⟨fun a u hu hn => by rw [upd_ne hn]; exact hu, Sub.refl _, fun a z => .inl z, fun a z => .inl z⟩
  let A' : Nat → List Addr := fun k => if k = i then ad :: ((ts.map (·.2.2)).flatten ++ B) else A k
  have own' : ∀ b, Own A' b → Own A b ∨ b ∈ B := fun b ⟨k, z⟩ => by
    by_cases e : k = i
    · simp only [A', e, if_true] at z
      rcases List.mem_cons.mp z with z | z
      · exact .inl ⟨i, z ▸ adi⟩
      · rcases List.mem_append.mp z with z | z
        · exact .inl ⟨i, fl b z⟩
        · exact .inr z
    · simp only [A', e, if_false] at z
      exact .inl ⟨k, z⟩
  have ndn : (ad :: ((ts.map (·.2.2)).flatten ++ B)).Nodup := by
    refine List.nodup_cons.mpr ⟨fun z => (List.mem_append.mp z).elim nd1 adB, List.nodup_append.mpr ⟨nd2, nB, fun a ha b hb e => dB b hb ⟨i, fl b (e ▸ ha)⟩⟩⟩
  refine ⟨ad, ts.map (·.1), ev, by rw [List.length_map, e2, List.length_map], e3, A', ⟨fun a u hu => ?_, by unfold st; rw [List.length_set]; exact r.len, fun k d hk => ?_, fun k hk => ?_, fun k => ?_, fun k m hkm b hb hm => ?_⟩, ?_⟩
  · by_cases e : a = ad
    · subst e
      rw [e4] at hu; cases hu
    · rw [upd_ne e]; exact r.sub a u hu
  · unfold st at hk
    by_cases e : k = i
    · subst e
      rw [List.getElem?_set_self hil] at hk
      cases hk
      refine ⟨.ref ad, ev, ?_⟩
      rw [hi]
      refine ⟨ad, ts ++ [(y, q, B)], rfl, by rw [e2, List.map_append]; rfl, by rw [upd_same, List.map_append]; rfl, e4, by simp [A'], fun q' hq' => ?_⟩
      rcases List.mem_append.mp hq' with z | z
      · exact (e6 q' z).step nn fun b hb e => nd1 (e ▸ flat_in z hb)
      · rw [List.mem_singleton.mp z]
        exact oy.step nn fun b hb e => adB (e ▸ hb)
    · rw [List.getElem?_set_ne (Ne.symm e)] at hk
      obtain ⟨w, ew, ow⟩ := r.val k d hk
      refine ⟨w, ew, ?_⟩
      simp only [A', e, if_false]
      exact ow.step nn fun b hb e' => r.dis k i e b hb (e' ▸ adi)
  · by_cases e : k = i
    · subst e
      exact absurd (by unfold st; rw [List.getElem?_set_self hil]) (hk _)
    · simp only [A', e, if_false]
      exact r.non k fun d z => hk d (by unfold st; rw [List.getElem?_set_ne (Ne.symm e)]; exact z)
  · by_cases e : k = i
    · simp only [A', e, if_true]; exact ndn
    · simp only [A', e, if_false]; exact r.nd k
  · have side : ∀ k, k ≠ i → b ∈ A k → b ∉ ad :: ((ts.map (·.2.2)).flatten ++ B) := fun k hk hb z => by
      rcases List.mem_cons.mp z with z | z
      · exact r.dis k i hk b hb (z ▸ adi)
      · rcases List.mem_append.mp z with z | z
        · exact r.dis k i hk b hb (fl b z)
        · exact dB b z ⟨k, hb⟩
    by_cases e : k = i <;> by_cases e' : m = i
    · exact hkm (e.trans e'.symm)
    · simp only [A', e, e', if_true, if_false] at hb hm; exact side m e' hm hb
    · simp only [A', e, e', if_true, if_false] at hb hm; exact side k e hb hm
    · simp only [A', e, e', if_false] at hb hm; exact r.dis k m hkm b hb hm
  · exact nn.weak (fun a z => .inl ⟨i, z ▸ adi⟩) fun a z => .inr (own' a z)
theorem ss_appN {apos cpos : Pos} (cx : Ctx c W Y) (hN : Y.N[i]? = some x) (hv : Vis Y.env.scope x) (hd : (x == ("__debug__" : Str)) = false) (hcd : (x == ("__classdict__" : Str)) = false) (hi : Γ.getD i 0 = n + 1) (he : SX c W Γ ⟨true, pe, n⟩ Y e fe)
    (hbase : attributeBase (.Name x p0) "append" Y.env (eval (.Name x p0) Y.env) = eval (.Name x p0) Y.env)
    (hfew : ((backTo cpos (starEach [e] Y.env)).all (fun x => !x.1) && (backToKw cpos (keywordEach [] Y.env)).all (fun x => x.1.isSome) && decide (([e] : List Expr).length + ([] : List Keyword).length + (if ([] : List Keyword).isEmpty then 0 else 1) < 30)) = true)
    (hline : (apos.endLine == cpos.line) = true) (hs : starEach [e] Y.env = (false, eval e Y.env) :: starEach [] Y.env) (hpl : (backTo cpos (starEach [] Y.env)).any (·.1) = false)
    (hsw : swapsWith (.Call (.Attribute (.Name x p0) "append" apos) [e] [] cpos) none pos.line Y.env = pure false) :
    SS c W Z Γ Γ Y (.Expr (.Call (.Attribute (.Name x p0) "append" apos) [e] [] cpos) pos) (fun ρ => ((optR (gt ρ i)).bind fun _ => .ok (i, [], ρ)).bind fun p : Nat × List Pz.D × Env => (optR ((gt p.2.2 p.1).bind (updAt lstD p.2.1))).bind fun _ => (fe p.2.2).bind fun q =>
      (optR (gt q.2 p.1)).bind fun x => (optR (updAt (appD q.1) p.2.1 x)).bind fun x' => .ok (.nx (st q.2 p.1 x'))) :=
  PS.imp (ps_expr (pe_bm PySem.F.plainAttrs_list PySem.F.slot_list_append PySem.F.type_list_append mt_append (pe_var (i := i) hN hv hd hcd) (pa_cons he pa_nil hs) hbase hfew hline hs hpl) hsw) fun N σ H ⟨F, A, ρ, r, h⟩ => by
    dsimp only at h
    rw [bind_assoc] at h
    obtain ⟨d0, e0, h0⟩ := Run.opt h
    replace h0 : Run c (WM W Z.M σ) σ H F (Own A) ((optR ((gt ρ i).bind lstD)).bind fun _ => (fe ρ).bind fun q => (optR (gt q.2 i)).bind fun x => (optR (appD q.1 x)).bind fun x' => .ok (.nx (st q.2 i x'))) (EndS c Z Γ N σ H F A) := h0
    obtain ⟨d1, e1, h2⟩ := Run.opt h0
    rw [e0] at e1
    replace e1 : lstD d0 = some d1 := e1
    cases d0 <;> first | (cases e1; done) | skip
    rename_i l0
    obtain ⟨v0, s0, o0⟩ := r.val i _ (gt_ok e0)
    rw [hi] at o0
    obtain ⟨ad, ts, rfl, _, g0, _, _, _⟩ := o0
    refine ⟨.ref ad, s0, .inl ⟨rfl, _, .of g0⟩, tX.inS (g := fun q ρ1 => (optR (gt ρ1 i)).bind fun x => (optR (appD q x)).bind fun x' => (.ok (.nx (st ρ1 i x')) : R Fl)) r h2 fun y H1 F1 A1 q ρ1 B o h3 => ?_⟩
    obtain ⟨xl, e3, h4⟩ := Run.opt h3
    obtain ⟨xl', e4, h5⟩ := Run.opt h4
    cases xl <;> first | (cases e4; done) | skip
    rename_i l
    replace e4 : (if l.length < lim then some (Pz.D.lst (l ++ [q])) else none) = some xl' := e4
    split at e4 <;> cases e4
    rename_i hlen
    replace h5 : EndS c Z Γ N σ H F A (.nx (st ρ1 i (.lst (l ++ [q])))) := h5
    obtain ⟨ad', xs, s1, hx, s3, A', r6, n6⟩ := o.rep.more hi (gt_ok e3) o.ot (o.nd rfl) (o.dj rfl)
    rw [s0] at s1
    cases s1
    refine ⟨ad, xs, y, rfl, rfl, s3, by rw [← line_lim, hx]; exact hlen, ?_⟩
    exact h5 σ _ F1 A' .refl r6 ((o.mid.nx.weak (fun _ z => z) fun a z => .inl (z.imp (fun z => z) fun z => ⟨rfl, z⟩)).trans n6)
/-- a test, read from slots of any level -/
theorem sc_atz (h : SC c W Γ0 true Y e (truF fe)) (hz : ∀ i, Γ0.getD i 0 = 0) : SC c W Γ true Y e (truF fun ρ => (fe ρ).bind fun p => (optR (atomD p.1)).bind fun d => .ok (d, p.2)) :=
  PT.imp h fun σ H Q ⟨F, A, ρ, r, h⟩ => by
    obtain ⟨F0, A0, r0, n0⟩ := r.relevel (Γ' := Γ0) fun i _ _ => by rw [hz]; exact Nat.zero_le _
    have h1 : Run c W σ H F (Own A) (truF fe ρ) fun p => ∀ H' F' A', Mid c Γ σ ρ H F A p.2 H' F' A' (fun _ => False) true → Q p.1 H' := by
      unfold truF at h ⊢
      dsimp only at h
      cases e1 : fe ρ with
      | error z => rw [e1] at h; exact h
      | ok p =>
        rw [e1] at h
        obtain ⟨d, e2, h2⟩ := Run.opt (show Run c W σ H F (Own A) ((optR (atomD p.1)).bind fun d => (optR (truO d)).bind fun t => .ok (t, p.2)) _ by
          replace h : Run c W σ H F (Own A) (((optR (atomD p.1)).bind fun d => .ok (d, p.2)).bind fun p => (optR (truO p.1)).bind fun t => .ok (t, p.2)) _ := h
          rw [bind_assoc] at h
          exact h)
        unfold atomD at e2
        split at e2 <;> cases e2
        exact h2
    refine ⟨F0, A0, ρ, r0, (h1.at n0 fun _ z => z).imp fun p _ hp H' F' A' m => ?_⟩
    obtain ⟨u1, u2, u3⟩ := m.pu rfl
    have nn : Nxt H F (fun _ => False) H' F (fun _ => False) := ⟨fun a o e _ => u3.keep a o e (fun z => z), Sub.refl _, fun _ h => .inl h, fun _ z => z.elim⟩
    have r1 : Rep c.X Γ ρ σ H' F A := r.step nn (fun a o e => u3.keep a o (r.sub a o e) fun z => z) fun _ _ z => z
    rw [u1] at hp
    exact hp H' F A ⟨r1, nn.weak (fun _ z => z.elim) fun a z => .inr (z.elim (fun z => z) fun z => z.elim), fun _ => ⟨rfl, rfl, nn⟩⟩
end
end Pz
end
section
set_option Elab.async false
set_option linter.all false
/-! t[::-1] of a tuple. -/
namespace Pz
open PySem PySem.Spec PyProof.Rows L2
open PySem.Builtin
section
variable {pr : Program} {wd : World} {Ar : Around} {Er : Value → Shared → Prop} {s0 : Shared}
theorem applied_back {q : Addr} {tk : Tok} {n : Nat} {R : Int × Int × Nat → Shared → Prop} (z : s0.heap.IsSliceOf q .none .none (.int (-1) tk)) (h : R ((n : Int) - 1, -1, n) s0) :
    wpAny (model pr wd) Ar (Slice.sliceApplied (.ref q) (pure (n : Int))) R Er s0 := by
  obtain ⟨ob, e1, _, e3⟩ := id z
  unfold Slice.sliceApplied Slice.sliceFields
  have f0 : wpAny (model pr wd) Ar (Slice.slicePartIndex (.int (-1) tk)) (fun o s' => o = some (-1) ∧ s' = s0) Er s0 := HT.slicePart_ (.int _ _) ⟨rfl, rfl⟩
  have f1 : wpAny (model pr wd) Ar (Slice.slicePartIndex .none) (fun o s' => o = none ∧ s' = s0) Er s0 := HT.slicePart_ .none ⟨rfl, rfl⟩
  refine wpAny_bind (wpAny_bind (wpAny_field e1 e3 rfl (wpAny_bind (wpAny_field e1 e3 rfl (wpAny_bind (wpAny_field e1 e3 rfl (wpAny_pure ?_)))))))
  refine wpAny_bind (wpAny_mono f0 ?_ fun _ _ y => y)
  rintro _ _ ⟨rfl, rfl⟩
  show wpAny _ _ (if ((-1 : Int) == 0) = true then _ else _) _ _ _
  rw [if_neg (by decide)]
  refine wpAny_bind (wpAny_mono f1 ?_ fun _ _ y => y)
  rintro _ _ ⟨rfl, rfl⟩
  refine wpAny_bind (wpAny_mono f1 ?_ fun _ _ y => y)
  rintro _ _ ⟨rfl, rfl⟩
  refine wpAny_bind (wpAny_pure ?_)
  have ad : Slice.sliceAdjust none none (-1) (n : Int) = ((n : Int) - 1, -1) := by rfl
  have pl : Slice.slicePlaces ((n : Int) - 1) (-1) (-1) = n := by
    unfold Slice.slicePlaces
    have h1 : ¬ ((-1 : Int) > 0) := by omega
    simp only [h1, if_false]
    have h2 : ((n : Int) - 1 - -1 - 1) / - -1 = (n : Int) - 1 := by
      rw [show (- -1 : Int) = 1 by rfl, Int.ediv_one]; omega
    rw [h2]
    split <;> omega
  show wpAny _ _ (match Slice.sliceAdjust none none (-1) (n : Int) with | (lo, hi) => pure (lo, (-1 : Int), Slice.slicePlaces lo hi (-1))) _ _ _
  rw [ad]
  show wpAny _ _ (pure ((n : Int) - 1, (-1 : Int), Slice.slicePlaces ((n : Int) - 1) (-1) (-1))) _ _ _
  rw [pl]
  exact wpAny_pure h
theorem pick_back (xs : Array Value) : ((List.range xs.size).filterMap fun (m : Nat) => xs[(((xs.size : Nat) : Int) - 1 + (m : Int) * (-1)).toNat]?) = xs.toList.reverse := by
  have e : (List.range xs.size).filterMap (fun (m : Nat) => xs[(((xs.size : Nat) : Int) - 1 + (m : Int) * (-1)).toNat]?) = ((List.range xs.size).map fun k => xs.size - 1 - k).filterMap (xs[·]?) := by
    rw [List.filterMap_map]
    have key : ∀ l : List Nat, (∀ m ∈ l, m < xs.size) → l.filterMap (fun (m : Nat) => xs[(((xs.size : Nat) : Int) - 1 + (m : Int) * (-1)).toNat]?) = l.filterMap ((xs[·]?) ∘ fun k => xs.size - 1 - k) := by
      intro l
      induction l with
      | nil => exact fun _ => rfl
      | cons m l ih =>
        intro hm
        have h1 := hm m List.mem_cons_self
        rw [List.filterMap_cons, List.filterMap_cons, ih fun y hy => hm y (List.mem_cons_of_mem _ hy), show (((xs.size : Nat) : Int) - 1 + (m : Int) * (-1)).toNat = xs.size - 1 - m by omega]
        rfl
    exact key _ fun m hm => List.mem_range.mp hm
  rw [e, PySem.W.krv_range, List.filterMap_reverse, PySem.W.krv_all]
theorem item_back {t q : Addr} {xs : Array Value} {tk : Tok} {R : Value → Shared → Prop} (it : IsTup s0.heap t xs) (z : s0.heap.IsSliceOf q .none .none (.int (-1) tk)) (hz : xs.size ≤ sizeLine)
    (h : R (.ref s0.heap.objs.size) { s0 with heap := s0.heap.push { cls := .type "tuple", data := .seq xs.toList.reverse.toArray } }) : wpAny (model pr wd) Ar (getItem (.ref t) (.ref q)) R Er s0 := by
  have fit : sizeOk (.seq xs.toList.reverse.toArray) := by
    show xs.toList.reverse.toArray.size ≤ sizeLine
    simpa using hz
  obtain ⟨ob, e1, e2, e3⟩ := id z
  have ts : s0.TypeIs (.ref q) "slice" := ⟨ob, e1, e2⟩
  unfold getItem
  try with_reducible refine wpAny_holding ?_
  first | refine wpAny_bind (wpAny_pure ?_) | skip
  refine wpAny_bind (wpAny_sequenceKey it.typeIs (by decide) ?_)
  refine wpAny_bind (wpAny_callSpecial?_slot (name := Str.ofString "__getitem__") it.typeIs PySem.F.slot_tuple_getitem (wpAny_call_entry PySem.F.slot_tuple_getitem it.typeIs PySem.F.entry_tuple_getitem ?_ (PySem.F.args_tuple_getitem_2 _ _)))
  show wpAny _ _ (Tuple.tupleItemsOf (.ref t) >>= _) _ _ _
  refine wpAny_bind (PyProof.Rows.tupleItemsOf_ it (wpAny_bind (wpAny_typeOf ts ?_)))
  rw [if_pos (by decide)]
  refine wpAny_bind (applied_back z ?_)
  show wpAny _ _ (if ((((xs.size : Nat) : Int) - 1) == 0 && (-1 : Int) == 1 && xs.size == xs.size) = true then _ else _) _ _ _
  rw [if_neg (by simp), pick_back]
  first
    | exact wpAny_bind (m := Tuple.tupleExact _) (wpAny_newObj_type (wpAny_pure ⟨_, rfl, wpAny_pure h⟩) fit)
    | exact wpAny_bind (m := Tuple.tupleExact _) (wpAny_newObj_type (wpAny_bind (wpAny_pure (wpAny_pure ⟨_, rfl, wpAny_pure h⟩))) fit)
    | exact wpAny_bind (wpAny_bind (m := Tuple.tupleExact _) (wpAny_newObj_type (wpAny_pure (wpAny_pure ⟨_, rfl, wpAny_pure h⟩)) fit))
end
/-- a list or a tuple, backwards -/
def tRev (K : PySem.W.Frag) (te : TE) : TE := fun σ H Q => te σ H fun x H1 => (∃ a xs, x = .ref a ∧ SqL K H1 a xs ∧ ∀ p, H1 p = none → Q (.ref p) (upd H1 p (.lst xs.reverse))) ∨
  ∃ a xs, x = .ref a ∧ SqT K H1 a xs ∧ ∀ p, H1 p = none → Q (.ref p) (upd H1 p (.tup xs.reverse))
section
variable {c : Cf} {W : WX} {Γ : List Nat} {Y : Cx} {a e : Expr} {pos p0 p1 p2 p3 : Pos} {pa : Bool} {fa : Env → R (D × Env)} {te : TE} {k : Nat}
theorem pe_back (he : PE Y e te) : PE Y (.Subscript e (.Slice none none (some (.UnaryOp .USub (.Constant (.int 1) k p1) p2)) p3) pos) (tRev Y.K te) := by
  constructor
  intro pins s0 σ H Q I h
  apply Subscript_
  refine thn (he.run pins s0 σ H _ I h) fun v s1 ⟨x, H1, J, rx, hq⟩ => ?_
  have step : PO Y (some (.UnaryOp .USub (.Constant (.int 1) k p1) p2)) (tPart (tUn (rU fun i => .int (-i)) (tC (.int 1)))) := po_some (pe_un un_neg pe_int)
  have nopart := fun (G : Hp) {s : Shared} (Z : Inv Y pins σ G s) => po_none.run pins s σ G (fun o G' => o = none ∧ G' = G) Z ⟨rfl, rfl⟩
  apply wpAny_Slice
  refine thn (nopart H1 J) fun vl s2 ⟨o2, H2, J2, l2, z2⟩ => ?_
  obtain ⟨rfl, rfl⟩ := z2
  refine thn (nopart H2 J2) fun vu s3 ⟨o3, H3, J3, l3, z3⟩ => ?_
  obtain ⟨rfl, rfl⟩ := z3
  refine thn (step.run pins s3 σ H3 (fun o G => o = some (-1) ∧ G = H3) J3 ⟨1, rfl, -1, rfl, rfl, rfl⟩) fun vs s4 ⟨o4, H4, J4, l4, z4⟩ => ?_
  obtain ⟨rfl, rfl⟩ := z4
  have J5 : Inv Y pins σ H4 { s4 with heap := s4.heap.push { cls := .type "slice", data := .fields #[vl, vu, vs] } } := J4.kept (t' := s4.toks) fun b ob q => Heap.get?_push_of_some _ q
  rcases hq with ⟨ad, xs, rfl, sq, q⟩ | ⟨ad, xs, rfl, sq, q⟩
  · obtain rfl : v = .ref ad := rx
    obtain ⟨its, rv, tl, hz⟩ := J5.list sq
    have hl := rv.length
    show wpAny (model Y.prog Y.w) Y.A (subscriptTail e (.Slice none none (some (.UnaryOp .USub (.Constant (.int 1) k p1) p2)) p3) (.ref ad) (.ref s4.heap.objs.size)) (EP Y pins σ Q) Y.xe _
    refine tail_any (ops := [.ref ad, .ref s4.heap.objs.size]) tl.isList.typeIs PySem.slot_list_getitem.lookup ?_ (by with_unfolding_all rfl)
    refine wpAny_getItem_list_slice tl.isList (Heap.IsSliceOf.new _ vl vu vs) l2 l3 l4 (by decide) ?_ (by simp; omega)
    rw [PySem.W.krv_pick]
    exact ⟨.ref _, _, J5.laid (t' := s4.toks) (o := .lst xs.reverse) (fun b ob q => Heap.get?_push_of_some _ q) (Nat.le_refl _) ⟨by simpa using hz, _, 0, rv.reverse, Heap.get?_push_size _ rfl⟩, rfl, q _ (J5.hok.fresh (Nat.le_refl _))⟩
  · obtain rfl : v = .ref ad := rx
    obtain ⟨its, rv, tl, hz⟩ := J5.tuple sq
    have hl := rv.length
    show wpAny (model Y.prog Y.w) Y.A (subscriptTail e (.Slice none none (some (.UnaryOp .USub (.Constant (.int 1) k p1) p2)) p3) (.ref ad) (.ref s4.heap.objs.size)) (EP Y pins σ Q) Y.xe _
    refine tail_any (ops := [.ref ad, .ref s4.heap.objs.size]) tl.typeIs PySem.F.slot_tuple_getitem.lookup ?_ (by with_unfolding_all rfl)
    cases l2
    cases l3
    cases l4
    refine item_back tl (Heap.IsSliceOf.new _ _ _ _) (by simp; omega) ?_
    exact ⟨.ref _, _, J5.laid (t' := s4.toks) (o := .tup xs.reverse) (fun b ob q => Heap.get?_push_of_some _ q) (Nat.le_refl _) ⟨by simpa using hz, its.toArray.toList.reverse, by simpa using rv.reverse, IsTup.new _ _⟩, rfl, q _ (J5.hok.fresh (Nat.le_refl _))⟩
theorem sx_back {n : Nat} (cx : Ctx c W Y) (ha : SX c W Γ ⟨true, pa, 0⟩ Y a fa) :
    SX c W Γ ⟨true, pa, 0⟩ Y (.Subscript a (.Slice none none (some (.UnaryOp .USub (.Constant (.int 1) n p0) p1)) p2) pos) (fun ρ => (fa ρ).bind fun p => (optR (revD p.1)).bind fun d => .ok (d, p.2)) :=
  PE.imp (pe_back ha) fun σ H Q ⟨F, A, ρ, rp, h⟩ => tX.one (g := fun d ρ1 => (optR (revD d)).bind fun d => .ok (d, ρ1)) rp h fun v H1 F1 A1 d ρ1 B o h1 => by
    obtain ⟨d', e', h2⟩ := Run.opt h1
    replace h2 : Ends' c Γ ⟨true, pa, 0⟩ σ ρ H F A Q (d', ρ1) := h2
    rw [cx.K]
    cases d <;> first | (cases e'; done) | skip
    · cases e'
      obtain ⟨ad, ps, rfl, rfl, sq, rr⟩ := o.ot.2.lst_eq
      refine .inl ⟨ad, _, rfl, o.rep.sub.sqL sq, fun p hp => ?_⟩
      have := o.mid.newLF (k := ⟨true, pa, 0⟩) (ps := ps.reverse) hp (fun x hx => rr x (List.mem_reverse.mp hx)) (fun z => z) rfl
      rw [List.map_reverse, List.map_reverse] at this
      exact h2 _ _ _ _ _ this
    · cases e'
      obtain ⟨ad, ps, rfl, rfl, sq, rr⟩ := o.ot.2.tup_eq
      refine .inr ⟨ad, _, rfl, o.rep.sub.sqT sq, fun p hp => ?_⟩
      have := o.mid.newT (k := ⟨true, pa, 0⟩) (ps := ps.reverse) hp (fun x hx => rr x (List.mem_reverse.mp hx)) (fun z => z) rfl
      rw [List.map_reverse, List.map_reverse] at this
      exact h2 _ _ _ _ _ this
end
end Pz
end
section
set_option Elab.async false
set_option linter.all false
/-! The checker: does the IR tell the text? -/
namespace Pz
open PySem PySem.Spec PyProof.Rows L2

structure Fi where
  id : Nat
  np : Nat
  io : List Nat
  sg : Sg
/-- the text's defs, the built-in names that the text doesn't bind, how calls with keywords bind, the constants -/
structure Tb where
  fns : List (Str × Fi)
  bl : List Str
  kwl : KwL
  gl : List (Str × Nat × D)
  ex : List (Str × Nat)
/-- what the checker knows: the names of the slots, the scope's names, the text's defs, the built-in names that the text doesn't bind, the slots that own what they hold -/
structure Ck where
  N : List Str
  sc : List (Str × NameKind)
  t : Tb
  mv : List Nat
abbrev Ck.fns (K : Ck) : List (Str × Fi) := K.t.fns
abbrev Ck.bl (K : Ck) : List Str := K.t.bl
def lkF (l : List (Str × Fi)) (x : Str) (f : Nat) : Option Fi := (l.find? fun p => decide (p.1 = x) && p.2.id == f).map (·.2)
theorem lkF_mem {l : List (Str × Fi)} {x : Str} {f : Nat} {fi : Fi} (h : lkF l x f = some fi) : (x, fi) ∈ l := by
  obtain ⟨⟨y, gi⟩, h1, rfl⟩ := Option.map_eq_some_iff.mp h
  have := List.find?_some h1
  simp only [Bool.and_eq_true, decide_eq_true_eq] at this
  rw [← this.1]
  exact List.mem_of_find?_eq_some h1
def Ck.sg (K : Ck) (f : Nat) : Sg := match K.fns.find? fun p => p.2.id == f with
  | some p => p.2.sg
  | none => ⟨[], 0⟩
def nm (K : Ck) (i : Nat) (x : Str) : Bool := decide (K.N[i]? = some x) && visB K.sc x && !(x == ("__debug__" : Str)) && !(x == ("__classdict__" : Str))
def nmL (K : Ck) (M : Nat → Bool) (Γ : List Nat) (i : Nat) (x : Str) : Bool := decide (K.N[i]? = some x) && locB K.sc x && decide (i < Γ.length) && M i
def opB : Bop → Operator → Bool
  | .add, .Add | .cat, .Add | .sub, .Sub | .mul, .Mult | .rep, .Mult | .fdiv, .FloorDiv | .mod, .Mod | .pow, .Pow => true
  | _, _ => false
def copB : Cop → CmpOp → Bool
  | .eq, .Eq | .ne, .NotEq | .lt, .Lt | .le, .LtE | .gt, .Gt | .ge, .GtE | .isin, .In | .notin, .NotIn | .is, .Is | .isnot, .IsNot => true
  | _, _ => false
mutual
/-- an expression's kind -/
def kd (K : Ck) (Γ : List Nat) : T → Kd
  | .v i => ⟨Γ.getD i 0 == 0, true, Γ.getD i 0⟩
  | .non | .tt | .ff | .int _ | .str _ => kA true
  | .bin op a b => match op with
    | .add => ⟨true, (kd K Γ a).pu && (kd K Γ b).pu, 0⟩
    | .cat | .rep => ⟨true, (kd K Γ a).pu && (kd K Γ b).pu, 1⟩
    | _ => kA ((kd K Γ a).pu && (kd K Γ b).pu)
  | .neg a | .not a => kA (kd K Γ a).pu
  | .and a b | .or a b => ⟨true, (kd K Γ a).pu && (kd K Γ b).pu, 0⟩
  | .cmp _ a b => kA ((kd K Γ a).pu && (kd K Γ b).pu)
  | .ite c a b => ⟨true, (kd K Γ c).pu && ((kd K Γ a).pu && (kd K Γ b).pu), 0⟩
  | .call f as io => ⟨true, io.isEmpty && puA K Γ as, (K.sg f).rl⟩
  | .idx a b => ⟨true, (kd K Γ a).pu && (kd K Γ b).pu, 0⟩
  | .tup as => ⟨true, puA K Γ as, 0⟩
  | .lst n as => if n ≤ 1 then ⟨true, puA K Γ as, 1⟩ else ⟨true, false, n⟩
  | .tupo n _ => ⟨true, false, n⟩
  | .lcw .. => ⟨true, false, 1⟩
  | .atm _ => kA true
  | .lc .. => ⟨true, false, 1⟩
  | .lc2 .. => ⟨true, false, 1⟩
  | .isi a _ => kA (kd K Γ a).pu
  | .chain _ _ a b c => kA (((kd K Γ a).pu && (kd K Γ b).pu) && (kd K Γ c).pu)
  | .bi b as => (match b with
    | .tuple | .min => ⟨true, puA K Γ as, 0⟩
    | .list | .sorted => ⟨true, puA K Γ as, 1⟩
    | _ => kA (puA K Γ as))
  | .me m o as => (match m with
    | .join => kA (puA K Γ as)
    | .get | .get2 => ⟨true, (kd K Γ o).pu && puA K Γ as, 0⟩
    | _ => kA (kd K Γ o).pu)
  | .glob _ => kA true
  | .pop _ _ => ⟨true, false, 0⟩
  | .callk f as _ _ => ⟨true, puA K Γ as, (K.sg f).rl⟩
  | .rev a => ⟨true, (kd K Γ a).pu, 0⟩
  | .dct _ vs => ⟨true, puA K Γ vs, 1⟩
  | .slc a lo hi => ⟨true, (kd K Γ a).pu && (kd K Γ lo).pu && (kd K Γ hi).pu, 0⟩
  | .attr a _ => ⟨true, (kd K Γ a).pu, 0⟩
  | .fnv _ => kA true
  | .callv _ as => ⟨true, puA K Γ as, 0⟩
  | _ => ⟨false, false, 0⟩
/-- an argument list changes nothing -/
def puA (K : Ck) (Γ : List Nat) : T → Bool
  | .nil => true
  | .cons a b => (kd K Γ a).pu && puA K Γ b
  | _ => false
end
/-- what is lent at an argument's place -/
def lsOf (io : List (Nat × Nat)) : Nat → Nat → List (Option Nat)
  | _, 0 => []
  | k, n + 1 => io.lookup k :: lsOf io (k + 1) n
mutual
/-- the levels behind a target -/
def gG : T → List Nat → List Nat
  | .v i, Γ => Γ.set i 0
  | .tup as, Γ => gGs as Γ
  | _, Γ => Γ
def gGs : T → List Nat → List Nat
  | .cons a b, Γ => gGs b (gG a Γ)
  | _, Γ => Γ
end
/-- an own slot's names: the scope of a comprehension -/
def ownL (K : Ck) (own : List Nat) : List (Str × Nat) := own.filterMap fun i => (K.N[i]?).map fun x => (x, i)
def blkB (K : Ck) (scope : Scope) (own : List Nat) : Bool :=
  decide (scope.kind = .function) && (scope.names.all fun y => decide (scope.names.lookup y.1 = some y.2)) && (scope.names.all fun y => match y.2 with
    | .free => (match K.sc.lookup y.1 with | some .cell | some .free => true | _ => false)
    | .local | .cell => decide (y.1 ∈ (ownL K own).map (·.1)) || decide (y.1 ∉ K.N)
    | _ => true) && decide ((ownL K own).map (·.2) = own)
abbrev noM : Nat → Bool := fun _ => true
def noSlc : Expr → Bool
  | .Slice .. => false
  | _ => true
instance : DecidableEq Sg := fun a b => if h : a.pl = b.pl ∧ a.rl = b.rl then .isTrue (by cases a; cases b; obtain ⟨rfl, rfl⟩ := h; rfl) else .isFalse fun e => h ⟨by rw [e], by rw [e]⟩
def ioB (Γ : List Nat) (io : List (Nat × Nat)) (fi : Fi) : Bool := match io, fi.io with
  | [], [] => (List.range fi.sg.pl.length).all fun i => fi.sg.pl.getD i 0 == 0
  | [(j, i)], [j'] => decide (j = j') && decide (j < fi.np) && decide (fi.sg.pl.getD j 0 = Γ.getD i 0) && ((List.range fi.sg.pl.length).all fun k => k == j || fi.sg.pl.getD k 0 == 0)
  | _, _ => false
def callB (K : Ck) (Γ : List Nat) (f : Nat) (io : List (Nat × Nat)) (x : Str) (n : Nat) (fi : Fi) : Bool :=
  decide (fi.id = f) && glB K.sc x && !(x == ("__debug__" : Str)) && decide (fi.np = n + 1) && decide (K.sg f = fi.sg) && ioB Γ io fi
def callZ (K : Ck) (f : Nat) (io : List (Nat × Nat)) (x : Str) (as : T) : Bool := match as, lkF K.fns x f with
  | .nil, some fi => decide (fi.id = f) && glB K.sc x && !(x == ("__debug__" : Str)) && decide (fi.np = 0) && decide (K.sg f = fi.sg) && (io.isEmpty && fi.io.isEmpty && (List.range fi.sg.pl.length).all fun i => fi.sg.pl.getD i 0 == 0)
  | _, _ => false
/-- a built-in name that is told -/
def bn (K : Ck) (x y : Str) : Bool := decide (x = y) && glB K.sc x && decide (x ∈ K.bl)
def tyB (K : Ck) (t : Ty) (x : Str) : Bool := (match t with
  | .int => decide (x = "int") | .bool => decide (x = "bool") | .str => decide (x = "str") | .list => decide (x = "list") | .tuple => decide (x = "tuple") | .dict => decide (x = "dict") | .cls _ => false) && glB K.sc x && decide (x ∈ K.bl)
/-- an own error's class -/
def exB (K : Ck) (t : Ty) (x : Str) : Bool := match t with
  | .cls j => glB K.sc x && !(x == ("__debug__" : Str)) && K.t.ex.any fun p => decide (p.1 = x) && decide (p.2 = j)
  | _ => false
def pl0 (fi : Fi) : Bool := fi.io.isEmpty && (List.range fi.sg.pl.length).all fun i => fi.sg.pl.getD i 0 == 0
def bi1 : Bi → Option Str
  | .len => some "len" | .int => some "int" | .abs => some "abs" | .sum => some "sum" | .repr => some "repr" | .str => some "str" | .all => some "all" | .any => some "any" | _ => none
/-- .. whose argument is frozen -/
def bi1f : Bi → Option Str
  | .tuple => some "tuple" | .min => some "min" | .list => some "list" | .sorted => some "sorted" | _ => none
def isTup : Expr → Bool
  | .Tuple .. => true
  | _ => false
/-- walks of pairs want a tuple as target -/
def tgB : T → Expr → Bool
  | .enum _, e => isTup e
  | .zip _ _, e => isTup e
  | _, _ => true
def keyL : T → List Key
  | .cons a r => (match a with | .str s => Sum.inr ⟨s.toArray⟩ | .int i => Sum.inl i | _ => Sum.inl 0) :: keyL r
  | _ => []
/-- a display's key -/
def keyB : T → Expr → Bool
  | .str s, .Constant (.str x) _ _ => decide (x = ⟨s.toArray⟩)
  | .int i, .Constant (.int j) _ _ => decide (i = j)
  | _, _ => false
def bi2 : Bi → Option Str
  | .max2 => some "max" | .min2 => some "min" | _ => none
def noCall : Expr → Bool
  | .Call .. => false
  | _ => true
def len12 : List Expr → Bool
  | [_] => true
  | [_, _] => true
  | [_, _, _] => true
  | _ => false
abbrev zer (Γ : List Nat) : List Nat := Γ.map fun _ => 0
def isBl : Expr → Bool
  | .BoolOp .. => true
  | _ => false
def lcwB (K : Ck) (Γ : List Nat) (j i : Nat) (tg it : Expr) (ifs : List Expr) (scope : Scope) : Bool := match tg, it, ifs with
  | .Name y _, .Name z _, [] => nm K i z && decide (1 ≤ Γ.getD i 0) && (Γ.getD j 0 == 0) && decide (j < Γ.length) && decide (i ≠ j) && blkB K scope [j] && nmL { K with sc := scope.names } (inOwn [j]) Γ j y
  | _, _, _ => false
def lentB (K : Ck) (i : Nat) (a : T) (e : Expr) : Bool := match a, e with
  | .v i', .Name x _ => decide (i' = i) && nm K i x
  | _, _ => false
mutual
/-- m: as a test -/
def okX (m : Bool) (K : Ck) (Γ : List Nat) : T → Expr → Bool
  | .v i, e => (match e with
    | .Name x _ => nm K i x | _ => false)
  | .non, e => (match e with
    | .Constant c _ _ => (match c with | .none => true | _ => false) | _ => false)
  | .tt, e => (match e with
    | .Constant c _ _ => (match c with | .bool b => b | _ => false) | _ => false)
  | .ff, e => (match e with
    | .Constant c _ _ => (match c with | .bool b => !b | _ => false) | _ => false)
  | .int i, e => (match e with
    | .Constant c _ _ => (match c with | .int j => decide (j = i) | _ => false) | _ => false)
  | .str s, e => (match e with
    | .Constant c _ _ => (match c with | .str x => decide (x = ⟨s.toArray⟩) | _ => false) | _ => false)
  | .bin op a b, e => (match e with
    | .BinOp l o r _ => opB op o && okX false K Γ a l && okX false K Γ b r && ((kd K Γ a).own || (kd K Γ b).pu) &&
      (match op with
      | .add => (kd K Γ a).own && (kd K Γ b).own
      | .cat => decide ((kd K Γ a).lv ≤ 1) && decide ((kd K Γ b).lv ≤ 1)
      | .rep => (kd K Γ a).lv == 1
      | _ => true) | _ => false)
  | .neg a, e => (match e with
    | .UnaryOp o x _ => (match o with | .USub => !m && okX false K Γ a x | _ => false) | _ => false)
  | .not a, e => (match e with
    | .UnaryOp o x _ => (match o with | .Not => okX m K Γ a x | _ => false) | _ => false)
  | .and a b, e => (match e with
    | .BoolOp o vs p => (match o, vs with
      | .And, [x, y] => okX m K Γ a x && okX m K Γ b y && (m || ((kd K Γ a).own && (kd K Γ b).own))
      | .And, x :: y :: z :: r => okX m K Γ a x && okX m K Γ b (.BoolOp .And (y :: z :: r) p) && (m || ((kd K Γ a).own && (kd K Γ b).own))
      | _, _ => false) | _ => false)
  | .or a b, e => (match e with
    | .BoolOp o vs p => (match o, vs with
      | .Or, [x, y] => okX m K Γ a x && okX m K Γ b y && (m || ((kd K Γ a).own && (kd K Γ b).own))
      | .Or, x :: y :: z :: r => okX m K Γ a x && okX m K Γ b (.BoolOp .Or (y :: z :: r) p) && (m || ((kd K Γ a).own && (kd K Γ b).own))
      | _, _ => false) | _ => false)
  | .cmp op a b, e => (match e with
    | .Compare l os rs _ => (match os, rs with
      | [o], [r] => copB op o && okX false K Γ a l && okX false K Γ b r && noSet r && ((kd K Γ a).own || (kd K Γ b).pu)
      | _, _ => false) | _ => false)
  | .ite c a b, e => (match e with
    | .IfExp t x y _ => !m && okX true K Γ c t && okX false K Γ a x && okX false K Γ b y && (kd K Γ a).own && (kd K Γ b).own | _ => false)
  | .call f as io, e => (match e with
    | .Call fn es kw _ => (match fn, es, kw with
      | .Name x _, e₁ :: es, [] => (match lkF K.fns x f with
        | some fi => callB K Γ f io x es.length fi && okA K Γ io 0 as (e₁ :: es) && (noStar e₁ && es.all noStar)
        | none => false)
      | .Name x _, [], [] => callZ K f io x as
      | _, _, _ => false) | _ => false)
  | .idx a b, e => (match e with
    | .Subscript o s _ => okX false K Γ a o && okX false K Γ b s && ((kd K Γ a).own || ((kd K Γ b).pu && decide ((kd K Γ a).lv ≤ 1))) && plainI s | _ => false)
  | .tup as, e => (match e with
    | .Tuple es _ _ => okA K Γ [] 0 as es && decide (es.length ≤ 1000) | _ => false)
  | .lst n as, e => (match e with
    | .List es _ => (if n ≤ 1 then okA K Γ [] 0 as es else okO (n - 1) K Γ as es) && decide (es.length ≤ 1000) | _ => false)
  | .tupo n as, e => (match e with
    | .Tuple es _ _ => decide (1 ≤ n) && okO (n - 1) K Γ as es && decide (es.length ≤ 1000) | _ => false)
  | .atm a, e => okX m K (zer Γ) a e && (kd K (zer Γ) a).pu && !(m && isBl e)
  | .lcw el j i, e => (match e with
    | .ListComp x gens scope _ => (match gens with
      | [g] => decide (g.is_async = 0) && lcwB K Γ j i g.target g.iter g.ifs scope && okX false { K with sc := scope.names } (Γ.set j (Γ.getD i 0 - 1)) el x && (kd { K with sc := scope.names } (Γ.set j (Γ.getD i 0 - 1)) el).own
      | _ => false) | _ => false)
  | .lc el tg it c own, e => (match e with
    | .ListComp x gens scope _ => (match gens with
      | [g] => decide (g.is_async = 0) && okI K Γ it g.iter && tgB it g.target && noSet g.iter && blkB K scope own && (own.all fun i => Γ.getD i 0 == 0) &&
          okG (inOwn own) { K with sc := scope.names } Γ tg g.target && decide (gG tg Γ = Γ) && okC { K with sc := scope.names } Γ c g.ifs && okX false { K with sc := scope.names } Γ el x && (kd { K with sc := scope.names } Γ el).own
      | _ => false) | _ => false)
  | .lc2 el tg it c tg2 it2 c2 own own2, e => (match e with
    | .ListComp x gens scope _ => (match gens with
      | [g, g2] => decide (g.is_async = 0) && okI K Γ it g.iter && tgB it g.target && noSet g.iter && blkB K scope own && (own.all fun i => Γ.getD i 0 == 0) &&
          okG (inOwn own) { K with sc := scope.names } Γ tg g.target && decide (gG tg Γ = Γ) && okC { K with sc := scope.names } Γ c g.ifs && okX false { K with sc := scope.names } Γ el x && (kd { K with sc := scope.names } Γ el).own &&
          (decide (g2.is_async = 0) && okI { K with sc := scope.names } Γ it2 g2.iter && tgB it2 g2.target && noSet g2.iter && (own2.all fun i => decide (i ∈ own)) && okG (inOwn own2) { K with sc := scope.names } Γ tg2 g2.target && decide (gG tg2 Γ = Γ) && okC { K with sc := scope.names } Γ c2 g2.ifs)
      | _ => false) | _ => false)
  | .chain o1 o2 a b c, e => (match e with
    | .Compare l os rs _ => (match os, rs with
      | [p, q], [r, t] => copB o1 p && copB o2 q && okX false K Γ a l && okX false K Γ b r && okX false K Γ c t && decide (lastMarks [p, q] [r, t] = false) && ((kd K Γ a).own || (kd K Γ b).pu) && (kd K Γ b).own
      | _, _ => false) | _ => false)
  | .isi a ts, e => (match e with
    | .Call fn es kw _ => (match fn, es, kw, ts with
      | .Name f _, [x, .Name y _], [], [t] => bn K f "isinstance" && (tyB K t y || exB K t y) && noStar x && okX false K Γ a x
      | .Name f _, [x, .Tuple [.Name y _, .Name z _] _ _], [], [t, u] => bn K f "isinstance" && tyB K t y && tyB K u z && noStar x && okX false K Γ a x
      | _, _, _, _ => false) | _ => false)
  | .bi b as, e => (match e with
    | .Call fn es kw _ => (match fn, es, kw with
      | .Name f _, [x], [] => (match bi1 b with
        | some y => bn K f y && noStar x && (match as with
          | .cons a r => (match r with | .nil => okX false K Γ a x | _ => false)
          | _ => false)
        | none => (match bi1f b with
          | some y => bn K f y && noStar x && (match as with
            | .cons a r => (match r with | .nil => okX false K Γ a x && (kd K Γ a).own | _ => false)
            | _ => false)
          | none => false))
      | .Name f _, [x, y], [] => (match bi2 b with
        | some z => bn K f z && noStar x && noStar y && okA K Γ [] 0 as [x, y]
        | none => false)
      | _, _, _ => false) | _ => false)
  | .me m o as, e => (match e with
    | .Call fn es kw p => (match fn, es, kw, m, as with
      | .Name f _, [.Call (.Name g _) [x] [] _], [], .lenset, .nil => bn K f "len" && bn K g "set" && noStar x && okX false K Γ o x && (kd K Γ o).own
      | .Attribute x at_ p1, [], [], .bitlen, .nil => decide (at_ = "bit_length") && noCall x && (p1.endLine == p.line) && okX false K Γ o x
      | .Attribute (.Constant (.str z) _ _) at_ p1, [x], [], .join, .cons b .nil => (match o with
        | .str s => decide (at_ = "join") && decide (z = ⟨s.toArray⟩) && noStar x && (p1.endLine == p.line) && okX false K Γ b x && (kd K Γ b).own
        | _ => false)
      | .Attribute x at_ p1, [y], [], .get, .cons a .nil => decide (at_ = "get") && noCall x && (p1.endLine == p.line) && okX false K Γ o x && (kd K Γ o).own && okX false K Γ a y && (kd K Γ a).own && noStar y
      | .Attribute x at_ p1, [y, z], [], .get2, .cons a (.cons b .nil) => decide (at_ = "get") && noCall x && (p1.endLine == p.line) && okX false K Γ o x && (kd K Γ o).own && okX false K Γ a y && (kd K Γ a).own && noStar y && okX false K Γ b z && (kd K Γ b).own && noStar z
      | .Attribute x at_ p1, [.Name y _], [], .index, .cons (.v i) .nil => decide (at_ = "index") && noCall x && (p1.endLine == p.line) && okX false K Γ o x && nm K i y
      | _, _, _, _, _ => false) | _ => false)
  | .pop i a, e => (match e with
    | .Call fn es kw p => (match fn, es, kw with
      | .Attribute (.Name x _) at_ p1, [b], [] => decide (at_ = "pop") && nm K i x && decide (Γ.getD i 0 = 1) && noStar b && (p1.endLine == p.line) && okX false K Γ a b && (kd K Γ a).own
      | .Attribute (.Name x _) at_ p1, [], [] => (match a with
        | .int j => decide (at_ = "pop") && nm K i x && decide (Γ.getD i 0 = 1) && (p1.endLine == p.line) && decide (j = -1)
        | _ => false)
      | _, _, _ => false) | _ => false)
  | .attr a n, e => (match e with
    | .Attribute o at_ _ => decide (n = 0) && decide (at_ = "value") && noCall o && okX false K Γ a o && (kd K Γ a).own
    | _ => false)
  | .fnv f, e => (match e with
    | .Name x _ => glB K.sc x && !(x == ("__debug__" : Str)) && (match lkF K.fns x f with | some fi => decide (fi.id = f) && pl0 fi | none => false)
    | _ => false)
  | .callv i as, e => (match e with
    | .Call fn es kw _ => (match fn, es, kw with
      | .Name x _, e₁ :: es, [] => nm K i x && okA K Γ [] 0 as (e₁ :: es) && (noStar e₁ && es.all noStar)
      | _, _, _ => false) | _ => false)
  | .glob g, e => (match e with
    | .Name x _ => glB K.sc x && !(x == ("__debug__" : Str)) && (K.t.gl.any fun p => decide (p.1 = x) && p.2.1 == g) | _ => false)
  | .callk f as pm io, e => (match e with
    | .Call fn es kws _ => (match fn with
      | .Name x _ => (match lkF K.fns x f with
        | some fi => io.isEmpty && fi.io.isEmpty && decide (fi.id = f) && glB K.sc x && !(x == ("__debug__" : Str)) && decide (K.sg f = fi.sg) && decide (pm.length = fi.np) && ((List.range fi.sg.pl.length).all fun i => fi.sg.pl.getD i 0 == 0) &&
            (K.t.kwl.any fun q => decide (q.1 = x) && decide (q.2.1 = es.length) && decide (q.2.2.2 = pm) && kwNames kws q.2.2.1 && decide (kws.length = q.2.2.1.length)) && okAK K Γ as es kws
        | none => false)
      | _ => false) | _ => false)
  | .rev a, e => (match e with
    | .Subscript o sl _ => (match sl with
      | .Slice none none (some (.UnaryOp .USub (.Constant (.int 1) _ _) _)) _ => okX false K Γ a o && (kd K Γ a).own
      | _ => false) | _ => false)
  | .dct ks vs, e => (match e with
    | .Dict keys values _ => okP K Γ ks vs keys values && decide (keys.length ≤ 15) && decide ((keyL ks).Nodup)
    | _ => false)
  | .slc a lo hi, e => (match e with
    | .Subscript o sl _ => (match sl with
      | .Slice l u none _ => okX false K Γ a o && (kd K Γ a).own &&
          (match l with | none => isNonT lo | some x => !isNonT lo && okX false K Γ lo x) &&
          (match u with | none => isNonT hi | some x => !isNonT hi && okX false K Γ hi x)
      | _ => false) | _ => false)
  | _, _ => false
/-- a display's pairs -/
def okP (K : Ck) (Γ : List Nat) : T → T → List (Option Expr) → List Expr → Bool
  | ks, .nil, keys, values => (match ks, keys, values with | .nil, [], [] => true | _, _, _ => false)
  | ks, .cons v vs, keys, values => (match ks, keys, values with
    | .cons k ks, some ke :: keys, ve :: values => keyB k ke && okX false K Γ v ve && (kd K Γ v).own && okP K Γ ks vs keys values
    | _, _, _ => false)
  | _, _, _, _ => false
/-- positional arguments, then keywords -/
def okAK (K : Ck) (Γ : List Nat) : T → List Expr → List Keyword → Bool
  | .nil, es, kws => (match es, kws with | [], [] => true | _, _ => false)
  | .cons a b, es, kws => (match es with
    | e :: es => noStar e && okX false K Γ a e && (kd K Γ a).own && okAK K Γ b es kws
    | [] => (match kws with
      | k :: kws => okX false K Γ a k.value && (kd K Γ a).own && okAK K Γ b [] kws
      | [] => false))
  | _, _, _ => false
/-- a comprehension's tests -/
def okC (K : Ck) (Γ : List Nat) : T → List Expr → Bool
  | .nil, es => (match es with | [] => true | _ => false)
  | .cons a _, es => (match es with | [e] => okX true K Γ a e | _ => false)
  | _, _ => false
def okA (K : Ck) (Γ : List Nat) (io : List (Nat × Nat)) (k : Nat) : T → List Expr → Bool
  | .nil, es => (match es with | [] => true | _ => false)
  | .cons a b, es => (match es with
    | e :: es => noStar e && (match io.lookup k with
      | some i => lentB K i a e
      | none => okX false K Γ a e && (kd K Γ a).own) && okA K Γ io (k + 1) b es
    | [] => false)
  | _, _ => false
/-- own items, all at one level -/
def okO (n : Nat) (K : Ck) (Γ : List Nat) : T → List Expr → Bool
  | .nil, es => (match es with | [] => true | _ => false)
  | .cons a b, es => (match es with
    | e :: es => noStar e && okX false K Γ a e && (kd K Γ a).own && decide (n ≤ (kd K Γ a).lv) && okO n K Γ b es
    | [] => false)
  | _, _ => false
def okI (K : Ck) (Γ : List Nat) : T → Expr → Bool
  | .rng as, e => (match e with
    | .Call fn es kw _ => (match fn, kw with
      | .Name x _, [] => decide (x = "range") && glB K.sc x && decide (x ∈ K.bl) && okA K Γ [] 0 as es && len12 es && es.all noStar
      | _, _ => false) | _ => false)
  | .wlk a, e => okX false K Γ a e && (kd K Γ a).own
  | .enum a, e => (match e with
    | .Call fn es kw _ => (match fn, es, kw with
      | .Name x _, [y], [] => bn K x "enumerate" && noStar y && okX false K Γ a y && (kd K Γ a).own
      | _, _, _ => false) | _ => false)
  | .zip a b, e => (match e with
    | .Call fn es kw _ => (match fn, es, kw with
      | .Name x _, [y, z], [] => bn K x "zip" && noStar y && noStar z && okX false K Γ a y && (kd K Γ a).own && okX false K Γ b z && (kd K Γ b).own
      | _, _, _ => false) | _ => false)
  | _, _ => false
/-- a target -/
def okG (M : Nat → Bool) (K : Ck) (Γ : List Nat) : T → Expr → Bool
  | .v i, e => (match e with
    | .Name x _ => nmL K M Γ i x | _ => false)
  | .tup as, e => (match e with
    | .Tuple es _ _ => okGs M K Γ as es && es.all noStar && decide (lenT as = es.length) | _ => false)
  | .idx a b, e => (match a, e with
      | .v i, .Subscript o s _ => (match o with | .Name x _ => nm K i x && decide (Γ.getD i 0 = 1) && okX false K Γ b s && noSlc s | _ => false)
      | _, _ => false)
  | _, _ => false
def okGs (M : Nat → Bool) (K : Ck) (Γ : List Nat) : T → List Expr → Bool
  | .nil, es => (match es with | [] => true | _ => false)
  | .cons a b, es => (match es with | e :: es => noStar e && okG M K Γ a e && okGs M K (gG a Γ) b es | [] => false)
  | _, _ => false
end
end Pz
end
section
set_option Elab.async false
set_option linter.all false
/-! The checker is right: expressions. -/
namespace Pz
open PySem PySem.Spec PyProof.Rows L2

/-- what the text's names stand for -/
structure Bd (c : Cf) (P : Program) (w : World) (mg : Str → Option Value) (base : Heap) (k : Nat) (N : List Str) (t : Tb) (C : Cfg) : Prop where
  fn : ∀ x fi, (x, fi) ∈ t.fns → ∀ W Y sc, Scp c P w mg base k N sc W Y → FnAt c Y t.kwl x fi.np fi.io fi.sg (C.call fi.id)
  bl : ∀ x, x ∈ t.bl → mg x = none
  ex : ErrT c P mg t.ex
  fv : ∀ W Y sc, Scp c P w mg base k N sc W Y → FvAt c Y C.call
  fnv : ∀ x fi, (x, fi) ∈ t.fns → pl0 fi = true → ∃ a, c.X.fa fi.id = some a ∧ mg x = some (.ref a)
  gl : ∀ x g d, (x, g, d) ∈ t.gl → C.glob g = d ∧ ((∃ i tk, d = .int i ∧ mg x = some (.int i tk)) ∨ ∃ z tk, d = .str z ∧ mg x = some (.str ⟨z.toArray⟩ tk))

section
variable {c : Cf} {P : Program} {w : World} {mg : Str → Option Value} {base : Heap} {k : Nat} {N : List Str} {sc : List (Str × NameKind)} {W : WX} {Y : Cx} {C : Cfg} {K : Ck} {Γ : List Nat} {i : Nat} {x : Str}
theorem nm_at (s : Scp c P w mg base k K.N K.sc W Y) (h : nm K i x = true) : Y.N[i]? = some x ∧ Vis Y.env.scope x ∧ (x == ("__debug__" : Str)) = false ∧ (x == ("__classdict__" : Str)) = false := by
  unfold nm at h
  simp only [Bool.and_eq_true, decide_eq_true_eq, Bool.not_eq_true'] at h
  exact ⟨by rw [s.eN]; exact h.1.1.1, s.vis h.1.1.2, h.1.2, h.2⟩
/-- a plain expression, as a value or as a test -/
def isBoolE : Expr → Bool
  | .BoolOp .. => true
  | _ => false
def Both (c : Cf) (W : WX) (Γ : List Nat) (kk : Kd) (Y : Cx) (e : Expr) (m : Bool) (f : Env → R (D × Env)) : Prop :=
  (m = false → SX c W Γ kk Y e f) ∧ (m = true → SC c W Γ kk.pu Y e (truF f) ∧ (isBoolE e = true → PW Y e (tX2 c W Γ kk.pu (truF f))))
theorem Both.plain {kk : Kd} {e : Expr} {m : Bool} {f : Env → R (D × Env)} (cx : Ctx c W Y) (h : SX c W Γ kk Y e f) (hp : plainT e = true) : Both c W Γ kk Y e m f :=
  ⟨fun _ => h, fun _ => ⟨sc_val cx h (plain_true hp), fun z => by cases e <;> first | (cases z; done) | (cases hp; done)⟩⟩
theorem Both.val {kk : Kd} {e : Expr} {f : Env → R (D × Env)} (h : SX c W Γ kk Y e f) : Both c W Γ kk Y e false f := ⟨fun _ => h, fun z => by cases z⟩
/-- own values go down to frozen ones -/
theorem SX.fz {kk : Kd} {e : Expr} {f : Env → R (D × Env)} (h : SX c W Γ kk Y e f) (ho : kk.own = true) : SX c W Γ ⟨true, kk.pu, 0⟩ Y e f := sx_low h ho (Nat.zero_le _)
theorem opB_cases {op : Bop} {o : Operator} (h : opB op o = true) : (op = .add ∧ o = .Add) ∨ (op = .cat ∧ o = .Add) ∨ (op = .sub ∧ o = .Sub) ∨ (op = .mul ∧ o = .Mult) ∨ (op = .rep ∧ o = .Mult) ∨ (op = .fdiv ∧ o = .FloorDiv) ∨ (op = .mod ∧ o = .Mod) ∨ (op = .pow ∧ o = .Pow) := by
  cases op <;> cases o <;> first | (cases h; done) | simp
theorem own_or {a b : Kd} (h : (a.own || b.pu) = true) : a.own = true ∨ b.pu = true := by simpa using h
theorem cmp_all {op : Cop} {o : CmpOp} (h : copB op o = true) (cx : Ctx c W Y) (n m : Nat) : CmpR c Y o n m (cmpB op) := by
  cases op <;> cases o <;> first | (cases h; done) | skip
  · exact cmp_eq cx
  · exact cmp_ne cx
  · exact cmp_lt cx
  · exact cmp_le cx
  · exact cmp_gt cx
  · exact cmp_ge cx
  · exact cmp_in cx
  · exact cmp_notin cx
  · exact cmp_is
  · exact cmp_isnot
/-- a block's scope -/
theorem Scp.blk (s : Scp c P w mg base k K.N K.sc W Y) (s0 : Shared) (H0 : Hp) (scope : Scope) (Ca : Addr) (cl : List (Str × Addr)) (fp : List Addr) : Scp c P w mg base k K.N scope.names never (Y.blk s0 H0 scope (compEnvC scope cl Ca Y.env) fp) where
  K := s.K
  tk := fun u s' ⟨a, B, sI, pins, σ, H, cls, d, e, I, nb, up, sky, na, os, ag, w⟩ => w.elim
  hu := s.hu
  calm := s.calm
  gd := s.gd
  dg := s.dg
  sm := s.sm
  eP := s.eP
  ew := s.ew
  emg := s.emg
  ebase := s.ebase
  room := s.room
  eN := s.eN
  nd := s.nd
  look := fun x kd h => by
    show (relabel scope Y.env).names.lookup x = _ ∨ _ ∧ (relabel scope Y.env).names.lookup x = _
    unfold relabel
    simp only
    generalize scope.names = l at h ⊢
    induction l with
    | nil => cases h
    | cons p l ih =>
      obtain ⟨n, q⟩ := p
      rw [List.map_cons]
      by_cases hx : (x == n) = true
      · simp only [List.lookup_cons, hx] at h
        cases h
        split
        · rename_i hc
          simp only [Bool.and_eq_true, beq_iff_eq] at hc
          right
          refine ⟨hc.1.1, ?_⟩
          simp only [List.lookup_cons, hx]
        · left
          simp only [List.lookup_cons, hx]
      · have hx : (x == n) = false := by simpa using hx
        simp only [List.lookup_cons, hx] at h
        have := ih h
        split <;> simp only [List.lookup_cons, hx] <;> exact this
  fn := fun x h => by show (scope.names.lookup x == some NameKind.cell) = true; rw [h]; rfl
  pass := PassesOwn.never
end
end Pz
end
section
set_option Elab.async false
set_option linter.all false
set_option maxRecDepth 4000
set_option maxHeartbeats 0
/-! The checker is right: expressions, the induction. -/
namespace Pz
open PySem PySem.Spec PyProof.Rows L2

section
variable {c : Cf} {P : Program} {w : World} {mg : Str → Option Value} {base : Heap} {k : Nat} {N : List Str} {C : Cfg}

theorem lsOf_len (io : List (Nat × Nat)) : ∀ n k, (lsOf io k n).length = n
  | 0, _ => rfl
  | n + 1, k => congrArg (· + 1) (lsOf_len io n (k + 1))
theorem lsOf_nil : ∀ n k, allN (lsOf [] k n) = true
  | 0, _ => rfl
  | n + 1, k => by
    show (([] : List (Nat × Nat)).lookup k :: lsOf [] (k + 1) n).all (·.isNone) = true
    rw [List.all_cons]
    exact lsOf_nil n (k + 1)
theorem lsOf_get (io : List (Nat × Nat)) : ∀ n k j, j < n → (lsOf io k n)[j]? = some (io.lookup (k + j))
  | 0, _, _, h => absurd h (by omega)
  | n + 1, k, 0, _ => rfl
  | n + 1, k, j + 1, h => by
    show (lsOf io (k + 1) n)[j]? = _
    rw [lsOf_get io n (k + 1) j (by omega), show k + 1 + j = k + (j + 1) by omega]
theorem range_all {n : Nat} {f : Nat → Bool} (h : (List.range n).all f = true) {i : Nat} (hi : i < n) : f i = true := List.all_eq_true.mp h i (List.mem_range.mpr hi)
theorem getD_out {l : List Nat} {i : Nat} (h : ¬ i < l.length) : l.getD i 0 = 0 := by
  rw [List.getD_eq_getElem?_getD, List.getElem?_eq_none (by omega)]; rfl

theorem ownL_ix {K : Ck} {own : List Nat} : ∀ p ∈ ownL K own, K.N[p.2]? = some p.1 := by
  intro p hp
  unfold ownL at hp
  obtain ⟨i, _, h⟩ := List.mem_filterMap.mp hp
  obtain ⟨x, e, rfl⟩ := Option.map_eq_some_iff.mp h
  exact e
theorem blk_ok {K : Ck} {W : WX} {Y : Cx} {scope : Scope} {own : List Nat} (s : Scp c P w mg base k K.N K.sc W Y) (h : blkB K scope own = true) : BlkOk Y.N Y.env.scope scope (ownL K own) := by
  unfold blkB at h
  simp only [Bool.and_eq_true, decide_eq_true_eq] at h
  obtain ⟨⟨⟨h1, h2⟩, h3⟩, h4⟩ := h
  refine ⟨h1, fun y hy => by simpa using List.all_eq_true.mp h2 y hy, fun p hp => by rw [s.eN]; exact ownL_ix p hp, fun y hy e => ?_, fun y hy e => ?_⟩
  · obtain ⟨n, q⟩ := y
    replace e : q = .free := e
    subst e
    have := List.all_eq_true.mp h3 _ hy
    replace this : (match K.sc.lookup n with | some .cell | some .free => true | _ => false) = true := this
    show Y.env.scope.names.lookup n = _ ∨ Y.env.scope.names.lookup n = _
    split at this
    · rename_i z
      rcases s.look _ _ z with w | w
      · exact .inl w
      · exact .inl w.2
    · rename_i z
      rcases s.look _ _ z with w | w
      · exact .inr w
      · exact .inl w.2
    · cases this
  · obtain ⟨n, q⟩ := y
    have := List.all_eq_true.mp h3 _ hy
    have this : (decide (n ∈ (ownL K own).map (·.1)) || decide (n ∉ K.N)) = true := by
      rcases e with e | e <;> (replace e : q = _ := e) <;> subst e <;> exact this
    rw [s.eN]
    simpa using this
theorem bn_at {K : Ck} {W : WX} {Y : Cx} {x y : Str} (s : Scp c P w mg base k K.N K.sc W Y) (bd : Bd c P w mg base k K.N K.t C) (h : bn K x y = true) : x = y ∧ Gl Y y ∧ Y.mg y = none := by
  unfold bn at h
  simp only [Bool.and_eq_true, decide_eq_true_eq] at h
  obtain ⟨⟨rfl, h2⟩, h3⟩ := h
  exact ⟨rfl, s.gl h2, by rw [s.emg]; exact bd.bl _ h3⟩
theorem ty_at {K : Ck} {W : WX} {Y : Cx} {t : Ty} {x : Str} (s : Scp c P w mg base k K.N K.sc W Y) (bd : Bd c P w mg base k K.N K.t C) (h : tyB K t x = true) :
    Gl Y x ∧ Y.mg x = none ∧ bootBuiltins x = some (.type (tyN t)) ∧ x ≠ "__name__" ∧ (x == ("__debug__" : Str)) = false ∧ ∀ c, t ≠ .cls c := by
  unfold tyB at h
  simp only [Bool.and_eq_true, decide_eq_true_eq] at h
  obtain ⟨⟨h1, h2⟩, h3⟩ := h
  have : bootBuiltins x = some (.type (tyN t)) ∧ x ≠ "__name__" ∧ (x == ("__debug__" : Str)) = false ∧ ∀ c, t ≠ .cls c := by
    cases t <;> first | (cases h1; done) | skip
    all_goals
      rw [decide_eq_true_eq] at h1
      subst h1
      exact ⟨by decide +kernel, by decide, by decide, fun c z => by cases z⟩
  exact ⟨s.gl h2, by rw [s.emg]; exact bd.bl _ h3, this.1, this.2.1, this.2.2.1, this.2.2.2⟩
theorem nmL_pg {K : Ck} {W : WX} {Y : Cx} {M : Nat → Bool} {Γ : List Nat} {i : Nat} {x : Str} (s : Scp c P w mg base k K.N K.sc W Y) (h : nmL K M Γ i x = true) : Y.N.Nodup ∧ Y.N[i]? = some x ∧ Loc Y.env.scope x ∧ (Y.fn x = true ∨ Y.env.scope.names.lookup x = some .local) ∧ True := by
  unfold nmL at h
  simp only [Bool.and_eq_true, decide_eq_true_eq] at h
  obtain ⟨⟨⟨h1, h2⟩, h3⟩, h4⟩ := h
  obtain ⟨g1, g2⟩ := s.loc h2
  exact ⟨by rw [s.eN]; exact s.nd, by rw [s.eN]; exact h1, g1, g2, trivial⟩
theorem attr_plain {e : Expr} {a : Str} {env : PySem.Env} {wh : Sem Value} (h : noCall e = true) : attributeBase e a env wh = wh := by
  cases e <;> first | rfl | (cases h; done)
mutual
theorem snd_X : ∀ (t : T) (e : Expr) (m : Bool) (K : Ck) (Γ : List Nat), okX m K Γ t e = true → Bd c P w mg base k K.N K.t C → ∀ W Y, Scp c P w mg base k K.N K.sc W Y → Both c W Γ (kd K Γ t) Y e m (evE C t)
  | .v i, e, m, K, Γ, h, bd, W, Y, s => by
    cases e <;> first | (cases h; done) | skip
    obtain ⟨h1, h2, h3, h4⟩ := nm_at s h
    exact .plain s.toCtx (sx_var h1 h2 h3 h4) rfl
  | .non, e, m, K, Γ, h, bd, W, Y, s => by
    cases e <;> first | (cases h; done) | skip
    rename_i v _ _
    cases v <;> first | (cases h; done) | skip
    exact .plain s.toCtx sx_non rfl
  | .tt, e, m, K, Γ, h, bd, W, Y, s => by
    cases e <;> first | (cases h; done) | skip
    rename_i v _ _
    cases v <;> first | (cases h; done) | skip
    replace h : _ = true := h
    subst h
    exact .plain s.toCtx sx_bl rfl
  | .ff, e, m, K, Γ, h, bd, W, Y, s => by
    cases e <;> first | (cases h; done) | skip
    rename_i v _ _
    cases v <;> first | (cases h; done) | skip
    rename_i b
    cases b <;> first | (cases h; done) | skip
    exact .plain s.toCtx sx_bl rfl
  | .int i, e, m, K, Γ, h, bd, W, Y, s => by
    cases e <;> first | (cases h; done) | skip
    rename_i v _ _
    cases v <;> first | (cases h; done) | skip
    rename_i j
    replace h : decide (j = i) = true := h
    rw [decide_eq_true_eq] at h
    subst h
    exact .plain s.toCtx sx_int rfl
  | .str z, e, m, K, Γ, h, bd, W, Y, s => by
    cases e <;> first | (cases h; done) | skip
    rename_i v _ _
    cases v <;> first | (cases h; done) | skip
    rename_i j
    replace h : decide (j = ⟨z.toArray⟩) = true := h
    rw [decide_eq_true_eq] at h
    exact .plain s.toCtx (sx_str h) rfl
  | .bin op a b, e, m, K, Γ, h, bd, W, Y, s => by
    cases e <;> first | (cases h; done) | skip
    rename_i l o r p
    unfold okX at h
    simp only [Bool.and_eq_true] at h
    obtain ⟨⟨⟨⟨h1, h2⟩, h3⟩, h4⟩, h5⟩ := h
    have ia := (snd_X a l false K Γ h2 bd W Y s).1 rfl
    have ib := (snd_X b r false K Γ h3 bd W Y s).1 rfl
    refine .plain s.toCtx ?_ rfl
    rcases opB_cases h1 with ⟨rfl, rfl⟩ | ⟨rfl, rfl⟩ | ⟨rfl, rfl⟩ | ⟨rfl, rfl⟩ | ⟨rfl, rfl⟩ | ⟨rfl, rfl⟩ | ⟨rfl, rfl⟩ | ⟨rfl, rfl⟩
    · simp only [Bool.and_eq_true] at h5
      exact sx_add (ka := ⟨true, (kd K Γ a).pu, 0⟩) (kb := ⟨true, (kd K Γ b).pu, 0⟩) s.K (ia.fz h5.1) (ib.fz h5.2) (.inl rfl) rfl rfl
    · simp only [Bool.and_eq_true, decide_eq_true_eq] at h5
      exact sx_cat s.K ia ib (own_or h4) h5.1 h5.2
    · exact sx_sub ia ib (own_or h4)
    · exact sx_mul ia ib (own_or h4)
    · simp only [beq_iff_eq] at h5
      exact sx_rep ia ib (own_or h4) h5
    · exact sx_fdiv ia ib (own_or h4)
    · exact sx_mod ia ib (own_or h4)
    · exact sx_pow ia ib (own_or h4)
  | .neg a, e, m, K, Γ, h, bd, W, Y, s => by
    cases e <;> first | (cases h; done) | skip
    rename_i o x p
    cases o <;> first | (cases h; done) | skip
    replace h : (!m && okX false K Γ a x) = true := h
    simp only [Bool.and_eq_true, Bool.not_eq_true'] at h
    have ia := (snd_X a x false K Γ h.2 bd W Y s).1 rfl
    exact ⟨fun _ => sx_neg ia, fun hm => by rw [h.1] at hm; cases hm⟩
  | .not a, e, m, K, Γ, h, bd, W, Y, s => by
    cases e <;> first | (cases h; done) | skip
    rename_i o x p
    cases o <;> first | (cases h; done) | skip
    unfold okX at h
    have ia := snd_X a x m K Γ h bd W Y s
    exact ⟨fun hm => sx_not s.toCtx (ia.1 hm), fun hm => ⟨sc_not (ia.2 hm).1, fun z => by cases z⟩⟩
  | .and a b, e, m, K, Γ, h, bd, W, Y, s => by
    cases e <;> first | (cases h; done) | skip
    rename_i o vs p
    cases o <;> first | (cases h; done) | skip
    match vs, h with
    | [], h => cases h
    | [_], h => cases h
    | [x, y], h =>
      replace h : (okX m K Γ a x && okX m K Γ b y && (m || ((kd K Γ a).own && (kd K Γ b).own))) = true := h
      simp only [Bool.and_eq_true] at h
      have ia := snd_X a x m K Γ h.1.1 bd W Y s
      have ib := snd_X b y m K Γ h.1.2 bd W Y s
      refine ⟨fun hm => ?_, fun hm => ?_⟩
      · have h3 := h.2
        rw [hm] at h3
        simp only [Bool.false_or, Bool.and_eq_true] at h3
        exact sx_and s.toCtx ((ia.1 hm).fz h3.1) (sx_boolone ((ib.1 hm).fz h3.2))
      · have pw := sc_and (pos := p) (pa := (kd K Γ a).pu) (pb := (kd K Γ b).pu) s.toCtx (ia.2 hm).1 (pw_and1 (pos := p) (ib.2 hm).1)
        exact ⟨pw.pt, fun _ => pw⟩
    | x :: y :: z :: r, h =>
      replace h : (okX m K Γ a x && okX m K Γ b (.BoolOp .And (y :: z :: r) p) && (m || ((kd K Γ a).own && (kd K Γ b).own))) = true := h
      simp only [Bool.and_eq_true] at h
      have ia := snd_X a x m K Γ h.1.1 bd W Y s
      have ib := snd_X b _ m K Γ h.1.2 bd W Y s
      refine ⟨fun hm => ?_, fun hm => ?_⟩
      · have h3 := h.2
        rw [hm] at h3
        simp only [Bool.false_or, Bool.and_eq_true] at h3
        exact sx_and s.toCtx ((ia.1 hm).fz h3.1) ((ib.1 hm).fz h3.2)
      · have pw := sc_and (pos := p) (pa := (kd K Γ a).pu) (pb := (kd K Γ b).pu) s.toCtx (ia.2 hm).1 ((ib.2 hm).2 rfl)
        exact ⟨pw.pt, fun _ => pw⟩
  | .or a b, e, m, K, Γ, h, bd, W, Y, s => by
    cases e <;> first | (cases h; done) | skip
    rename_i o vs p
    cases o <;> first | (cases h; done) | skip
    match vs, h with
    | [], h => cases h
    | [_], h => cases h
    | [x, y], h =>
      replace h : (okX m K Γ a x && okX m K Γ b y && (m || ((kd K Γ a).own && (kd K Γ b).own))) = true := h
      simp only [Bool.and_eq_true] at h
      have ia := snd_X a x m K Γ h.1.1 bd W Y s
      have ib := snd_X b y m K Γ h.1.2 bd W Y s
      refine ⟨fun hm => ?_, fun hm => ?_⟩
      · have h3 := h.2
        rw [hm] at h3
        simp only [Bool.false_or, Bool.and_eq_true] at h3
        exact sx_or s.toCtx ((ia.1 hm).fz h3.1) (sx_boolone ((ib.1 hm).fz h3.2))
      · have pw := sc_or (pos := p) (pa := (kd K Γ a).pu) (pb := (kd K Γ b).pu) s.toCtx (ia.2 hm).1 (pw_or1 (pos := p) (ib.2 hm).1)
        exact ⟨pw.pt, fun _ => pw⟩
    | x :: y :: z :: r, h =>
      replace h : (okX m K Γ a x && okX m K Γ b (.BoolOp .Or (y :: z :: r) p) && (m || ((kd K Γ a).own && (kd K Γ b).own))) = true := h
      simp only [Bool.and_eq_true] at h
      have ia := snd_X a x m K Γ h.1.1 bd W Y s
      have ib := snd_X b _ m K Γ h.1.2 bd W Y s
      refine ⟨fun hm => ?_, fun hm => ?_⟩
      · have h3 := h.2
        rw [hm] at h3
        simp only [Bool.false_or, Bool.and_eq_true] at h3
        exact sx_or s.toCtx ((ia.1 hm).fz h3.1) ((ib.1 hm).fz h3.2)
      · have pw := sc_or (pos := p) (pa := (kd K Γ a).pu) (pb := (kd K Γ b).pu) s.toCtx (ia.2 hm).1 ((ib.2 hm).2 rfl)
        exact ⟨pw.pt, fun _ => pw⟩
  | .cmp op a b, e, m, K, Γ, h, bd, W, Y, s => by
    cases e <;> first | (cases h; done) | skip
    rename_i l os rs p
    match os, rs, h with
    | [], _, h => cases h
    | _ :: _ :: _, _, h => cases h
    | [_], [], h => cases h
    | [_], _ :: _ :: _, h => cases h
    | [o], [r], h =>
      replace h : (copB op o && okX false K Γ a l && okX false K Γ b r && noSet r && ((kd K Γ a).own || (kd K Γ b).pu)) = true := h
      simp only [Bool.and_eq_true] at h
      obtain ⟨⟨⟨⟨h1, h2⟩, h3⟩, h4⟩, h5⟩ := h
      have ia := (snd_X a l false K Γ h2 bd W Y s).1 rfl
      have ib := (snd_X b r false K Γ h3 bd W Y s).1 rfl
      have cr := cmp_all (W := W) (Y := Y) (c := c) h1 s.toCtx (kd K Γ a).lv (kd K Γ b).lv
      exact ⟨fun _ => sx_cmp cr (mark h4) ia ib (own_or h5), fun _ => ⟨sc_cmp cr (mark h4) ia ib (own_or h5), fun z => by cases z⟩⟩
  | .ite t a b, e, m, K, Γ, h, bd, W, Y, s => by
    cases e <;> first | (cases h; done) | skip
    rename_i x y z p
    unfold okX at h
    simp only [Bool.and_eq_true, Bool.not_eq_true'] at h
    obtain ⟨⟨⟨⟨⟨h0, h1⟩, h2⟩, h3⟩, h4⟩, h5⟩ := h
    have it := (snd_X t x true K Γ h1 bd W Y s).2 rfl
    have ia := (snd_X a y false K Γ h2 bd W Y s).1 rfl
    have ib := (snd_X b z false K Γ h3 bd W Y s).1 rfl
    exact ⟨fun _ => sx_ite it.1 (ia.fz h4) (ib.fz h5), fun hm => by rw [h0] at hm; cases hm⟩
  | .call f as io, e, m, K, Γ, h, bd, W, Y, s => by
    cases e <;> first | (cases h; done) | skip
    rename_i fn es kw p
    cases fn <;> first | (cases h; done) | skip
    rename_i x p0
    match es, kw, h with
    | [], _ :: _, h => cases h
    | [], [], h =>
      refine .plain s.toCtx ?_ rfl
      replace h : callZ K f io x as = true := h
      unfold callZ at h
      cases as <;> first | (cases h; done) | skip
      cases hx : lkF K.fns x f with
      | none => rw [hx] at h; cases h
      | some fi =>
        rw [hx] at h
        simp only [Bool.and_eq_true, decide_eq_true_eq, Bool.not_eq_true', List.isEmpty_iff] at h
        obtain ⟨⟨⟨⟨⟨h1, h2⟩, h3⟩, h5⟩, h8⟩, ⟨h9, h10⟩, h11⟩ := h
        subst h9
        have fa := bd.fn x fi (lkF_mem hx) W Y K.sc s
        rw [h1] at fa
        show SX c W Γ ⟨true, true, (K.sg f).rl⟩ Y _ _
        rw [h8]
        obtain ⟨fid, fnp, fio, fsg⟩ := fi
        dsimp only at h5 h10
        subst h5 h10
        refine sx_callZ s.toCtx fa (s.gl h2) h3 fun i => ?_
        by_cases hi : i < fsg.pl.length
        · simpa using range_all h11 hi
        · exact getD_out hi
    | _ :: _, _ :: _, h => cases h
    | e₁ :: es, [], h =>
      refine .plain s.toCtx ?_ rfl
      cases hx : lkF K.fns x f with
      | none =>
        replace h : (match lkF K.fns x f with
          | some fi => callB K Γ f io x es.length fi && okA K Γ io 0 as (e₁ :: es) && (noStar e₁ && es.all noStar)
          | none => false) = true := h
        rw [hx] at h; cases h
      | some fi =>
        replace h : (match lkF K.fns x f with
          | some fi => callB K Γ f io x es.length fi && okA K Γ io 0 as (e₁ :: es) && (noStar e₁ && es.all noStar)
          | none => false) = true := h
        rw [hx] at h
        simp only [Bool.and_eq_true] at h
        obtain ⟨⟨hcb, h4⟩, h6, h7⟩ := h
        unfold callB at hcb
        simp only [Bool.and_eq_true, decide_eq_true_eq, Bool.not_eq_true'] at hcb
        obtain ⟨⟨⟨⟨⟨h1, h2⟩, h3⟩, h5⟩, h8⟩, h9⟩ := hcb
        have fa := bd.fn x fi (lkF_mem hx) W Y K.sc s
        rw [h1] at fa
        show SX c W Γ ⟨true, io.isEmpty && puA K Γ as, (K.sg f).rl⟩ Y _ _
        rw [h8]
        obtain ⟨fid, fnp, fio, fsg⟩ := fi
        unfold ioB at h9
        match io, fio, h9, h4, fa with
        | [], [], h9, h4, fa =>
          have ha := snd_A as (e₁ :: es) K Γ [] 0 h4 bd W Y s
          refine sx_call0 s.toCtx fa (s.gl h2) h3 ha (lsOf_nil _ _) (by rw [lsOf_len]; exact h5.symm) (fun i => ?_) (star_cons h6) (star_any h7)
          by_cases hi : i < fsg.pl.length
          · simpa using range_all h9 hi
          · exact getD_out hi
        | [(j, i)], [j'], h9, h4, fa =>
          have ha := snd_A as (e₁ :: es) K Γ [(j, i)] 0 h4 bd W Y s
          simp only [Bool.and_eq_true, decide_eq_true_eq] at h9
          obtain ⟨⟨⟨rfl, g2⟩, g3⟩, g4⟩ := h9
          replace h5 : fnp = es.length + 1 := h5
          have hl : (lsOf [(j, i)] 0 (e₁ :: es).length).length = fnp := by rw [lsOf_len]; exact h5.symm
          refine sx_call1 (pu := puA K Γ as) s.toCtx fa (s.gl h2) h3 ha hl ?_ (fun k hk hk2 => ?_) (fun k hk => ?_) g3 (star_cons h6) (star_any h7)
          · rw [lsOf_get _ _ _ _ (by show j < es.length + 1; rw [← h5]; exact g2)]
            simp [List.lookup]
          · rw [lsOf_get _ _ _ _ (by show k < es.length + 1; rw [← h5]; exact hk2)]
            have : (k == j) = false := by simpa using hk
            simp [List.lookup, this]
          · by_cases hi : k < fsg.pl.length
            · have := range_all g4 hi
              simpa [hk] using this
            · exact getD_out hi
  | .idx a b, e, m, K, Γ, h, bd, W, Y, s => by
    cases e <;> first | (cases h; done) | skip
    rename_i o x p
    replace h : (okX false K Γ a o && okX false K Γ b x && ((kd K Γ a).own || ((kd K Γ b).pu && decide ((kd K Γ a).lv ≤ 1))) && plainI x) = true := h
    simp only [Bool.and_eq_true] at h
    obtain ⟨⟨⟨h1, h2⟩, h3⟩, h4⟩ := h
    have ia := (snd_X a o false K Γ h1 bd W Y s).1 rfl
    have ib := (snd_X b x false K Γ h2 bd W Y s).1 rfl
    refine .plain s.toCtx ?_ rfl
    by_cases ho : (kd K Γ a).own = true
    · exact sx_idx (ka := ⟨true, (kd K Γ a).pu, 0⟩) s.toCtx (ia.fz ho) ib (.inl rfl) (Nat.zero_le _) (plain_ix h4)
    · have h3' : (kd K Γ b).pu = true ∧ (kd K Γ a).lv ≤ 1 := by
        have : (kd K Γ a).own = false := by simpa using ho
        rw [this] at h3
        simpa using h3
      exact sx_idx s.toCtx ia ib (.inr h3'.1) h3'.2 (plain_ix h4)
  | .tup as, e, m, K, Γ, h, bd, W, Y, s => by
    cases e <;> first | (cases h; done) | skip
    rename_i es k2 p
    replace h : (okA K Γ [] 0 as es && decide (es.length ≤ 1000)) = true := h
    simp only [Bool.and_eq_true, decide_eq_true_eq] at h
    exact .plain s.toCtx (sx_tup (snd_A as es K Γ [] 0 h.1 bd W Y s) (lsOf_nil _ _) (by rw [lsOf_len]; exact h.2)) rfl
  | .lst n as, e, m, K, Γ, h, bd, W, Y, s => by
    cases e <;> first | (cases h; done) | skip
    rename_i es p
    replace h : ((if n ≤ 1 then okA K Γ [] 0 as es else okO (n - 1) K Γ as es) && decide (es.length ≤ 1000)) = true := h
    simp only [Bool.and_eq_true, decide_eq_true_eq] at h
    by_cases hn : n ≤ 1
    · have ek : kd K Γ (.lst n as) = ⟨true, puA K Γ as, 1⟩ := if_pos hn
      rw [if_pos hn] at h
      rw [ek]
      exact .plain s.toCtx (sx_lst (snd_A as es K Γ [] 0 h.1 bd W Y s) (lsOf_nil _ _) (by rw [lsOf_len]; exact h.2)) rfl
    · have ek : kd K Γ (.lst n as) = ⟨true, false, n⟩ := if_neg hn
      rw [if_neg hn] at h
      rw [ek]
      obtain ⟨so, hl⟩ := snd_O as es (n - 1) K Γ h.1 bd W Y s
      have := sx_lsto (pos := p) so h.2 hl
      rw [show n - 1 + 1 = n by omega] at this
      exact .plain s.toCtx this rfl
  | .tupo n as, e, m, K, Γ, h, bd, W, Y, s => by
    cases e <;> first | (cases h; done) | skip
    rename_i es k2 p
    replace h : (decide (1 ≤ n) && okO (n - 1) K Γ as es && decide (es.length ≤ 1000)) = true := h
    simp only [Bool.and_eq_true, decide_eq_true_eq] at h
    obtain ⟨so, hl⟩ := snd_O as es (n - 1) K Γ h.1.2 bd W Y s
    have := sx_tupo (pos := p) (x1 := k2) so h.2 hl
    rw [show n - 1 + 1 = n by have := h.1.1; omega] at this
    exact .plain s.toCtx this rfl
  | .lcw el j i, e, m, K, Γ, h, bd, W, Y, s => by
    cases e <;> first | (cases h; done) | skip
    rename_i x gens scope p
    match gens, h with
    | [], h => cases h
    | _ :: _ :: _, h => cases h
    | [⟨gt, gi, gifs, ga⟩], h =>
      replace h : (decide (ga = 0) && lcwB K Γ j i gt gi gifs scope && okX false { K with sc := scope.names } (Γ.set j (Γ.getD i 0 - 1)) el x && (kd { K with sc := scope.names } (Γ.set j (Γ.getD i 0 - 1)) el).own) = true := h
      simp only [Bool.and_eq_true, decide_eq_true_eq] at h
      obtain ⟨⟨⟨rfl, h2⟩, h9⟩, h10⟩ := h
      unfold lcwB at h2
      split at h2
      case h_2 => cases h2
      rename_i y py z pz
      simp only [Bool.and_eq_true, decide_eq_true_eq, beq_iff_eq] at h2
      obtain ⟨⟨⟨⟨⟨⟨k1, k2⟩, k3⟩, k4⟩, k5⟩, k6⟩, k7⟩ := h2
      have bd' : Bd c P w mg base k { K with sc := scope.names }.N { K with sc := scope.names }.t C := ⟨bd.fn, bd.bl, bd.ex, bd.fv, bd.fnv, bd.gl⟩
      obtain ⟨g1, g2, g3, g4⟩ := nm_at s k1
      refine .plain s.toCtx ?_ rfl
      have e0 : (ownL K [j]).map (·.2) = [j] := by
        unfold blkB at k6
        simp only [Bool.and_eq_true, decide_eq_true_eq] at k6
        exact k6.2
      have lc := pe_lc (pos := p) (tg := .Name y py) s.calm (by rw [s.eN]; exact s.nd) (pi_seq (pe_var (i := i) (pos := pz) g1 g2 g3 g4)) (blk_ok s k6)
        (fun s0 H0 Ca cl fp => by obtain ⟨n1, n2, n3, n4, n5⟩ := nmL_pg (s.blk s0 H0 scope Ca cl fp) k7; exact pg_name n1 n2 n3 n4)
        (fun s0 H0 Ca cl fp => pts_nil)
        (fun s0 H0 Ca cl fp => ((snd_X el x false { K with sc := scope.names } (Γ.set j (Γ.getD i 0 - 1)) h9 bd' never _ (s.blk s0 H0 scope Ca cl fp)).1 rfl).fz h10) (folded rfl)
      rw [e0, s.K] at lc
      exact PE.imp lc fun σ H Q z => lcw_go k5 k4 (by omega) k3 z
  | .lc el tg it cc own, e, m, K, Γ, h, bd, W, Y, s => by
    cases e <;> first | (cases h; done) | skip
    rename_i x gens scope p
    match gens, h with
    | [], h => cases h
    | _ :: _ :: _, h => cases h
    | [⟨gt, gi, gifs, ga⟩], h =>
      replace h : (decide (ga = 0) && okI K Γ it gi && tgB it gt && noSet gi && blkB K scope own && (own.all fun i => Γ.getD i 0 == 0) &&
          okG (inOwn own) { K with sc := scope.names } Γ tg gt && decide (gG tg Γ = Γ) && okC { K with sc := scope.names } Γ cc gifs && okX false { K with sc := scope.names } Γ el x && (kd { K with sc := scope.names } Γ el).own) = true := h
      simp only [Bool.and_eq_true, decide_eq_true_eq] at h
      obtain ⟨⟨⟨⟨⟨⟨⟨⟨⟨⟨rfl, h2⟩, h2'⟩, h3⟩, h4⟩, h5⟩, h6⟩, h7⟩, h8⟩, h9⟩, h10⟩ := h
      have bd' : Bd c P w mg base k { K with sc := scope.names }.N { K with sc := scope.names }.t C := ⟨bd.fn, bd.bl, bd.ex, bd.fv, bd.fnv, bd.gl⟩
      obtain ⟨pi, hi⟩ := snd_I it gi K Γ h2 bd
      obtain ⟨pc, hc⟩ := snd_C cc gifs { K with sc := scope.names } Γ h8 bd'
      refine .plain s.toCtx ?_ rfl
      have blk := blk_ok s h4
      have e0 : (ownL K own).map (·.2) = own := by
        unfold blkB at h4
        simp only [Bool.and_eq_true, decide_eq_true_eq] at h4
        exact h4.2
      have lc := pe_lc (pos := p) s.calm (by rw [s.eN]; exact s.nd) (hi W Y s gt h2') blk
        (fun s0 H0 Ca cl fp => by have := snd_G tg gt (inOwn own) { K with sc := scope.names } Γ h6 bd' never _ (Zb own) rfl (s.blk s0 H0 scope Ca cl fp); rw [h7] at this; exact this)
        (fun s0 H0 Ca cl fp => hc never _ (s.blk s0 H0 scope Ca cl fp))
        (fun s0 H0 Ca cl fp => ((snd_X el x false { K with sc := scope.names } Γ h9 bd' never _ (s.blk s0 H0 scope Ca cl fp)).1 rfl).fz h10) (folded h3)
      rw [e0] at lc
      exact PE.imp lc fun σ H Q z => lc_go (fun i hi => by simpa using List.all_eq_true.mp h5 i hi) z
  | .lc2 el tg it cc tg2 it2 cc2 own own2, e, m, K, Γ, h, bd, W, Y, s => by
    cases e <;> first | (cases h; done) | skip
    rename_i x gens scope p
    match gens, h with
    | [], h => cases h
    | [_], h => cases h
    | _ :: _ :: _ :: _, h => cases h
    | [⟨gt, gi, gifs, ga⟩, ⟨ht, hi2, hifs, ha⟩], h =>
      replace h : (decide (ga = 0) && okI K Γ it gi && tgB it gt && noSet gi && blkB K scope own && (own.all fun i => Γ.getD i 0 == 0) &&
          okG (inOwn own) { K with sc := scope.names } Γ tg gt && decide (gG tg Γ = Γ) && okC { K with sc := scope.names } Γ cc gifs && okX false { K with sc := scope.names } Γ el x && (kd { K with sc := scope.names } Γ el).own &&
          (decide (ha = 0) && okI { K with sc := scope.names } Γ it2 hi2 && tgB it2 ht && noSet hi2 && (own2.all fun i => decide (i ∈ own)) && okG (inOwn own2) { K with sc := scope.names } Γ tg2 ht && decide (gG tg2 Γ = Γ) && okC { K with sc := scope.names } Γ cc2 hifs)) = true := h
      simp only [Bool.and_eq_true, decide_eq_true_eq] at h
      obtain ⟨⟨⟨⟨⟨⟨⟨⟨⟨⟨⟨rfl, h2⟩, h2'⟩, h3⟩, h4⟩, h5⟩, h6⟩, h7⟩, h8⟩, h9⟩, h10⟩, ⟨⟨⟨⟨⟨⟨⟨rfl, k2⟩, k2'⟩, k3⟩, k5⟩, k6⟩, k7⟩, k8⟩⟩ := h
      have bd' : Bd c P w mg base k { K with sc := scope.names }.N { K with sc := scope.names }.t C := ⟨bd.fn, bd.bl, bd.ex, bd.fv, bd.fnv, bd.gl⟩
      obtain ⟨pi, hi⟩ := snd_I it gi K Γ h2 bd
      obtain ⟨pc, hc⟩ := snd_C cc gifs { K with sc := scope.names } Γ h8 bd'
      obtain ⟨pj, hj⟩ := snd_I it2 hi2 { K with sc := scope.names } Γ k2 bd'
      obtain ⟨pd, hd⟩ := snd_C cc2 hifs { K with sc := scope.names } Γ k8 bd'
      refine .plain s.toCtx ?_ rfl
      have blk := blk_ok s h4
      have e0 : (ownL K own).map (·.2) = own := by
        unfold blkB at h4
        simp only [Bool.and_eq_true, decide_eq_true_eq] at h4
        exact h4.2
      have hs2 : ∀ i ∈ own2, i ∈ own := fun i hi => by simpa using List.all_eq_true.mp k5 i hi
      have lc := pe_lc2 (pos := p) (vs1 := own2) s.calm (by rw [s.eN]; exact s.nd) (hi W Y s gt h2') blk (by rw [e0]; exact hs2)
        (fun s0 H0 Ca cl fp => by have := snd_G tg gt (inOwn own) { K with sc := scope.names } Γ h6 bd' never _ (Zb own) rfl (s.blk s0 H0 scope Ca cl fp); rw [h7] at this; exact this)
        (fun s0 H0 Ca cl fp => hc never _ (s.blk s0 H0 scope Ca cl fp))
        (fun s0 H0 Ca cl fp => hj never _ (s.blk s0 H0 scope Ca cl fp) ht k2')
        (fun s0 H0 Ca cl fp => by have := snd_G tg2 ht (inOwn own2) { K with sc := scope.names } Γ k6 bd' never _ (Zb own2) rfl (s.blk s0 H0 scope Ca cl fp); rw [k7] at this; exact this)
        (fun s0 H0 Ca cl fp => hd never _ (s.blk s0 H0 scope Ca cl fp))
        (fun s0 H0 Ca cl fp => ((snd_X el x false { K with sc := scope.names } Γ h9 bd' never _ (s.blk s0 H0 scope Ca cl fp)).1 rfl).fz h10) (folded h3) (fun _ => folded k3)
      rw [e0] at lc
      exact PE.imp lc fun σ H Q z => lc2_go (fun i hi => by simpa using List.all_eq_true.mp h5 i hi) hs2 z
  | .glob g, e, m, K, Γ, h, bd, W, Y, s => by
    cases e <;> first | (cases h; done) | skip
    rename_i x p
    replace h : (glB K.sc x && !(x == ("__debug__" : Str)) && (K.t.gl.any fun p => decide (p.1 = x) && p.2.1 == g)) = true := h
    simp only [Bool.and_eq_true, Bool.not_eq_true'] at h
    obtain ⟨⟨h1, h2⟩, h3⟩ := h
    obtain ⟨⟨x', g', d⟩, hm, h4⟩ := List.any_eq_true.mp h3
    simp only [Bool.and_eq_true, decide_eq_true_eq, beq_iff_eq] at h4
    obtain ⟨rfl, rfl⟩ := h4
    obtain ⟨e1, e2⟩ := bd.gl _ _ _ hm
    refine .plain s.toCtx ?_ rfl
    show SX c W Γ (kA true) Y _ (fun ρ => .ok (C.glob g', ρ))
    rw [e1]
    exact sx_glob (s.gl h1) h2 (by rw [s.emg]; exact e2)
  | .atm a, e, m, K, Γ, h, bd, W, Y, s => by
    replace h : (okX m K (zer Γ) a e && (kd K (zer Γ) a).pu && !(m && isBl e)) = true := h
    simp only [Bool.and_eq_true, Bool.not_eq_true'] at h
    obtain ⟨⟨h1, h2⟩, h3⟩ := h
    have hz : ∀ i, (zer Γ).getD i 0 = 0 := fun i => by
      rw [List.getD_eq_getElem?_getD, List.getElem?_map]
      cases Γ[i]? <;> rfl
    have ia := snd_X a e m K (zer Γ) h1 bd W Y s
    refine ⟨fun hm => ?_, fun hm => ⟨?_, fun hb => ?_⟩⟩
    · have := ia.1 hm
      generalize kd K (zer Γ) a = kk at this h2
      obtain ⟨ko, kp, kl⟩ := kk
      replace h2 : kp = true := h2
      subst h2
      exact sx_atz this hz
    · have := (ia.2 hm).1
      rw [h2] at this
      exact sc_atz this hz
    · subst hm
      cases e <;> first | (cases hb; done) | (cases h3; done)
  | .chain o1 o2 a b cc, e, m, K, Γ, h, bd, W, Y, s => by
    cases e <;> first | (cases h; done) | skip
    rename_i l os rs p
    unfold okX at h
    dsimp only at h
    split at h
    · rename_i o o' r t
      simp only [Bool.and_eq_true, Bool.not_eq_true', decide_eq_true_eq] at h
      obtain ⟨⟨⟨⟨⟨⟨⟨h1, h2⟩, h3⟩, h4⟩, h5⟩, h6⟩, h7⟩, h8⟩ := h
      have ia := (snd_X a l false K Γ h3 bd W Y s).1 rfl
      have ib := (snd_X b r false K Γ h4 bd W Y s).1 rfl
      have ic := (snd_X cc t false K Γ h5 bd W Y s).1 rfl
      exact ⟨fun _ => sx_chain (cmp_all h1 s.toCtx _ _) (cmp_all h2 s.toCtx _ _) h6 ia ib ic (own_or h7) h8, fun _ => ⟨sc_chain (cmp_all h1 s.toCtx _ _) (cmp_all h2 s.toCtx _ _) h6 ia ib ic (own_or h7) h8, fun z => by cases z⟩⟩
    · cases h
  | .isi a ts, e, m, K, Γ, h, bd, W, Y, s => by
    cases e <;> first | (cases h; done) | skip
    rename_i fn es kw p
    unfold okX at h
    dsimp only at h
    split at h
    · rename_i f p0 x y p1 t
      simp only [Bool.and_eq_true] at h
      obtain ⟨⟨⟨h1, h2'⟩, h3⟩, h4⟩ := h
      obtain ⟨rfl, g1, g2⟩ := bn_at s bd h1
      by_cases h2 : tyB K t y = true
      · obtain ⟨g3, g4, g5, g6, g7, g8⟩ := ty_at s bd h2
        exact .plain s.toCtx (sx_isi s.toCtx g1 g2 g3 g4 g5 g6 g7 g8 ((snd_X a x false K Γ h4 bd W Y s).1 rfl) h3) rfl
      · have h5 : exB K t y = true := by
          rw [Bool.or_eq_true] at h2'
          exact h2'.resolve_left h2
        unfold exB at h5
        split at h5
        · rename_i j
          simp only [Bool.and_eq_true, Bool.not_eq_true'] at h5
          obtain ⟨⟨q1, q2⟩, q3⟩ := h5
          obtain ⟨⟨z1, z2⟩, qm, qe⟩ := List.any_eq_true.mp q3
          simp only [Bool.and_eq_true, decide_eq_true_eq] at qe
          obtain ⟨rfl, rfl⟩ := qe
          obtain ⟨C2, c1, c2⟩ := bd.ex.nm _ _ qm
          refine .plain s.toCtx (sx_isiC s.toCtx g1 g2 (s.gl q1) (by rw [s.emg]; exact c2) q2 (fun k C hk => ?_) (fun d hd => ?_) ((snd_X a x false K Γ h4 bd W Y s).1 rfl) h3) rfl
          · rw [s.K]; exact ⟨bd.ex.xc k C hk, (bd.ex.rel k C _ C2 hk c1).1⟩
          · rw [s.K]; exact bd.ex.pl _ C2 d c1 hd
        · cases h5
    · rename_i f p0 x y p1 z p2 tk p3 t u
      simp only [Bool.and_eq_true] at h
      obtain ⟨⟨⟨⟨h1, h2⟩, h2'⟩, h3⟩, h4⟩ := h
      obtain ⟨rfl, g1, g2⟩ := bn_at s bd h1
      obtain ⟨g3, g4, g5, g6, g7, g8⟩ := ty_at s bd h2
      obtain ⟨k3, k4, k5, k6, k7, k8⟩ := ty_at s bd h2'
      exact .plain s.toCtx (sx_isi2 s.toCtx g1 g2 g3 g4 g5 g6 g7 g8 k3 k4 k5 k6 k7 k8 ((snd_X a x false K Γ h4 bd W Y s).1 rfl) h3) rfl
    · cases h
  | .attr a n, e, m, K, Γ, h, bd, W, Y, s => by
    cases e <;> first | (cases h; done) | skip
    rename_i o at_ p
    replace h : (decide (n = 0) && decide (at_ = "value") && noCall o && okX false K Γ a o && (kd K Γ a).own) = true := h
    simp only [Bool.and_eq_true, decide_eq_true_eq] at h
    obtain ⟨⟨⟨⟨rfl, rfl⟩, h3⟩, h4⟩, h5⟩ := h
    exact .plain s.toCtx (sx_attr s.toCtx (fun k C hk => by rw [s.K]; exact bd.ex.xc k C hk) ((snd_X a o false K Γ h4 bd W Y s).1 rfl) (attr_plain h3) h5) rfl
  | .fnv f, e, m, K, Γ, h, bd, W, Y, s => by
    cases e <;> first | (cases h; done) | skip
    rename_i x p
    replace h : (glB K.sc x && !(x == ("__debug__" : Str)) && (match lkF K.fns x f with | some fi => decide (fi.id = f) && pl0 fi | none => false)) = true := h
    simp only [Bool.and_eq_true, Bool.not_eq_true'] at h
    obtain ⟨⟨h1, h2⟩, h3⟩ := h
    cases hx : lkF K.fns x f with
    | none => rw [hx] at h3; cases h3
    | some fi =>
      rw [hx] at h3
      simp only [Bool.and_eq_true, decide_eq_true_eq] at h3
      obtain ⟨rfl, h4⟩ := h3
      obtain ⟨a, g1, g2⟩ := bd.fnv x fi (lkF_mem hx) h4
      exact .plain s.toCtx (sx_fnv (s.gl h1) (by rw [s.emg]; exact g2) g1 h2) rfl
  | .callv i as, e, m, K, Γ, h, bd, W, Y, s => by
    cases e <;> first | (cases h; done) | skip
    rename_i fn es kw p
    unfold okX at h
    dsimp only at h
    split at h
    · rename_i x p0 e₁ es
      simp only [Bool.and_eq_true] at h
      obtain ⟨⟨h1, h2⟩, h3, h4⟩ := h
      obtain ⟨g1, g2, g3, g4⟩ := nm_at s h1
      exact .plain s.toCtx (sx_callv s.toCtx (bd.fv W Y _ s) g1 g2 g3 g4 (snd_A as (e₁ :: es) K Γ [] 0 h2 bd W Y s) (lsOf_nil _ _) (star_cons h3) (star_any h4)) rfl
    · cases h
  | .callk f as pm io, e, m, K, Γ, h, bd, W, Y, s => by
    cases e <;> first | (cases h; done) | skip
    rename_i fn es kws p
    cases fn <;> first | (cases h; done) | skip
    rename_i x p0
    replace h : (match lkF K.fns x f with
        | some fi => io.isEmpty && fi.io.isEmpty && decide (fi.id = f) && glB K.sc x && !(x == ("__debug__" : Str)) && decide (K.sg f = fi.sg) && decide (pm.length = fi.np) && ((List.range fi.sg.pl.length).all fun i => fi.sg.pl.getD i 0 == 0) &&
            (K.t.kwl.any fun q => decide (q.1 = x) && decide (q.2.1 = es.length) && decide (q.2.2.2 = pm) && kwNames kws q.2.2.1 && decide (kws.length = q.2.2.1.length)) && okAK K Γ as es kws
        | none => false) = true := h
    cases hx : lkF K.fns x f with
    | none => rw [hx] at h; cases h
    | some fi =>
      rw [hx] at h
      simp only [Bool.and_eq_true, decide_eq_true_eq, Bool.not_eq_true', List.isEmpty_iff] at h
      obtain ⟨⟨⟨⟨⟨⟨⟨⟨⟨rfl, h1⟩, h2⟩, h3⟩, h4⟩, h5⟩, h6⟩, h7⟩, h8⟩, h9⟩ := h
      obtain ⟨⟨x', n, ks, pm'⟩, hm, h10⟩ := List.any_eq_true.mp h8
      simp only [Bool.and_eq_true, decide_eq_true_eq] at h10
      obtain ⟨⟨⟨⟨rfl, rfl⟩, rfl⟩, h11⟩, h12⟩ := h10
      have fa := bd.fn _ fi (lkF_mem hx) W Y K.sc s
      rw [h2] at fa
      obtain ⟨fid, fnp, fio, fsg⟩ := fi
      replace h1 : fio = [] := h1
      subst h1
      obtain ⟨ns, pa, pb, fs, gs, sa, sk, ep, ef, e0⟩ := snd_AK as es kws K Γ h9 bd W Y s
      refine .plain s.toCtx ?_ rfl
      show SX c W Γ ⟨true, puA K Γ as, (K.sg f).rl⟩ Y _ _
      rw [h5, ep]
      have hp : ∀ i, fsg.pl.getD i 0 = 0 := fun i => by
        by_cases hi : i < fsg.pl.length
        · simpa using range_all h7 hi
        · exact getD_out hi
      have nn : ∀ n, allN (List.replicate n (none : Option Nat)) = true := fun n => by
        unfold allN; rw [List.all_eq_true]; intro x hx; rw [(List.mem_replicate.mp hx).2]; rfl
      cases es with
      | nil =>
        obtain ⟨rfl, e1⟩ := e0 rfl
        exact (sx_callk0 s.toCtx fa hm (s.gl h3) h4 sk (nn _) (by rw [List.length_replicate]; exact h12) h6 h11 hp).cong fun ρ => by
          show _ = (evA C as ρ).bind _
          rw [e1]
      | cons e es =>
        rw [List.all_cons, Bool.and_eq_true] at ns
        exact (sx_callk s.toCtx fa hm (s.gl h3) h4 sa sk (nn _) (nn _) (by rw [List.length_replicate]) (by rw [List.length_replicate]; exact h12) h6 h11 hp (star_cons ns.1) (star_any ns.2)).cong fun ρ => by
          show _ = (evA C as ρ).bind _
          rw [ef]
  | .bi b as, e, m, K, Γ, h, bd, W, Y, s => by
    cases e <;> first | (cases h; done) | skip
    rename_i fn es kw p
    unfold okX at h
    dsimp only at h
    split at h
    · rename_i f p0 x
      split at h
      · rename_i y hb
        simp only [Bool.and_eq_true] at h
        obtain ⟨⟨h1, h3⟩, h4⟩ := h
        split at h4
        · rename_i a r
          split at h4
          · have ia := (snd_X a x false K Γ h4 bd W Y s).1 rfl
            obtain ⟨rfl, g1, g2⟩ := bn_at s bd h1
            have fin : ∀ {g : List D → Option D}, SX c W Γ (kA (kd K Γ a).pu) Y (.Call (.Name f p0) [x] [] p) (fun ρ => (evE C a ρ).bind fun p => (optR (g [p.1])).bind fun d => .ok (d, p.2)) →
                SX c W Γ (kA ((kd K Γ a).pu && true)) Y (.Call (.Name f p0) [x] [] p) (fun ρ => ((evE C a ρ).bind fun p => ((.ok ([], p.2)) : R (List D × Env)).bind fun q => .ok (p.1 :: q.1, q.2)).bind fun p => (optR (g p.1)).bind fun d => .ok (d, p.2)) := fun {g} z => by
              rw [Bool.and_true]
              exact z.cong fun ρ => by rw [bind_assoc]; rfl
            refine .plain s.toCtx ?_ rfl
            cases b <;> first | (cases hb; done) | skip
            all_goals
              cases hb
              refine fin (g := biD _) ?_
            · exact sx_at1 (fun t ht => pe_callB call_len g1 g2 (by decide +kernel) ht (by decide) (by decide) (star_cons h3) (star_any rfl)) (by rw [s.K]; exact at_len) ia h3
            · exact sx_at1 (fun t ht => pe_callTy call_int1 g1 g2 (by decide +kernel) ht (by decide) (by decide) (star_cons h3) (star_any rfl)) at_int ia h3
            · exact sx_at1 (fun t ht => pe_callB call_abs g1 g2 (by decide +kernel) ht (by decide) (by decide) (star_cons h3) (star_any rfl)) at_abs ia h3
            · exact sx_at1 (fun t ht => pe_callB (cr_repr (X := c.X) s.K s.sm s.hu s.gd) g1 g2 (by decide +kernel) ht (by decide) (by decide) (star_cons h3) (star_any rfl)) at_repr ia h3
            · exact sx_at1 (fun t ht => pe_callTy ((call_str_any s.calm s.dg).or SkE.call_str_str) g1 g2 (by decide +kernel) ht (by decide) (by decide) (star_cons h3) (star_any rfl)) at_str ia h3
            · exact sx_at1 (fun t ht => pe_callB (cr_sum s.calm) g1 g2 (by decide +kernel) ht (by decide) (by decide) (star_cons h3) (star_any rfl)) (by rw [s.K]; exact at_sum) ia h3
            · exact sx_at1 (fun t ht => pe_callB (cr_all s.calm) g1 g2 (by decide +kernel) ht (by decide) (by decide) (star_cons h3) (star_any rfl)) (by rw [s.K]; exact at_all) ia h3
            · exact sx_at1 (fun t ht => pe_callB (cr_any s.calm) g1 g2 (by decide +kernel) ht (by decide) (by decide) (star_cons h3) (star_any rfl)) (by rw [s.K]; exact at_any) ia h3
          · cases h4
        · cases h4
      · rename_i hb1
        split at h
        · rename_i y hb
          simp only [Bool.and_eq_true] at h
          obtain ⟨⟨h1, h3⟩, h4⟩ := h
          split at h4
          · rename_i a r
            split at h4
            · rw [Bool.and_eq_true] at h4
              have ia := ((snd_X a x false K Γ h4.1 bd W Y s).1 rfl).fz h4.2
              obtain ⟨rfl, g1, g2⟩ := bn_at s bd h1
              have fin : ∀ {g : List D → Option D} {n : Nat}, SX c W Γ ⟨true, (kd K Γ a).pu, n⟩ Y (.Call (.Name f p0) [x] [] p) (fun ρ => (evE C a ρ).bind fun p => (optR (g [p.1])).bind fun d => .ok (d, p.2)) →
                  SX c W Γ ⟨true, (kd K Γ a).pu && true, n⟩ Y (.Call (.Name f p0) [x] [] p) (fun ρ => ((evE C a ρ).bind fun p => ((.ok ([], p.2)) : R (List D × Env)).bind fun q => .ok (p.1 :: q.1, q.2)).bind fun p => (optR (g p.1)).bind fun d => .ok (d, p.2)) := fun z => by
                rw [Bool.and_true]
                exact z.cong fun ρ => by rw [bind_assoc]; rfl
              refine .plain s.toCtx ?_ rfl
              cases b <;> first | (cases hb; done) | skip
              all_goals
                cases hb
                refine fin (g := biD _) ?_
              · exact sx_fz (fun t ht => pe_callB (cr_min (X := c.X) s.K s.hu s.calm) g1 g2 (by decide +kernel) ht (by decide) (by decide) (star_cons h3) (star_any rfl)) fz_min ia h3
              · exact sx_nl (fun t ht => pe_callTy (call_list_of.or (call_list_sign s.calm)) g1 g2 (by decide +kernel) ht (by decide) (by decide) (star_cons h3) (star_any rfl)) (by rw [s.K]; exact nl_list) ia h3
              · exact sx_fz (fun t ht => pe_callTy call_tuple_of g1 g2 (by decide +kernel) ht (by decide) (by decide) (star_cons h3) (star_any rfl)) (by rw [s.K]; exact fz_tuple) ia h3
              · exact sx_nl (fun t ht => pe_callB (cr_sort (X := c.X) s.K s.hu) g1 g2 (by decide +kernel) ht (by decide) (by decide) (star_cons h3) (star_any rfl)) nl_sort ia h3
            · cases h4
          · cases h4
        · cases h
    · rename_i f p0 x y
      split at h
      · rename_i z hb
        simp only [Bool.and_eq_true] at h
        obtain ⟨⟨⟨h1, h3⟩, h3'⟩, h4⟩ := h
        have ia := snd_A as [x, y] K Γ [] 0 h4 bd W Y s
        obtain ⟨rfl, g1, g2⟩ := bn_at s bd h1
        refine .plain s.toCtx ?_ rfl
        cases b <;> first | (cases hb; done) | skip
        · cases hb
          exact sx_at2 (fun t ht => pe_callB (call_min2 s.calm) g1 g2 (by decide +kernel) ht (by decide) (by decide) (star_cons h3) (star_any (by rw [List.all_cons, h3']; rfl))) at_min2 ia
        · cases hb
          exact sx_at2 (fun t ht => pe_callB (call_max2 s.calm) g1 g2 (by decide +kernel) ht (by decide) (by decide) (star_cons h3) (star_any (by rw [List.all_cons, h3']; rfl))) at_max2 ia
      · cases h
    · cases h
  | .biw .., _, _, _, _, h, _, _, _, _ => by cases h
  | .me mm o as, e, m, K, Γ, h, bd, W, Y, s => by
    cases e <;> first | (cases h; done) | skip
    rename_i fn es kw p
    unfold okX at h
    dsimp only at h
    split at h
    · rename_i f p0 g p2 x q
      simp only [Bool.and_eq_true] at h
      obtain ⟨⟨⟨⟨h1, h2⟩, h3⟩, h4⟩, h5⟩ := h
      obtain ⟨rfl, g1, g2⟩ := bn_at s bd h1
      obtain ⟨rfl, g3, g4⟩ := bn_at s bd h2
      have io := ((snd_X o x false K Γ h4 bd W Y s).1 rfl).fz h5
      refine .plain s.toCtx ?_ rfl
      refine (sx_lenset s.toCtx g1 g2 g3 g4 io (star_cons h3)).cong fun ρ => ?_
      show _ = (evE C o ρ).bind fun p => (optR ((biD .set [p.1]).bind lenD)).bind fun d => .ok (d, p.2)
      congr 1; funext p
      cases biD .set [p.1] <;> rfl
    · rename_i x at_ p1
      simp only [Bool.and_eq_true, decide_eq_true_eq] at h
      obtain ⟨⟨⟨rfl, h2⟩, h3⟩, h4⟩ := h
      have ia := (snd_X o x false K Γ h4 bd W Y s).1 rfl
      refine .plain s.toCtx ((sx_bits ia (attr_plain h2) h3).cong fun ρ => rfl) rfl
    · rename_i z n p2 at_ p1 x b
      split at h
      · rename_i s1
        simp only [Bool.and_eq_true, decide_eq_true_eq] at h
        obtain ⟨⟨⟨⟨⟨rfl, h2⟩, h3⟩, h4⟩, h5⟩, h6⟩ := h
        have ib := ((snd_X b x false K Γ h5 bd W Y s).1 rfl).fz h6
        refine .plain s.toCtx ?_ rfl
        show SX c W Γ (kA ((kd K Γ b).pu && true)) Y _ _
        rw [Bool.and_true]
        refine (sx_join s.toCtx h2 ib h3 h4).cong fun ρ => ?_
        show _ = ((evE C b ρ).bind fun p => ((.ok ([], p.2)) : R (List D × Env)).bind fun q => .ok (p.1 :: q.1, q.2)).bind fun q => (optR (meD .join (.str s1) q.1)).bind fun d => .ok (d, q.2)
        rw [bind_assoc]; rfl
      · cases h
    · rename_i x at_ p1 y a
      simp only [Bool.and_eq_true, decide_eq_true_eq] at h
      obtain ⟨⟨⟨⟨⟨⟨⟨rfl, h2⟩, h3⟩, h4⟩, h5⟩, h6⟩, h7⟩, h8⟩ := h
      have io := ((snd_X o x false K Γ h4 bd W Y s).1 rfl).fz h5
      have ia := ((snd_X a y false K Γ h6 bd W Y s).1 rfl).fz h7
      refine .plain s.toCtx ?_ rfl
      show SX c W Γ ⟨true, (kd K Γ o).pu && ((kd K Γ a).pu && true), 0⟩ Y _ _
      rw [Bool.and_true]
      refine (sx_dget1 s.toCtx io ia ⟨attr_plain h2, by rw [star_cons h8]; rfl, h3, by rw [star_cons h8]; rfl⟩).cong fun ρ => ?_
      show _ = (evE C o ρ).bind fun p => (optR (dicO p.1)).bind fun _ => ((evE C a p.2).bind fun p => ((.ok ([], p.2)) : R (List D × Env)).bind fun q => .ok (p.1 :: q.1, q.2)).bind fun q => (optR (meD .get p.1 q.1)).bind fun d => .ok (d, q.2)
      congr 1; funext p
      congr 1; funext _
      rw [bind_assoc]; rfl
    · rename_i x at_ p1 y z a b
      simp only [Bool.and_eq_true, decide_eq_true_eq] at h
      obtain ⟨⟨⟨⟨⟨⟨⟨⟨⟨⟨rfl, h2⟩, h3⟩, h4⟩, h5⟩, h6⟩, h7⟩, h8⟩, h9⟩, h10⟩, h11⟩ := h
      have io := ((snd_X o x false K Γ h4 bd W Y s).1 rfl).fz h5
      have ia := ((snd_X a y false K Γ h6 bd W Y s).1 rfl).fz h7
      have ib := ((snd_X b z false K Γ h9 bd W Y s).1 rfl).fz h10
      refine .plain s.toCtx ?_ rfl
      show SX c W Γ ⟨true, (kd K Γ o).pu && ((kd K Γ a).pu && ((kd K Γ b).pu && true)), 0⟩ Y _ _
      rw [Bool.and_true]
      refine (sx_dget2 s.toCtx io ia ib ⟨attr_plain h2, by rw [star_cons h8, star_cons h11]; rfl, h3, by rw [star_cons h8, star_cons h11]; rfl⟩).cong fun ρ => ?_
      show _ = (evE C o ρ).bind fun p => (optR (dicO p.1)).bind fun _ => ((evE C a p.2).bind fun p => ((evE C b p.2).bind fun p => ((.ok ([], p.2)) : R (List D × Env)).bind fun q => .ok (p.1 :: q.1, q.2)).bind fun q => .ok (p.1 :: q.1, q.2)).bind fun q => (optR (meD .get2 p.1 q.1)).bind fun d => .ok (d, q.2)
      congr 1; funext p
      congr 1; funext _
      rw [bind_assoc]
      congr 1; funext q
      rw [bind_assoc, bind_assoc]; rfl
    · rename_i x at_ p1 y p2 i
      simp only [Bool.and_eq_true, decide_eq_true_eq] at h
      obtain ⟨⟨⟨⟨rfl, h2⟩, h3⟩, h4⟩, h5⟩ := h
      have ia := (snd_X o x false K Γ h4 bd W Y s).1 rfl
      obtain ⟨n1, n2, n3, n4⟩ := nm_at s h5
      have ib := sx_var (c := c) (W := W) (Γ := Γ) n1 n2 n3 n4 (pos := p2)
      refine .plain s.toCtx ?_ rfl
      have r := sx_index s.toCtx ia ib (fun ρ => ⟨(gt ρ i).map fun d => (d, ρ), by cases gt ρ i <;> rfl⟩) (.inr rfl) (attr_plain h2) h3
      rw [show (kA ((kd K Γ o).pu && true)) = kA (kd K Γ o).pu by rw [Bool.and_true]] at r
      refine r.cong fun ρ => ?_
      show _ = (evE C o ρ).bind fun p => ((evE C (.v i) p.2).bind fun p => ((.ok ([], p.2)) : R (List D × Env)).bind fun q => .ok (p.1 :: q.1, q.2)).bind fun q => (optR (meD .index p.1 q.1)).bind fun d => .ok (d, q.2)
      congr 1
      funext p
      have e : evE C (T.v i) p.2 = (optR (gt p.2 i)).bind fun d => .ok (d, p.2) := rfl
      rw [e]
      cases gt p.2 i <;> rfl
    · cases h
  | .pop i a, e, m, K, Γ, h, bd, W, Y, s => by
    cases e <;> first | (cases h; done) | skip
    rename_i fn es kw p
    unfold okX at h
    dsimp only at h
    split at h
    · rename_i x p0 at_ p1 b
      simp only [Bool.and_eq_true, decide_eq_true_eq] at h
      obtain ⟨⟨⟨⟨⟨⟨rfl, h2⟩, h3⟩, h4⟩, h5⟩, h6⟩, h7⟩ := h
      obtain ⟨g1, g2, g3, g4⟩ := nm_at s h2
      have ie := ((snd_X a b false K Γ h6 bd W Y s).1 rfl).fz h7
      exact .plain s.toCtx (sx_pop1 s.toCtx g1 g2 g3 g4 h3 ie rfl (by rw [star_cons h4]; rfl) h5 (star_cons h4) rfl) rfl
    · rename_i x p0 at_ p1
      split at h
      · rename_i j
        simp only [Bool.and_eq_true, decide_eq_true_eq] at h
        obtain ⟨⟨⟨⟨rfl, h2⟩, h3⟩, h5⟩, rfl⟩ := h
        obtain ⟨g1, g2, g3, g4⟩ := nm_at s h2
        exact .plain s.toCtx (sx_pop0 s.toCtx g1 g2 g3 g4 h3 rfl h5) rfl
      · cases h
    · cases h
  | .slc a lo hi, e, m, K, Γ, h, bd, W, Y, s => by
    cases e <;> first | (cases h; done) | skip
    rename_i o sl p
    unfold okX at h
    dsimp only at h
    split at h
    · rename_i l u p2
      simp only [Bool.and_eq_true] at h
      obtain ⟨⟨⟨h1, h2⟩, h3⟩, h4⟩ := h
      have ia := ((snd_X a o false K Γ h1 bd W Y s).1 rfl).fz h2
      have il : SO c W Γ (kd K Γ lo).pu Y l (partR (isNonT lo) (evE C lo)) := by
        cases l with
        | none =>
          replace h3 : isNonT lo = true := h3
          rw [h3]
          cases lo <;> first | (cases h3; done) | skip
          exact so_none
        | some x =>
          replace h3 : (!isNonT lo && okX false K Γ lo x) = true := h3
          simp only [Bool.and_eq_true, Bool.not_eq_true'] at h3
          rw [h3.1]
          exact so_some ((snd_X lo x false K Γ h3.2 bd W Y s).1 rfl)
      have iu : SO c W Γ (kd K Γ hi).pu Y u (partR (isNonT hi) (evE C hi)) := by
        cases u with
        | none =>
          replace h4 : isNonT hi = true := h4
          rw [h4]
          cases hi <;> first | (cases h4; done) | skip
          exact so_none
        | some x =>
          replace h4 : (!isNonT hi && okX false K Γ hi x) = true := h4
          simp only [Bool.and_eq_true, Bool.not_eq_true'] at h4
          rw [h4.1]
          exact so_some ((snd_X hi x false K Γ h4.2 bd W Y s).1 rfl)
      exact .plain s.toCtx (sx_slc s.toCtx ia il iu) rfl
    · cases h
  | .rev a, e, m, K, Γ, h, bd, W, Y, s => by
    cases e <;> first | (cases h; done) | skip
    rename_i o sl p
    unfold okX at h
    dsimp only at h
    split at h
    · simp only [Bool.and_eq_true] at h
      exact .plain s.toCtx (sx_back s.toCtx (((snd_X a o false K Γ h.1 bd W Y s).1 rfl).fz h.2)) rfl
    · cases h
  | .dct ks vs, e, m, K, Γ, h, bd, W, Y, s => by
    cases e <;> first | (cases h; done) | skip
    rename_i keys values p
    replace h : (okP K Γ ks vs keys values && decide (keys.length ≤ 15) && decide ((keyL ks).Nodup)) = true := h
    simp only [Bool.and_eq_true, decide_eq_true_eq] at h
    obtain ⟨⟨h1, h2⟩, h3⟩ := h
    obtain ⟨sp, ek⟩ := snd_P vs ks keys values K Γ h1 bd W Y s p
    refine .plain s.toCtx ?_ rfl
    show SX c W Γ ⟨true, puA K Γ vs, 1⟩ Y _ (fun ρ => (evA C vs ρ).bind fun p => .ok (.dic (keysT ks) p.1, p.2))
    cases keys with
    | nil =>
      cases vs <;> first | (cases h1; done) | skip
      · cases ks <;> first | (cases h1; done) | skip
        cases values <;> first | (cases h1; done) | skip
        exact sx_dct0
      · cases ks <;> cases h1
    | cons ke keys =>
      rw [ek]
      exact sx_dct sp (by simp) h2 h3
  | .dc .., _, _, _, _, h, _, _, _, _ => by cases h
  | .dc2 .., _, _, _, _, h, _, _, _, _ => by cases h
  | .rng .., _, _, _, _, h, _, _, _, _ => by cases h
  | .enum .., _, _, _, _, h, _, _, _, _ => by cases h
  | .zip .., _, _, _, _, h, _, _, _, _ => by cases h
  | .items .., _, _, _, _, h, _, _, _, _ => by cases h
  | .vals .., _, _, _, _, h, _, _, _, _ => by cases h
  | .rvd .., _, _, _, _, h, _, _, _, _ => by cases h
  | .wlk .., _, _, _, _, h, _, _, _, _ => by cases h
  | .nil, _, _, _, _, h, _, _, _, _ => by cases h
  | .cons .., _, _, _, _, h, _, _, _, _ => by cases h
  | .asg .., _, _, _, _, h, _, _, _, _ => by cases h
  | .mov .., _, _, _, _, h, _, _, _, _ => by cases h
  | .par .., _, _, _, _, h, _, _, _, _ => by cases h
  | .aug .., _, _, _, _, h, _, _, _, _ => by cases h
  | .app .., _, _, _, _, h, _, _, _, _ => by cases h
  | .ins .., _, _, _, _, h, _, _, _, _ => by cases h
  | .upd .., _, _, _, _, h, _, _, _, _ => by cases h
  | .exp .., _, _, _, _, h, _, _, _, _ => by cases h
  | .sif .., _, _, _, _, h, _, _, _, _ => by cases h
  | .whl .., _, _, _, _, h, _, _, _, _ => by cases h
  | .for .., _, _, _, _, h, _, _, _, _ => by cases h
  | .ret .., _, _, _, _, h, _, _, _, _ => by cases h
  | .retv .., _, _, _, _, h, _, _, _, _ => by cases h
  | .retn, _, _, _, _, h, _, _, _, _ => by cases h
  | .rai .., _, _, _, _, h, _, _, _, _ => by cases h
  | .try .., _, _, _, _, h, _, _, _, _ => by cases h
  | .pas, _, _, _, _, h, _, _, _, _ => by cases h
  | .brk, _, _, _, _, h, _, _, _, _ => by cases h
  | .cnt, _, _, _, _, h, _, _, _, _ => by cases h
  | .frz .., _, _, _, _, h, _, _, _, _ => by cases h
  | .mask .., _, _, _, _, h, _, _, _, _ => by cases h
theorem snd_P : ∀ (t ks : T) (keys : List (Option Expr)) (values : List Expr) (K : Ck) (Γ : List Nat), okP K Γ ks t keys values = true → Bd c P w mg base k K.N K.t C → ∀ W Y, Scp c P w mg base k K.N K.sc W Y → ∀ pos, SPs c W Γ (puA K Γ t) Y pos keys values (keyL ks) (evA C t) ∧ keysT ks = (keyL ks).map kD
  | .nil, ks, keys, values, K, Γ, h, bd, W, Y, s, pos => by
    unfold okP at h
    split at h
    · exact ⟨sps_nil, rfl⟩
    · cases h
  | .cons v vs, ks, keys, values, K, Γ, h, bd, W, Y, s, pos => by
    unfold okP at h
    split at h
    · rename_i a b ke keys ve values
      simp only [Bool.and_eq_true] at h
      obtain ⟨⟨⟨h1, h2⟩, h3⟩, h4⟩ := h
      obtain ⟨sp, ek⟩ := snd_P vs b keys values K Γ h4 bd W Y s pos
      have iv := ((snd_X v ve false K Γ h2 bd W Y s).1 rfl).fz h3
      unfold keyB at h1
      split at h1
      · rename_i s1 x _ _
        rw [decide_eq_true_eq] at h1
        subst h1
        exact ⟨sps_cons (k := Sum.inr ⟨s1.toArray⟩) pe_str iv sp, by show D.str s1 :: keysT b = _; rw [ek]; rfl⟩
      · rename_i i j _ _
        rw [decide_eq_true_eq] at h1
        subst h1
        exact ⟨sps_cons (k := Sum.inl i) pe_int iv sp, by show D.int i :: keysT b = _; rw [ek]; rfl⟩
      · cases h1
    · cases h
  | .v _, _, _, _, _, _, h, _, _, _, _, _ => by cases h
  | .non, _, _, _, _, _, h, _, _, _, _, _ => by cases h
  | .tt, _, _, _, _, _, h, _, _, _, _, _ => by cases h
  | .ff, _, _, _, _, _, h, _, _, _, _, _ => by cases h
  | .int .., _, _, _, _, _, h, _, _, _, _, _ => by cases h
  | .str .., _, _, _, _, _, h, _, _, _, _, _ => by cases h
  | .bin .., _, _, _, _, _, h, _, _, _, _, _ => by cases h
  | .neg .., _, _, _, _, _, h, _, _, _, _, _ => by cases h
  | .not .., _, _, _, _, _, h, _, _, _, _, _ => by cases h
  | .and .., _, _, _, _, _, h, _, _, _, _, _ => by cases h
  | .or .., _, _, _, _, _, h, _, _, _, _, _ => by cases h
  | .cmp .., _, _, _, _, _, h, _, _, _, _, _ => by cases h
  | .ite .., _, _, _, _, _, h, _, _, _, _, _ => by cases h
  | .call .., _, _, _, _, _, h, _, _, _, _, _ => by cases h
  | .idx .., _, _, _, _, _, h, _, _, _, _, _ => by cases h
  | .tup .., _, _, _, _, _, h, _, _, _, _, _ => by cases h
  | .lst .., _, _, _, _, _, h, _, _, _, _, _ => by cases h
  | .lc .., _, _, _, _, _, h, _, _, _, _, _ => by cases h
  | .glob _, _, _, _, _, _, h, _, _, _, _, _ => by cases h
  | .fnv _, _, _, _, _, _, h, _, _, _, _, _ => by cases h
  | .atm _, _, _, _, _, _, h, _, _, _, _, _ => by cases h
  | .chain .., _, _, _, _, _, h, _, _, _, _, _ => by cases h
  | .isi .., _, _, _, _, _, h, _, _, _, _, _ => by cases h
  | .callk .., _, _, _, _, _, h, _, _, _, _, _ => by cases h
  | .callv .., _, _, _, _, _, h, _, _, _, _, _ => by cases h
  | .bi .., _, _, _, _, _, h, _, _, _, _, _ => by cases h
  | .biw .., _, _, _, _, _, h, _, _, _, _, _ => by cases h
  | .me .., _, _, _, _, _, h, _, _, _, _, _ => by cases h
  | .pop .., _, _, _, _, _, h, _, _, _, _, _ => by cases h
  | .slc .., _, _, _, _, _, h, _, _, _, _, _ => by cases h
  | .rev .., _, _, _, _, _, h, _, _, _, _, _ => by cases h
  | .dct .., _, _, _, _, _, h, _, _, _, _, _ => by cases h
  | .lc2 .., _, _, _, _, _, h, _, _, _, _, _ => by cases h
  | .dc .., _, _, _, _, _, h, _, _, _, _, _ => by cases h
  | .dc2 .., _, _, _, _, _, h, _, _, _, _, _ => by cases h
  | .tupo .., _, _, _, _, _, h, _, _, _, _, _ => by cases h
  | .lcw .., _, _, _, _, _, h, _, _, _, _, _ => by cases h
  | .attr .., _, _, _, _, _, h, _, _, _, _, _ => by cases h
  | .rng .., _, _, _, _, _, h, _, _, _, _, _ => by cases h
  | .enum .., _, _, _, _, _, h, _, _, _, _, _ => by cases h
  | .zip .., _, _, _, _, _, h, _, _, _, _, _ => by cases h
  | .items .., _, _, _, _, _, h, _, _, _, _, _ => by cases h
  | .vals .., _, _, _, _, _, h, _, _, _, _, _ => by cases h
  | .rvd .., _, _, _, _, _, h, _, _, _, _, _ => by cases h
  | .wlk .., _, _, _, _, _, h, _, _, _, _, _ => by cases h
  | .asg .., _, _, _, _, _, h, _, _, _, _, _ => by cases h
  | .mov .., _, _, _, _, _, h, _, _, _, _, _ => by cases h
  | .par .., _, _, _, _, _, h, _, _, _, _, _ => by cases h
  | .aug .., _, _, _, _, _, h, _, _, _, _, _ => by cases h
  | .app .., _, _, _, _, _, h, _, _, _, _, _ => by cases h
  | .ins .., _, _, _, _, _, h, _, _, _, _, _ => by cases h
  | .upd .., _, _, _, _, _, h, _, _, _, _, _ => by cases h
  | .exp .., _, _, _, _, _, h, _, _, _, _, _ => by cases h
  | .sif .., _, _, _, _, _, h, _, _, _, _, _ => by cases h
  | .whl .., _, _, _, _, _, h, _, _, _, _, _ => by cases h
  | .for .., _, _, _, _, _, h, _, _, _, _, _ => by cases h
  | .ret .., _, _, _, _, _, h, _, _, _, _, _ => by cases h
  | .retv .., _, _, _, _, _, h, _, _, _, _, _ => by cases h
  | .retn, _, _, _, _, _, h, _, _, _, _, _ => by cases h
  | .rai .., _, _, _, _, _, h, _, _, _, _, _ => by cases h
  | .try .., _, _, _, _, _, h, _, _, _, _, _ => by cases h
  | .pas, _, _, _, _, _, h, _, _, _, _, _ => by cases h
  | .brk, _, _, _, _, _, h, _, _, _, _, _ => by cases h
  | .cnt, _, _, _, _, _, h, _, _, _, _, _ => by cases h
  | .frz .., _, _, _, _, _, h, _, _, _, _, _ => by cases h
  | .mask .., _, _, _, _, _, h, _, _, _, _, _ => by cases h
theorem snd_AK : ∀ (t : T) (es : List Expr) (kws : List Keyword) (K : Ck) (Γ : List Nat), okAK K Γ t es kws = true → Bd c P w mg base k K.N K.t C → ∀ W Y, Scp c P w mg base k K.N K.sc W Y →
    es.all noStar = true ∧ ∃ (pa pb : Bool) (fs gs : Env → R (List D × Env)), SA c W Γ (List.replicate es.length none) pa Y es fs ∧ SK c W Γ (List.replicate kws.length none) pb Y kws gs ∧ puA K Γ t = (pa && pb) ∧
      (∀ ρ, evA C t ρ = (fs ρ).bind fun p => (gs p.2).bind fun q => .ok (p.1 ++ q.1, q.2)) ∧ (es = [] → pa = true ∧ ∀ ρ, evA C t ρ = gs ρ)
  | .nil, es, kws, K, Γ, h, bd, W, Y, s => by
    unfold okAK at h
    split at h
    · exact ⟨rfl, true, true, _, _, sa_nil, sk_nil, rfl, fun ρ => rfl, fun _ => ⟨rfl, fun ρ => rfl⟩⟩
    · cases h
  | .cons a b, es, kws, K, Γ, h, bd, W, Y, s => by
    cases es with
    | cons e es =>
      replace h : (noStar e && okX false K Γ a e && (kd K Γ a).own && okAK K Γ b es kws) = true := h
      simp only [Bool.and_eq_true] at h
      obtain ⟨⟨⟨h1, h2⟩, h3⟩, h4⟩ := h
      obtain ⟨ns, pa, pb, fs, gs, sa, sk, ep, ef, _⟩ := snd_AK b es kws K Γ h4 bd W Y s
      have ia := ((snd_X a e false K Γ h2 bd W Y s).1 rfl).fz h3
      refine ⟨by rw [List.all_cons, h1, ns]; rfl, (kd K Γ a).pu && pa, pb, _, gs, sa_cons ia sa (star_cons h1), sk, ?_, fun ρ => ?_, fun z => by cases z⟩
      · show ((kd K Γ a).pu && puA K Γ b) = _
        rw [ep, Bool.and_assoc]
      · show ((evE C a ρ).bind fun p => (evA C b p.2).bind fun q => .ok (p.1 :: q.1, q.2)) = _
        rw [bind_assoc]
        congr 1
        funext p
        rw [ef, bind_assoc, bind_assoc]
        congr 1
        funext q
        rw [bind_assoc]
        show _ = (gs q.2).bind _
        congr 1
    | nil =>
      cases kws with
      | nil => cases h
      | cons kw kws =>
        obtain ⟨nm, e, kp⟩ := kw
        replace h : (okX false K Γ a e && (kd K Γ a).own && okAK K Γ b [] kws) = true := h
        simp only [Bool.and_eq_true] at h
        obtain ⟨⟨h2, h3⟩, h4⟩ := h
        obtain ⟨ns, pa, pb, fs, gs, sa, sk, ep, ef, e0⟩ := snd_AK b [] kws K Γ h4 bd W Y s
        obtain ⟨rfl, e1⟩ := e0 rfl
        have ia := ((snd_X a e false K Γ h2 bd W Y s).1 rfl).fz h3
        have ev : ∀ ρ, evA C (.cons a b) ρ = (evE C a ρ).bind fun p => (gs p.2).bind fun q => .ok (p.1 :: q.1, q.2) := fun ρ => by
          show ((evE C a ρ).bind fun p => (evA C b p.2).bind fun q => .ok (p.1 :: q.1, q.2)) = _
          congr 1
          funext p
          rw [e1]
        refine ⟨rfl, true, (kd K Γ a).pu && pb, _, _, sa_nil, sk_cons ia sk, ?_, fun ρ => ?_, fun _ => ⟨rfl, ev⟩⟩
        · show ((kd K Γ a).pu && puA K Γ b) = _
          rw [ep]; rfl
        · rw [ev]
          show _ = ((evE C a ρ).bind _).bind _
          rw [bind_assoc]
          congr 1
          funext p
          rw [bind_assoc]
          rfl
  | .v _, _, _, _, _, h, _, _, _, _ => by cases h
  | .non, _, _, _, _, h, _, _, _, _ => by cases h
  | .tt, _, _, _, _, h, _, _, _, _ => by cases h
  | .ff, _, _, _, _, h, _, _, _, _ => by cases h
  | .int .., _, _, _, _, h, _, _, _, _ => by cases h
  | .str .., _, _, _, _, h, _, _, _, _ => by cases h
  | .bin .., _, _, _, _, h, _, _, _, _ => by cases h
  | .neg .., _, _, _, _, h, _, _, _, _ => by cases h
  | .not .., _, _, _, _, h, _, _, _, _ => by cases h
  | .and .., _, _, _, _, h, _, _, _, _ => by cases h
  | .or .., _, _, _, _, h, _, _, _, _ => by cases h
  | .cmp .., _, _, _, _, h, _, _, _, _ => by cases h
  | .ite .., _, _, _, _, h, _, _, _, _ => by cases h
  | .call .., _, _, _, _, h, _, _, _, _ => by cases h
  | .idx .., _, _, _, _, h, _, _, _, _ => by cases h
  | .tup .., _, _, _, _, h, _, _, _, _ => by cases h
  | .lst .., _, _, _, _, h, _, _, _, _ => by cases h
  | .lc .., _, _, _, _, h, _, _, _, _ => by cases h
  | .glob _, _, _, _, _, h, _, _, _, _ => by cases h
  | .fnv _, _, _, _, _, h, _, _, _, _ => by cases h
  | .atm _, _, _, _, _, h, _, _, _, _ => by cases h
  | .chain .., _, _, _, _, h, _, _, _, _ => by cases h
  | .isi .., _, _, _, _, h, _, _, _, _ => by cases h
  | .callk .., _, _, _, _, h, _, _, _, _ => by cases h
  | .callv .., _, _, _, _, h, _, _, _, _ => by cases h
  | .bi .., _, _, _, _, h, _, _, _, _ => by cases h
  | .biw .., _, _, _, _, h, _, _, _, _ => by cases h
  | .me .., _, _, _, _, h, _, _, _, _ => by cases h
  | .pop .., _, _, _, _, h, _, _, _, _ => by cases h
  | .slc .., _, _, _, _, h, _, _, _, _ => by cases h
  | .rev .., _, _, _, _, h, _, _, _, _ => by cases h
  | .dct .., _, _, _, _, h, _, _, _, _ => by cases h
  | .lc2 .., _, _, _, _, h, _, _, _, _ => by cases h
  | .dc .., _, _, _, _, h, _, _, _, _ => by cases h
  | .dc2 .., _, _, _, _, h, _, _, _, _ => by cases h
  | .tupo .., _, _, _, _, h, _, _, _, _ => by cases h
  | .lcw .., _, _, _, _, h, _, _, _, _ => by cases h
  | .attr .., _, _, _, _, h, _, _, _, _ => by cases h
  | .rng .., _, _, _, _, h, _, _, _, _ => by cases h
  | .enum .., _, _, _, _, h, _, _, _, _ => by cases h
  | .zip .., _, _, _, _, h, _, _, _, _ => by cases h
  | .items .., _, _, _, _, h, _, _, _, _ => by cases h
  | .vals .., _, _, _, _, h, _, _, _, _ => by cases h
  | .rvd .., _, _, _, _, h, _, _, _, _ => by cases h
  | .wlk .., _, _, _, _, h, _, _, _, _ => by cases h
  | .asg .., _, _, _, _, h, _, _, _, _ => by cases h
  | .mov .., _, _, _, _, h, _, _, _, _ => by cases h
  | .par .., _, _, _, _, h, _, _, _, _ => by cases h
  | .aug .., _, _, _, _, h, _, _, _, _ => by cases h
  | .app .., _, _, _, _, h, _, _, _, _ => by cases h
  | .ins .., _, _, _, _, h, _, _, _, _ => by cases h
  | .upd .., _, _, _, _, h, _, _, _, _ => by cases h
  | .exp .., _, _, _, _, h, _, _, _, _ => by cases h
  | .sif .., _, _, _, _, h, _, _, _, _ => by cases h
  | .whl .., _, _, _, _, h, _, _, _, _ => by cases h
  | .for .., _, _, _, _, h, _, _, _, _ => by cases h
  | .ret .., _, _, _, _, h, _, _, _, _ => by cases h
  | .retv .., _, _, _, _, h, _, _, _, _ => by cases h
  | .retn, _, _, _, _, h, _, _, _, _ => by cases h
  | .rai .., _, _, _, _, h, _, _, _, _ => by cases h
  | .try .., _, _, _, _, h, _, _, _, _ => by cases h
  | .pas, _, _, _, _, h, _, _, _, _ => by cases h
  | .brk, _, _, _, _, h, _, _, _, _ => by cases h
  | .cnt, _, _, _, _, h, _, _, _, _ => by cases h
  | .frz .., _, _, _, _, h, _, _, _, _ => by cases h
  | .mask .., _, _, _, _, h, _, _, _, _ => by cases h
theorem snd_O : ∀ (t : T) (es : List Expr) (n : Nat) (K : Ck) (Γ : List Nat), okO n K Γ t es = true → Bd c P w mg base k K.N K.t C → ∀ W Y, Scp c P w mg base k K.N K.sc W Y → SAo c W Γ n Y es (evA C t) ∧ ∀ ρ p, evA C t ρ = .ok p → p.1.length = es.length
  | .nil, es, n, K, Γ, h, bd, W, Y, s => by
    cases es with
    | nil => exact ⟨sao_nil, fun ρ p e => by cases e; rfl⟩
    | cons e es => cases h
  | .cons a b, es, n, K, Γ, h, bd, W, Y, s => by
    cases es with
    | nil => cases h
    | cons e es =>
      replace h : (noStar e && okX false K Γ a e && (kd K Γ a).own && decide (n ≤ (kd K Γ a).lv) && okO n K Γ b es) = true := h
      simp only [Bool.and_eq_true, decide_eq_true_eq] at h
      obtain ⟨⟨⟨⟨h1, h2⟩, h3⟩, h4⟩, h5⟩ := h
      obtain ⟨hr, hl⟩ := snd_O b es n K Γ h5 bd W Y s
      have ia := (snd_X a e false K Γ h2 bd W Y s).1 rfl
      refine ⟨sao_cons (sx_low ia h3 h4) hr (star_cons h1), fun ρ p e1 => ?_⟩
      obtain ⟨q, e2, e3⟩ := bind_ok_inv (show (evE C a ρ).bind (fun p => (evA C b p.2).bind fun q => .ok (p.1 :: q.1, q.2)) = .ok p from e1)
      obtain ⟨q2, e4, e5⟩ := bind_ok_inv e3
      cases e5
      rw [List.length_cons, List.length_cons, hl _ _ e4]
  | .v _, _, _, _, _, h, _, _, _, _ => by cases h
  | .non, _, _, _, _, h, _, _, _, _ => by cases h
  | .tt, _, _, _, _, h, _, _, _, _ => by cases h
  | .ff, _, _, _, _, h, _, _, _, _ => by cases h
  | .int .., _, _, _, _, h, _, _, _, _ => by cases h
  | .str .., _, _, _, _, h, _, _, _, _ => by cases h
  | .bin .., _, _, _, _, h, _, _, _, _ => by cases h
  | .neg .., _, _, _, _, h, _, _, _, _ => by cases h
  | .not .., _, _, _, _, h, _, _, _, _ => by cases h
  | .and .., _, _, _, _, h, _, _, _, _ => by cases h
  | .or .., _, _, _, _, h, _, _, _, _ => by cases h
  | .cmp .., _, _, _, _, h, _, _, _, _ => by cases h
  | .ite .., _, _, _, _, h, _, _, _, _ => by cases h
  | .call .., _, _, _, _, h, _, _, _, _ => by cases h
  | .idx .., _, _, _, _, h, _, _, _, _ => by cases h
  | .tup .., _, _, _, _, h, _, _, _, _ => by cases h
  | .lst .., _, _, _, _, h, _, _, _, _ => by cases h
  | .lc .., _, _, _, _, h, _, _, _, _ => by cases h
  | .glob _, _, _, _, _, h, _, _, _, _ => by cases h
  | .fnv _, _, _, _, _, h, _, _, _, _ => by cases h
  | .atm _, _, _, _, _, h, _, _, _, _ => by cases h
  | .chain .., _, _, _, _, h, _, _, _, _ => by cases h
  | .isi .., _, _, _, _, h, _, _, _, _ => by cases h
  | .callk .., _, _, _, _, h, _, _, _, _ => by cases h
  | .callv .., _, _, _, _, h, _, _, _, _ => by cases h
  | .bi .., _, _, _, _, h, _, _, _, _ => by cases h
  | .biw .., _, _, _, _, h, _, _, _, _ => by cases h
  | .me .., _, _, _, _, h, _, _, _, _ => by cases h
  | .pop .., _, _, _, _, h, _, _, _, _ => by cases h
  | .slc .., _, _, _, _, h, _, _, _, _ => by cases h
  | .rev .., _, _, _, _, h, _, _, _, _ => by cases h
  | .dct .., _, _, _, _, h, _, _, _, _ => by cases h
  | .lc2 .., _, _, _, _, h, _, _, _, _ => by cases h
  | .dc .., _, _, _, _, h, _, _, _, _ => by cases h
  | .dc2 .., _, _, _, _, h, _, _, _, _ => by cases h
  | .tupo .., _, _, _, _, h, _, _, _, _ => by cases h
  | .lcw .., _, _, _, _, h, _, _, _, _ => by cases h
  | .attr .., _, _, _, _, h, _, _, _, _ => by cases h
  | .rng .., _, _, _, _, h, _, _, _, _ => by cases h
  | .enum .., _, _, _, _, h, _, _, _, _ => by cases h
  | .zip .., _, _, _, _, h, _, _, _, _ => by cases h
  | .items .., _, _, _, _, h, _, _, _, _ => by cases h
  | .vals .., _, _, _, _, h, _, _, _, _ => by cases h
  | .rvd .., _, _, _, _, h, _, _, _, _ => by cases h
  | .wlk .., _, _, _, _, h, _, _, _, _ => by cases h
  | .asg .., _, _, _, _, h, _, _, _, _ => by cases h
  | .mov .., _, _, _, _, h, _, _, _, _ => by cases h
  | .par .., _, _, _, _, h, _, _, _, _ => by cases h
  | .aug .., _, _, _, _, h, _, _, _, _ => by cases h
  | .app .., _, _, _, _, h, _, _, _, _ => by cases h
  | .ins .., _, _, _, _, h, _, _, _, _ => by cases h
  | .upd .., _, _, _, _, h, _, _, _, _ => by cases h
  | .exp .., _, _, _, _, h, _, _, _, _ => by cases h
  | .sif .., _, _, _, _, h, _, _, _, _ => by cases h
  | .whl .., _, _, _, _, h, _, _, _, _ => by cases h
  | .for .., _, _, _, _, h, _, _, _, _ => by cases h
  | .ret .., _, _, _, _, h, _, _, _, _ => by cases h
  | .retv .., _, _, _, _, h, _, _, _, _ => by cases h
  | .retn, _, _, _, _, h, _, _, _, _ => by cases h
  | .rai .., _, _, _, _, h, _, _, _, _ => by cases h
  | .try .., _, _, _, _, h, _, _, _, _ => by cases h
  | .pas, _, _, _, _, h, _, _, _, _ => by cases h
  | .brk, _, _, _, _, h, _, _, _, _ => by cases h
  | .cnt, _, _, _, _, h, _, _, _, _ => by cases h
  | .frz .., _, _, _, _, h, _, _, _, _ => by cases h
  | .mask .., _, _, _, _, h, _, _, _, _ => by cases h
theorem snd_A : ∀ (t : T) (es : List Expr) (K : Ck) (Γ : List Nat) (io : List (Nat × Nat)) (k0 : Nat), okA K Γ io k0 t es = true → Bd c P w mg base k K.N K.t C → ∀ W Y, Scp c P w mg base k K.N K.sc W Y → SA c W Γ (lsOf io k0 es.length) (puA K Γ t) Y es (evA C t)
  | .nil, es, K, Γ, io, k0, h, bd, W, Y, s => by
    cases es with
    | nil => exact sa_nil
    | cons e es => cases h
  | .cons a b, es, K, Γ, io, k0, h, bd, W, Y, s => by
    cases es with
    | nil => cases h
    | cons e es =>
      replace h : (noStar e && (match io.lookup k0 with
        | some i => lentB K i a e
        | none => okX false K Γ a e && (kd K Γ a).own) && okA K Γ io (k0 + 1) b es) = true := h
      simp only [Bool.and_eq_true] at h
      obtain ⟨⟨h1, h2⟩, h3⟩ := h
      have hr := snd_A b es K Γ io (k0 + 1) h3 bd W Y s
      show SA c W Γ (io.lookup k0 :: lsOf io (k0 + 1) es.length) _ Y _ _
      cases hl : io.lookup k0 with
      | none =>
        rw [hl] at h2
        simp only [Bool.and_eq_true] at h2
        have ia := (snd_X a e false K Γ h2.1 bd W Y s).1 rfl
        exact sa_cons (ia.fz h2.2) hr (star_cons h1)
      | some i =>
        rw [hl] at h2
        cases a <;> first | (cases h2; done) | skip
        rename_i i'
        cases e <;> first | (cases h2; done) | skip
        rename_i x p
        replace h2 : (decide (i' = i) && nm K i x) = true := h2
        simp only [Bool.and_eq_true, decide_eq_true_eq] at h2
        obtain ⟨rfl, h2⟩ := h2
        obtain ⟨g1, g2, g3, g4⟩ := nm_at s h2
        exact sa_lent g1 g2 g3 g4 hr (star_cons h1)
  | .v _, _, _, _, _, _, h, _, _, _, _ => by cases h
  | .non, _, _, _, _, _, h, _, _, _, _ => by cases h
  | .tt, _, _, _, _, _, h, _, _, _, _ => by cases h
  | .ff, _, _, _, _, _, h, _, _, _, _ => by cases h
  | .int .., _, _, _, _, _, h, _, _, _, _ => by cases h
  | .str .., _, _, _, _, _, h, _, _, _, _ => by cases h
  | .bin .., _, _, _, _, _, h, _, _, _, _ => by cases h
  | .neg .., _, _, _, _, _, h, _, _, _, _ => by cases h
  | .not .., _, _, _, _, _, h, _, _, _, _ => by cases h
  | .and .., _, _, _, _, _, h, _, _, _, _ => by cases h
  | .or .., _, _, _, _, _, h, _, _, _, _ => by cases h
  | .cmp .., _, _, _, _, _, h, _, _, _, _ => by cases h
  | .ite .., _, _, _, _, _, h, _, _, _, _ => by cases h
  | .call .., _, _, _, _, _, h, _, _, _, _ => by cases h
  | .idx .., _, _, _, _, _, h, _, _, _, _ => by cases h
  | .tup .., _, _, _, _, _, h, _, _, _, _ => by cases h
  | .lst .., _, _, _, _, _, h, _, _, _, _ => by cases h
  | .lc .., _, _, _, _, _, h, _, _, _, _ => by cases h
  | .glob _, _, _, _, _, _, h, _, _, _, _ => by cases h
  | .fnv _, _, _, _, _, _, h, _, _, _, _ => by cases h
  | .atm _, _, _, _, _, _, h, _, _, _, _ => by cases h
  | .chain .., _, _, _, _, _, h, _, _, _, _ => by cases h
  | .isi .., _, _, _, _, _, h, _, _, _, _ => by cases h
  | .callk .., _, _, _, _, _, h, _, _, _, _ => by cases h
  | .callv .., _, _, _, _, _, h, _, _, _, _ => by cases h
  | .bi .., _, _, _, _, _, h, _, _, _, _ => by cases h
  | .biw .., _, _, _, _, _, h, _, _, _, _ => by cases h
  | .me .., _, _, _, _, _, h, _, _, _, _ => by cases h
  | .pop .., _, _, _, _, _, h, _, _, _, _ => by cases h
  | .slc .., _, _, _, _, _, h, _, _, _, _ => by cases h
  | .rev .., _, _, _, _, _, h, _, _, _, _ => by cases h
  | .dct .., _, _, _, _, _, h, _, _, _, _ => by cases h
  | .lc2 .., _, _, _, _, _, h, _, _, _, _ => by cases h
  | .dc .., _, _, _, _, _, h, _, _, _, _ => by cases h
  | .dc2 .., _, _, _, _, _, h, _, _, _, _ => by cases h
  | .tupo .., _, _, _, _, _, h, _, _, _, _ => by cases h
  | .lcw .., _, _, _, _, _, h, _, _, _, _ => by cases h
  | .attr .., _, _, _, _, _, h, _, _, _, _ => by cases h
  | .rng .., _, _, _, _, _, h, _, _, _, _ => by cases h
  | .enum .., _, _, _, _, _, h, _, _, _, _ => by cases h
  | .zip .., _, _, _, _, _, h, _, _, _, _ => by cases h
  | .items .., _, _, _, _, _, h, _, _, _, _ => by cases h
  | .vals .., _, _, _, _, _, h, _, _, _, _ => by cases h
  | .rvd .., _, _, _, _, _, h, _, _, _, _ => by cases h
  | .wlk .., _, _, _, _, _, h, _, _, _, _ => by cases h
  | .asg .., _, _, _, _, _, h, _, _, _, _ => by cases h
  | .mov .., _, _, _, _, _, h, _, _, _, _ => by cases h
  | .par .., _, _, _, _, _, h, _, _, _, _ => by cases h
  | .aug .., _, _, _, _, _, h, _, _, _, _ => by cases h
  | .app .., _, _, _, _, _, h, _, _, _, _ => by cases h
  | .ins .., _, _, _, _, _, h, _, _, _, _ => by cases h
  | .upd .., _, _, _, _, _, h, _, _, _, _ => by cases h
  | .exp .., _, _, _, _, _, h, _, _, _, _ => by cases h
  | .sif .., _, _, _, _, _, h, _, _, _, _ => by cases h
  | .whl .., _, _, _, _, _, h, _, _, _, _ => by cases h
  | .for .., _, _, _, _, _, h, _, _, _, _ => by cases h
  | .ret .., _, _, _, _, _, h, _, _, _, _ => by cases h
  | .retv .., _, _, _, _, _, h, _, _, _, _ => by cases h
  | .retn, _, _, _, _, _, h, _, _, _, _ => by cases h
  | .rai .., _, _, _, _, _, h, _, _, _, _ => by cases h
  | .try .., _, _, _, _, _, h, _, _, _, _ => by cases h
  | .pas, _, _, _, _, _, h, _, _, _, _ => by cases h
  | .brk, _, _, _, _, _, h, _, _, _, _ => by cases h
  | .cnt, _, _, _, _, _, h, _, _, _, _ => by cases h
  | .frz .., _, _, _, _, _, h, _, _, _, _ => by cases h
  | .mask .., _, _, _, _, _, h, _, _, _, _ => by cases h
theorem snd_C : ∀ (t : T) (es : List Expr) (K : Ck) (Γ : List Nat), okC K Γ t es = true → Bd c P w mg base k K.N K.t C → ∃ pc, ∀ W Y, Scp c P w mg base k K.N K.sc W Y → PTs Y es (tX2 c W Γ pc (evC C t))
  | .nil, es, K, Γ, h, bd => by
    cases es with
    | nil => exact ⟨true, fun W Y s => ⟨fun pins s σ H Q I z => pts_nil.run pins s σ H Q I (tX2_yes z)⟩⟩
    | cons e es => cases h
  | .cons a b, es, K, Γ, h, bd => by
    match es, h with
    | [], h => cases h
    | _ :: _ :: _, h => cases h
    | [e], h => exact ⟨(kd K Γ a).pu, fun W Y s => pts_one ((snd_X a e true K Γ h bd W Y s).2 rfl).1⟩
  | .v _, _, _, _, h, _ => by cases h
  | .non, _, _, _, h, _ => by cases h
  | .tt, _, _, _, h, _ => by cases h
  | .ff, _, _, _, h, _ => by cases h
  | .int .., _, _, _, h, _ => by cases h
  | .str .., _, _, _, h, _ => by cases h
  | .bin .., _, _, _, h, _ => by cases h
  | .neg .., _, _, _, h, _ => by cases h
  | .not .., _, _, _, h, _ => by cases h
  | .and .., _, _, _, h, _ => by cases h
  | .or .., _, _, _, h, _ => by cases h
  | .cmp .., _, _, _, h, _ => by cases h
  | .ite .., _, _, _, h, _ => by cases h
  | .call .., _, _, _, h, _ => by cases h
  | .idx .., _, _, _, h, _ => by cases h
  | .tup .., _, _, _, h, _ => by cases h
  | .lst .., _, _, _, h, _ => by cases h
  | .lc .., _, _, _, h, _ => by cases h
  | .glob _, _, _, _, h, _ => by cases h
  | .fnv _, _, _, _, h, _ => by cases h
  | .atm _, _, _, _, h, _ => by cases h
  | .chain .., _, _, _, h, _ => by cases h
  | .isi .., _, _, _, h, _ => by cases h
  | .callk .., _, _, _, h, _ => by cases h
  | .callv .., _, _, _, h, _ => by cases h
  | .bi .., _, _, _, h, _ => by cases h
  | .biw .., _, _, _, h, _ => by cases h
  | .me .., _, _, _, h, _ => by cases h
  | .pop .., _, _, _, h, _ => by cases h
  | .slc .., _, _, _, h, _ => by cases h
  | .rev .., _, _, _, h, _ => by cases h
  | .dct .., _, _, _, h, _ => by cases h
  | .lc2 .., _, _, _, h, _ => by cases h
  | .dc .., _, _, _, h, _ => by cases h
  | .dc2 .., _, _, _, h, _ => by cases h
  | .tupo .., _, _, _, h, _ => by cases h
  | .lcw .., _, _, _, h, _ => by cases h
  | .attr .., _, _, _, h, _ => by cases h
  | .rng .., _, _, _, h, _ => by cases h
  | .enum .., _, _, _, h, _ => by cases h
  | .zip .., _, _, _, h, _ => by cases h
  | .items .., _, _, _, h, _ => by cases h
  | .vals .., _, _, _, h, _ => by cases h
  | .rvd .., _, _, _, h, _ => by cases h
  | .wlk .., _, _, _, h, _ => by cases h
  | .asg .., _, _, _, h, _ => by cases h
  | .mov .., _, _, _, h, _ => by cases h
  | .par .., _, _, _, h, _ => by cases h
  | .aug .., _, _, _, h, _ => by cases h
  | .app .., _, _, _, h, _ => by cases h
  | .ins .., _, _, _, h, _ => by cases h
  | .upd .., _, _, _, h, _ => by cases h
  | .exp .., _, _, _, h, _ => by cases h
  | .sif .., _, _, _, h, _ => by cases h
  | .whl .., _, _, _, h, _ => by cases h
  | .for .., _, _, _, h, _ => by cases h
  | .ret .., _, _, _, h, _ => by cases h
  | .retv .., _, _, _, h, _ => by cases h
  | .retn, _, _, _, h, _ => by cases h
  | .rai .., _, _, _, h, _ => by cases h
  | .try .., _, _, _, h, _ => by cases h
  | .pas, _, _, _, h, _ => by cases h
  | .brk, _, _, _, h, _ => by cases h
  | .cnt, _, _, _, h, _ => by cases h
  | .frz .., _, _, _, h, _ => by cases h
  | .mask .., _, _, _, h, _ => by cases h
theorem snd_I : ∀ (t : T) (e : Expr) (K : Ck) (Γ : List Nat), okI K Γ t e = true → Bd c P w mg base k K.N K.t C → ∃ pi, ∀ W Y, Scp c P w mg base k K.N K.sc W Y → ∀ tg, tgB t tg = true → SI c W Γ pi Y tg e (evI C t)
  | .rng as, e, K, Γ, h, bd => by
    cases e <;> first | (cases h; done) | skip
    rename_i fn es kw p
    cases fn <;> first | (cases h; done) | skip
    rename_i x p0
    match kw, h with
    | _ :: _, h => cases h
    | [], h =>
      replace h : (decide (x = "range") && glB K.sc x && decide (x ∈ K.bl) && okA K Γ [] 0 as es && len12 es && es.all noStar) = true := h
      simp only [Bool.and_eq_true, decide_eq_true_eq] at h
      obtain ⟨⟨⟨⟨⟨rfl, h2⟩, h3⟩, h4⟩, h5⟩, h6⟩ := h
      match es, h4, h5, h6 with
      | [a], h4, h5, h6 =>
        have n1 : noStar a = true := List.all_eq_true.mp h6 a (by simp)
        exact ⟨puA K Γ as, fun W Y s tg _ => si_rng1 (snd_A as [a] K Γ [] 0 h4 bd W Y s) (s.gl h2) (by rw [s.emg]; exact bd.bl _ h3) (star_cons n1)⟩
      | [a, b], h4, h5, h6 =>
        have n1 : noStar a = true := List.all_eq_true.mp h6 a (by simp)
        have n2 : noStar b = true := List.all_eq_true.mp h6 b (by simp)
        exact ⟨puA K Γ as, fun W Y s tg _ => si_rng2 (snd_A as [a, b] K Γ [] 0 h4 bd W Y s) (s.gl h2) (by rw [s.emg]; exact bd.bl _ h3) (by rw [star_cons n1, star_cons n2]; rfl) (star_cons n2)⟩
      | [a, b, d], h4, h5, h6 =>
        have n1 : noStar a = true := List.all_eq_true.mp h6 a (by simp)
        have n2 : noStar b = true := List.all_eq_true.mp h6 b (by simp)
        have n3 : noStar d = true := List.all_eq_true.mp h6 d (by simp)
        exact ⟨puA K Γ as, fun W Y s tg _ => si_rng3 (snd_A as [a, b, d] K Γ [] 0 h4 bd W Y s) (s.gl h2) (by rw [s.emg]; exact bd.bl _ h3) (star_cons n1) (star_any (by rw [List.all_cons, List.all_cons, n2, n3]; rfl))⟩
      | [], h4, h5, h6 => cases h5
      | _ :: _ :: _ :: _ :: _, h4, h5, h6 => cases h5
  | .wlk a, e, K, Γ, h, bd => by
    replace h : (okX false K Γ a e && (kd K Γ a).own) = true := h
    simp only [Bool.and_eq_true] at h
    exact ⟨(kd K Γ a).pu, fun W Y s tg _ => si_wlk s.toCtx (((snd_X a e false K Γ h.1 bd W Y s).1 rfl).fz h.2)⟩
  | .v _, _, _, _, h, _ => by cases h
  | .non, _, _, _, h, _ => by cases h
  | .tt, _, _, _, h, _ => by cases h
  | .ff, _, _, _, h, _ => by cases h
  | .int .., _, _, _, h, _ => by cases h
  | .str .., _, _, _, h, _ => by cases h
  | .bin .., _, _, _, h, _ => by cases h
  | .neg .., _, _, _, h, _ => by cases h
  | .not .., _, _, _, h, _ => by cases h
  | .and .., _, _, _, h, _ => by cases h
  | .or .., _, _, _, h, _ => by cases h
  | .cmp .., _, _, _, h, _ => by cases h
  | .ite .., _, _, _, h, _ => by cases h
  | .call .., _, _, _, h, _ => by cases h
  | .idx .., _, _, _, h, _ => by cases h
  | .tup .., _, _, _, h, _ => by cases h
  | .lst .., _, _, _, h, _ => by cases h
  | .lc .., _, _, _, h, _ => by cases h
  | .glob _, _, _, _, h, _ => by cases h
  | .fnv _, _, _, _, h, _ => by cases h
  | .atm _, _, _, _, h, _ => by cases h
  | .chain .., _, _, _, h, _ => by cases h
  | .isi .., _, _, _, h, _ => by cases h
  | .callk .., _, _, _, h, _ => by cases h
  | .callv .., _, _, _, h, _ => by cases h
  | .bi .., _, _, _, h, _ => by cases h
  | .biw .., _, _, _, h, _ => by cases h
  | .me .., _, _, _, h, _ => by cases h
  | .pop .., _, _, _, h, _ => by cases h
  | .slc .., _, _, _, h, _ => by cases h
  | .rev .., _, _, _, h, _ => by cases h
  | .dct .., _, _, _, h, _ => by cases h
  | .lc2 .., _, _, _, h, _ => by cases h
  | .dc .., _, _, _, h, _ => by cases h
  | .dc2 .., _, _, _, h, _ => by cases h
  | .tupo .., _, _, _, h, _ => by cases h
  | .lcw .., _, _, _, h, _ => by cases h
  | .attr .., _, _, _, h, _ => by cases h
  | .enum a, e, K, Γ, h, bd => by
    cases e <;> first | (cases h; done) | skip
    rename_i fn es kw p
    unfold okI at h
    dsimp only at h
    split at h
    · rename_i x p0 y
      simp only [Bool.and_eq_true] at h
      obtain ⟨⟨⟨h1, h2⟩, h3⟩, h4⟩ := h
      refine ⟨(kd K Γ a).pu, fun W Y s tg ht => ?_⟩
      obtain ⟨rfl, g1, g2⟩ := bn_at s bd h1
      cases tg <;> first | (cases ht; done) | skip
      exact si_enum s.toCtx g1 g2 (((snd_X a y false K Γ h3 bd W Y s).1 rfl).fz h4) h2
    · cases h
  | .zip a b, e, K, Γ, h, bd => by
    cases e <;> first | (cases h; done) | skip
    rename_i fn es kw p
    unfold okI at h
    dsimp only at h
    split at h
    · rename_i x p0 y z
      simp only [Bool.and_eq_true] at h
      obtain ⟨⟨⟨⟨⟨⟨h1, h2⟩, h3⟩, h4⟩, h5⟩, h6⟩, h7⟩ := h
      refine ⟨(kd K Γ a).pu && (kd K Γ b).pu, fun W Y s tg ht => ?_⟩
      obtain ⟨rfl, g1, g2⟩ := bn_at s bd h1
      cases tg <;> first | (cases ht; done) | skip
      exact si_zip s.toCtx g1 g2 (((snd_X a y false K Γ h4 bd W Y s).1 rfl).fz h5) (((snd_X b z false K Γ h6 bd W Y s).1 rfl).fz h7) h2 h3
    · cases h
  | .items .., _, _, _, h, _ => by cases h
  | .vals .., _, _, _, h, _ => by cases h
  | .rvd .., _, _, _, h, _ => by cases h
  | .nil, _, _, _, h, _ => by cases h
  | .cons .., _, _, _, h, _ => by cases h
  | .asg .., _, _, _, h, _ => by cases h
  | .mov .., _, _, _, h, _ => by cases h
  | .par .., _, _, _, h, _ => by cases h
  | .aug .., _, _, _, h, _ => by cases h
  | .app .., _, _, _, h, _ => by cases h
  | .ins .., _, _, _, h, _ => by cases h
  | .upd .., _, _, _, h, _ => by cases h
  | .exp .., _, _, _, h, _ => by cases h
  | .sif .., _, _, _, h, _ => by cases h
  | .whl .., _, _, _, h, _ => by cases h
  | .for .., _, _, _, h, _ => by cases h
  | .ret .., _, _, _, h, _ => by cases h
  | .retv .., _, _, _, h, _ => by cases h
  | .retn, _, _, _, h, _ => by cases h
  | .rai .., _, _, _, h, _ => by cases h
  | .try .., _, _, _, h, _ => by cases h
  | .pas, _, _, _, h, _ => by cases h
  | .brk, _, _, _, h, _ => by cases h
  | .cnt, _, _, _, h, _ => by cases h
  | .frz .., _, _, _, h, _ => by cases h
  | .mask .., _, _, _, h, _ => by cases h
theorem snd_G : ∀ (t : T) (e : Expr) (M : Nat → Bool) (K : Ck) (Γ : List Nat), okG M K Γ t e = true → Bd c P w mg base k K.N K.t C → ∀ W Y (Z : Zd), Z.M = M → Scp c P w mg base k K.N K.sc W Y → SG c W Z Γ (gG t Γ) Y e (evG C t)
  | .v i, e, M, K, Γ, h, bd, W, Y, Z, hZ, s => by
    cases e <;> first | (cases h; done) | skip
    rename_i x p
    replace h : nmL K M Γ i x = true := h
    unfold nmL at h
    simp only [Bool.and_eq_true, decide_eq_true_eq] at h
    obtain ⟨⟨⟨h1, h2⟩, h3⟩, h4⟩ := h
    obtain ⟨g1, g2⟩ := s.loc h2
    exact sg_name (by rw [s.eN]; exact s.nd) (by rw [s.eN]; exact h1) g1 g2 h3 (by rw [hZ]; exact h4)
  | .tup as, e, M, K, Γ, h, bd, W, Y, Z, hZ, s => by
    cases e <;> first | (cases h; done) | skip
    rename_i es k2 p
    replace h : (okGs M K Γ as es && es.all noStar && decide (lenT as = es.length)) = true := h
    simp only [Bool.and_eq_true, decide_eq_true_eq] at h
    exact sg_tup s.toCtx (snd_Gs as es M K Γ h.1.1 bd W Y Z hZ s) (by rw [assign_len]; exact h.2.symm) (assign_find h.1.2)
  | .idx a b, e, M, K, Γ, h, bd, W, Y, Z, hZ, s => by
    cases a <;> first | (cases h; done) | skip
    rename_i i
    cases e <;> first | (cases h; done) | skip
    rename_i o sl p
    cases o <;> first | (cases h; done) | skip
    rename_i x p0
    replace h : (nm K i x && decide (Γ.getD i 0 = 1) && okX false K Γ b sl && noSlc sl) = true := h
    simp only [Bool.and_eq_true, decide_eq_true_eq] at h
    obtain ⟨⟨⟨h1, h2⟩, h3⟩, h4⟩ := h
    obtain ⟨g1, g2, g3, g4⟩ := nm_at s h1
    have ib := (snd_X b sl false K Γ h3 bd W Y s).1 rfl
    exact sg_idx g1 g2 g3 g4 h2 ib (fun v => by cases sl <;> first | rfl | (cases h4; done))
  | .non, _, _, _, _, h, _, _, _, _, _, _ => by cases h
  | .tt, _, _, _, _, h, _, _, _, _, _, _ => by cases h
  | .ff, _, _, _, _, h, _, _, _, _, _, _ => by cases h
  | .int .., _, _, _, _, h, _, _, _, _, _, _ => by cases h
  | .str .., _, _, _, _, h, _, _, _, _, _, _ => by cases h
  | .bin .., _, _, _, _, h, _, _, _, _, _, _ => by cases h
  | .neg .., _, _, _, _, h, _, _, _, _, _, _ => by cases h
  | .not .., _, _, _, _, h, _, _, _, _, _, _ => by cases h
  | .and .., _, _, _, _, h, _, _, _, _, _, _ => by cases h
  | .or .., _, _, _, _, h, _, _, _, _, _, _ => by cases h
  | .cmp .., _, _, _, _, h, _, _, _, _, _, _ => by cases h
  | .ite .., _, _, _, _, h, _, _, _, _, _, _ => by cases h
  | .call .., _, _, _, _, h, _, _, _, _, _, _ => by cases h
  | .lst .., _, _, _, _, h, _, _, _, _, _, _ => by cases h
  | .lc .., _, _, _, _, h, _, _, _, _, _, _ => by cases h
  | .glob _, _, _, _, _, h, _, _, _, _, _, _ => by cases h
  | .fnv _, _, _, _, _, h, _, _, _, _, _, _ => by cases h
  | .atm _, _, _, _, _, h, _, _, _, _, _, _ => by cases h
  | .chain .., _, _, _, _, h, _, _, _, _, _, _ => by cases h
  | .isi .., _, _, _, _, h, _, _, _, _, _, _ => by cases h
  | .callk .., _, _, _, _, h, _, _, _, _, _, _ => by cases h
  | .callv .., _, _, _, _, h, _, _, _, _, _, _ => by cases h
  | .bi .., _, _, _, _, h, _, _, _, _, _, _ => by cases h
  | .biw .., _, _, _, _, h, _, _, _, _, _, _ => by cases h
  | .me .., _, _, _, _, h, _, _, _, _, _, _ => by cases h
  | .pop .., _, _, _, _, h, _, _, _, _, _, _ => by cases h
  | .slc .., _, _, _, _, h, _, _, _, _, _, _ => by cases h
  | .rev .., _, _, _, _, h, _, _, _, _, _, _ => by cases h
  | .dct .., _, _, _, _, h, _, _, _, _, _, _ => by cases h
  | .lc2 .., _, _, _, _, h, _, _, _, _, _, _ => by cases h
  | .dc .., _, _, _, _, h, _, _, _, _, _, _ => by cases h
  | .dc2 .., _, _, _, _, h, _, _, _, _, _, _ => by cases h
  | .tupo .., _, _, _, _, h, _, _, _, _, _, _ => by cases h
  | .lcw .., _, _, _, _, h, _, _, _, _, _, _ => by cases h
  | .attr .., _, _, _, _, h, _, _, _, _, _, _ => by cases h
  | .rng .., _, _, _, _, h, _, _, _, _, _, _ => by cases h
  | .enum .., _, _, _, _, h, _, _, _, _, _, _ => by cases h
  | .zip .., _, _, _, _, h, _, _, _, _, _, _ => by cases h
  | .items .., _, _, _, _, h, _, _, _, _, _, _ => by cases h
  | .vals .., _, _, _, _, h, _, _, _, _, _, _ => by cases h
  | .rvd .., _, _, _, _, h, _, _, _, _, _, _ => by cases h
  | .wlk .., _, _, _, _, h, _, _, _, _, _, _ => by cases h
  | .nil, _, _, _, _, h, _, _, _, _, _, _ => by cases h
  | .cons .., _, _, _, _, h, _, _, _, _, _, _ => by cases h
  | .asg .., _, _, _, _, h, _, _, _, _, _, _ => by cases h
  | .mov .., _, _, _, _, h, _, _, _, _, _, _ => by cases h
  | .par .., _, _, _, _, h, _, _, _, _, _, _ => by cases h
  | .aug .., _, _, _, _, h, _, _, _, _, _, _ => by cases h
  | .app .., _, _, _, _, h, _, _, _, _, _, _ => by cases h
  | .ins .., _, _, _, _, h, _, _, _, _, _, _ => by cases h
  | .upd .., _, _, _, _, h, _, _, _, _, _, _ => by cases h
  | .exp .., _, _, _, _, h, _, _, _, _, _, _ => by cases h
  | .sif .., _, _, _, _, h, _, _, _, _, _, _ => by cases h
  | .whl .., _, _, _, _, h, _, _, _, _, _, _ => by cases h
  | .for .., _, _, _, _, h, _, _, _, _, _, _ => by cases h
  | .ret .., _, _, _, _, h, _, _, _, _, _, _ => by cases h
  | .retv .., _, _, _, _, h, _, _, _, _, _, _ => by cases h
  | .retn, _, _, _, _, h, _, _, _, _, _, _ => by cases h
  | .rai .., _, _, _, _, h, _, _, _, _, _, _ => by cases h
  | .try .., _, _, _, _, h, _, _, _, _, _, _ => by cases h
  | .pas, _, _, _, _, h, _, _, _, _, _, _ => by cases h
  | .brk, _, _, _, _, h, _, _, _, _, _, _ => by cases h
  | .cnt, _, _, _, _, h, _, _, _, _, _, _ => by cases h
  | .frz .., _, _, _, _, h, _, _, _, _, _, _ => by cases h
  | .mask .., _, _, _, _, h, _, _, _, _, _, _ => by cases h
theorem snd_Gs : ∀ (t : T) (es : List Expr) (M : Nat → Bool) (K : Ck) (Γ : List Nat), okGs M K Γ t es = true → Bd c P w mg base k K.N K.t C → ∀ W Y (Z : Zd), Z.M = M → Scp c P w mg base k K.N K.sc W Y → SGs c W Z Γ (gGs t Γ) Y es (evGs C t)
  | .nil, es, M, K, Γ, h, bd, W, Y, Z, hZ, s => by
    cases es with
    | nil => exact sgs_nil
    | cons e es => cases h
  | .cons a b, es, M, K, Γ, h, bd, W, Y, Z, hZ, s => by
    cases es with
    | nil => cases h
    | cons e es =>
      replace h : (noStar e && okG M K Γ a e && okGs M K (gG a Γ) b es) = true := h
      simp only [Bool.and_eq_true] at h
      exact sgs_cons (snd_G a e M K Γ h.1.2 bd W Y Z hZ s) (snd_Gs b es M K (gG a Γ) h.2 bd W Y Z hZ s) (assign_cons h.1.1)
  | .v _, _, _, _, _, h, _, _, _, _, _, _ => by cases h
  | .non, _, _, _, _, h, _, _, _, _, _, _ => by cases h
  | .tt, _, _, _, _, h, _, _, _, _, _, _ => by cases h
  | .ff, _, _, _, _, h, _, _, _, _, _, _ => by cases h
  | .int .., _, _, _, _, h, _, _, _, _, _, _ => by cases h
  | .str .., _, _, _, _, h, _, _, _, _, _, _ => by cases h
  | .bin .., _, _, _, _, h, _, _, _, _, _, _ => by cases h
  | .neg .., _, _, _, _, h, _, _, _, _, _, _ => by cases h
  | .not .., _, _, _, _, h, _, _, _, _, _, _ => by cases h
  | .and .., _, _, _, _, h, _, _, _, _, _, _ => by cases h
  | .or .., _, _, _, _, h, _, _, _, _, _, _ => by cases h
  | .cmp .., _, _, _, _, h, _, _, _, _, _, _ => by cases h
  | .ite .., _, _, _, _, h, _, _, _, _, _, _ => by cases h
  | .call .., _, _, _, _, h, _, _, _, _, _, _ => by cases h
  | .idx .., _, _, _, _, h, _, _, _, _, _, _ => by cases h
  | .tup .., _, _, _, _, h, _, _, _, _, _, _ => by cases h
  | .lst .., _, _, _, _, h, _, _, _, _, _, _ => by cases h
  | .lc .., _, _, _, _, h, _, _, _, _, _, _ => by cases h
  | .glob _, _, _, _, _, h, _, _, _, _, _, _ => by cases h
  | .fnv _, _, _, _, _, h, _, _, _, _, _, _ => by cases h
  | .atm _, _, _, _, _, h, _, _, _, _, _, _ => by cases h
  | .chain .., _, _, _, _, h, _, _, _, _, _, _ => by cases h
  | .isi .., _, _, _, _, h, _, _, _, _, _, _ => by cases h
  | .callk .., _, _, _, _, h, _, _, _, _, _, _ => by cases h
  | .callv .., _, _, _, _, h, _, _, _, _, _, _ => by cases h
  | .bi .., _, _, _, _, h, _, _, _, _, _, _ => by cases h
  | .biw .., _, _, _, _, h, _, _, _, _, _, _ => by cases h
  | .me .., _, _, _, _, h, _, _, _, _, _, _ => by cases h
  | .pop .., _, _, _, _, h, _, _, _, _, _, _ => by cases h
  | .slc .., _, _, _, _, h, _, _, _, _, _, _ => by cases h
  | .rev .., _, _, _, _, h, _, _, _, _, _, _ => by cases h
  | .dct .., _, _, _, _, h, _, _, _, _, _, _ => by cases h
  | .lc2 .., _, _, _, _, h, _, _, _, _, _, _ => by cases h
  | .dc .., _, _, _, _, h, _, _, _, _, _, _ => by cases h
  | .dc2 .., _, _, _, _, h, _, _, _, _, _, _ => by cases h
  | .tupo .., _, _, _, _, h, _, _, _, _, _, _ => by cases h
  | .lcw .., _, _, _, _, h, _, _, _, _, _, _ => by cases h
  | .attr .., _, _, _, _, h, _, _, _, _, _, _ => by cases h
  | .rng .., _, _, _, _, h, _, _, _, _, _, _ => by cases h
  | .enum .., _, _, _, _, h, _, _, _, _, _, _ => by cases h
  | .zip .., _, _, _, _, h, _, _, _, _, _, _ => by cases h
  | .items .., _, _, _, _, h, _, _, _, _, _, _ => by cases h
  | .vals .., _, _, _, _, h, _, _, _, _, _, _ => by cases h
  | .rvd .., _, _, _, _, h, _, _, _, _, _, _ => by cases h
  | .wlk .., _, _, _, _, h, _, _, _, _, _, _ => by cases h
  | .asg .., _, _, _, _, h, _, _, _, _, _, _ => by cases h
  | .mov .., _, _, _, _, h, _, _, _, _, _, _ => by cases h
  | .par .., _, _, _, _, h, _, _, _, _, _, _ => by cases h
  | .aug .., _, _, _, _, h, _, _, _, _, _, _ => by cases h
  | .app .., _, _, _, _, h, _, _, _, _, _, _ => by cases h
  | .ins .., _, _, _, _, h, _, _, _, _, _, _ => by cases h
  | .upd .., _, _, _, _, h, _, _, _, _, _, _ => by cases h
  | .exp .., _, _, _, _, h, _, _, _, _, _, _ => by cases h
  | .sif .., _, _, _, _, h, _, _, _, _, _, _ => by cases h
  | .whl .., _, _, _, _, h, _, _, _, _, _, _ => by cases h
  | .for .., _, _, _, _, h, _, _, _, _, _, _ => by cases h
  | .ret .., _, _, _, _, h, _, _, _, _, _, _ => by cases h
  | .retv .., _, _, _, _, h, _, _, _, _, _, _ => by cases h
  | .retn, _, _, _, _, h, _, _, _, _, _, _ => by cases h
  | .rai .., _, _, _, _, h, _, _, _, _, _, _ => by cases h
  | .try .., _, _, _, _, h, _, _, _, _, _, _ => by cases h
  | .pas, _, _, _, _, h, _, _, _, _, _, _ => by cases h
  | .brk, _, _, _, _, h, _, _, _, _, _, _ => by cases h
  | .cnt, _, _, _, _, h, _, _, _, _, _, _ => by cases h
  | .frz .., _, _, _, _, h, _, _, _, _, _, _ => by cases h
  | .mask .., _, _, _, _, h, _, _, _, _, _, _ => by cases h
end
end
end Pz
end
section
set_option Elab.async false
set_option linter.all false
/-! while. -/
namespace Pz
open PySem PySem.Spec PyProof.Rows L2
section
variable {c : Cf} {W : WX} {Z : Zd} {Γ Γ1 Γ' : List Nat} {Y : Cx} {e : Expr} {pos : Pos}
def whlK (fc : Env → R (Bool × Env)) (fb : Env → R Fl) (n : Nat) : Fl → R Fl
  | .nx ρ' => whlR fc fb n ρ'
  | .ct ρ' => whlR fc fb n ρ'
  | .bk ρ' => .ok (.nx ρ')
  | .rt d ρ' => .ok (.rt d ρ')
theorem whlR_succ (fc : Env → R (Bool × Env)) (fb : Env → R Fl) (n : Nat) (ρ : Env) : whlR fc fb (n + 1) ρ = (fc ρ).bind fun p => if p.1 then (fb p.2).bind (whlK fc fb n) else .ok (.nx p.2) := rfl
theorem ss_whl {body : List Stmt} {fc : Env → R (Bool × Env)} {fb : Env → R Fl} {pc : Bool} {Γb Γc Γe : List Nat} {m : List Nat} {fuel : Nat} (hp : PassesOwn (model Y.prog Y.w) Y.A Y.env Y.xe)
    (hc : SC c W Γ pc Y e fc) (hb : SSs c W { Z with Γb := Γb, Γc := Γc } Γ Γe Y body fb)
    (h1 : ∀ i, i ∉ m → Γ.getD i 0 ≤ Γe.getD i 0) (h2 : ∀ i, i ∉ m → Γ.getD i 0 ≤ Γb.getD i 0) (h3 : ∀ i, i ∉ m → Γ.getD i 0 ≤ Γc.getD i 0) :
    SS c W Z Γ Γ Y (.While e body [] pos) (fun ρ => whlR fc (fun ρ => (fb ρ).map (maskFl m)) fuel ρ) :=
  PS.imp (ps_while hp hc hb) fun D σ H ⟨F, A, ρ, r, h⟩ => by
    let Pv : Nat → Sl → Hp → Prop := fun n σ' H' => ∃ F' A' ρ', Rep c.X Γ ρ' σ' H' F' A' ∧ Agree Z.M σ σ' ∧ Nxt H F (Own A) H' F' (Own A') ∧ Run c (WM W Z.M σ') σ' H' F' (Own A') (whlR fc (fun ρ => (fb ρ).map (maskFl m)) n ρ') (EndS c Z Γ D σ H F A)
    refine ⟨Pv, ⟨fuel, F, A, ρ, r, .refl, Nxt.refl, h⟩, ?_⟩
    intro n σ' H' ⟨F', A', ρ', r', ag, n', hr⟩
    cases n with
    | zero => exact hr.elim
    | succ n =>
      rw [whlR_succ] at hr
      refine ⟨F', A', ρ', r', (hr.bind.wm .refl).imp fun p _ hq H1 F1 A1 md => ?_⟩
      obtain ⟨b, ρ1⟩ := p
      have hq2 := hq.at md.nx0 fun _ z => z
      have nA : Nxt H F (Own A) H1 F1 (Own A1) := n'.trans md.nx0
      cases b with
      | false =>
        replace hq2 : EndS c Z Γ D σ H F A (.nx ρ1) := hq2
        exact hq2 σ' H1 F1 A1 ag md.rep nA
      | true =>
        replace hq2 : Run c (WM W Z.M σ') σ' H1 F1 (Own A1) (((fb ρ1).map (maskFl m)).bind (whlK fc (fun ρ => (fb ρ).map (maskFl m)) n)) (EndS c Z Γ D σ H F A) := hq2
        rw [map_bind, bind_assoc] at hq2
        show ∃ N : Sl → Hp → Prop, (∀ σ' H', N σ' H' → ∃ m', m' < n + 1 ∧ Pv m' σ' H') ∧ tS c W { Z with Γb := Γb, Γc := Γc } Γ Γe fb { D with nx := N, ct := N, bk := D.nx } σ' H1
        refine ⟨Pv n, fun σ' H' z => ⟨n, Nat.lt_succ_self n, z⟩, F1, A1, ρ1, md.rep, hq2.bind.imp fun fl _ hk => ?_⟩
        have cont : ∀ {Γk : List Nat} {ρk : Env}, (∀ i, i ∉ m → Γ.getD i 0 ≤ Γk.getD i 0) → Run c (WM W Z.M σ') σ' H1 F1 (Own A1) (whlR fc (fun ρ => (fb ρ).map (maskFl m)) n (unset ρk m)) (EndS c Z Γ D σ H F A) →
            ∀ σ3 H3 F3 A3, Agree Z.M σ' σ3 → Rep c.X Γk ρk σ3 H3 F3 A3 → Nxt H1 F1 (Own A1) H3 F3 (Own A3) → Pv n σ3 H3 := by
          intro Γk ρk hk' hk σ3 H3 F3 A3 ag3 r4 n4
          obtain ⟨F4, A4, r5, n5⟩ := r4.masked hk'
          exact ⟨F4, A4, _, r5, ag.trans ag3, nA.trans (n4.trans n5), (hk.at (n4.trans n5) fun _ z => z).wms ag3⟩
        cases fl with
        | nx ρk => exact cont h1 hk
        | ct ρk => exact cont h3 hk
        | bk ρk =>
          intro σ3 H3 F3 A3 ag3 r4 n4
          obtain ⟨F4, A4, r5, n5⟩ := r4.masked h2
          replace hk : EndS c Z Γ D σ H F A (.nx (unset ρk m)) := hk
          exact hk σ3 H3 F4 A4 (ag.trans ag3) r5 (nA.trans (n4.trans n5))
        | rt d ρk =>
          intro σ3 v H3 F3 A3 B ag3 r4 n4 o4 nd4 dj4
          replace hk : EndS c Z Γ D σ H F A (.rt d ρk) := hk
          exact hk σ3 v H3 F3 A3 B (ag.trans ag3) r4 (nA.trans n4) o4 nd4 dj4
end
end Pz
end
section
set_option Elab.async false
set_option linter.all false
/-! The checker: statements. -/
namespace Pz
open PySem PySem.Spec PyProof.Rows L2

def minLv : List Nat → List Nat → List Nat := List.zipWith min
theorem minLv_le1 (l m : List Nat) (i : Nat) : (minLv l m).getD i 0 ≤ l.getD i 0 := by
  unfold minLv
  rw [List.getD_eq_getElem?_getD, List.getD_eq_getElem?_getD, List.getElem?_zipWith]
  cases l[i]? <;> cases m[i]? <;> simp <;> omega
theorem minLv_le2 (l m : List Nat) (i : Nat) : (minLv l m).getD i 0 ≤ m.getD i 0 := by
  unfold minLv
  rw [List.getD_eq_getElem?_getD, List.getD_eq_getElem?_getD, List.getElem?_zipWith]
  cases l[i]? <;> cases m[i]? <;> simp <;> omega
/-- l at most g, but at m -/
def leB (l g : List Nat) (m : List Nat) : Bool := (List.range l.length).all fun i => m.contains i || decide (l.getD i 0 ≤ g.getD i 0)
theorem leB_le {l g m : List Nat} (h : leB l g m = true) (i : Nat) (hi : i ∉ m) : l.getD i 0 ≤ g.getD i 0 := by
  by_cases hl : i < l.length
  · have := range_all h hl
    simpa [hi] using this
  · rw [getD_out hl]; exact Nat.zero_le _
def mask0 : List Nat → List Nat → List Nat
  | [], Γ => Γ
  | i :: m, Γ => mask0 m (Γ.set i 0)
def lvAsg (K : Ck) (i : Nat) (k : Kd) : Nat := if K.mv.contains i && k.lv != 9 then k.lv else 0
theorem lvAsg_le {K : Ck} {i : Nat} {k : Kd} : lvAsg K i k ≤ k.lv := by
  unfold lvAsg; split <;> omega
mutual
def gS (K : Ck) : T → List Nat → List Nat
  | .asg tg e, Γ => (match tg with
    | .v i => Γ.set i (lvAsg K i (kd K Γ e))
    | _ => gG tg Γ)
  | .par tgs es, Γ => (match tgs, es with
    | .cons (.v i) (.cons (.v j) .nil), .cons a (.cons b .nil) => (Γ.set i (lvAsg K i (kd K Γ a))).set j (lvAsg K j (kd K Γ b))
    | _, _ => gGs tgs Γ)
  | .mov j i, Γ => Γ.set j (Γ.getD i 0)
  | .sif _ a b, Γ => minLv (gB K a Γ) (gB K b Γ)
  | .try .., Γ => Γ.map fun _ => 0
  | _, Γ => Γ
def gB (K : Ck) : T → List Nat → List Nat
  | .cons a b, Γ => gB K b (gS K a Γ)
  | _, Γ => Γ
end
/-- which names are stored from the right (none: not told) -/
def swT (sc : List (Str × NameKind)) (ts vs : List Expr) : Option (Option (List Str)) :=
  if !(ts.length == 2 || ts.length == 3) || vs.length != ts.length then some none
  else if vs.any (fun | .Starred .. => true | _ => false) then some none
  else
    let line := (ts.head?.map (·.pos.line)).getD 0
    let names := ts.filterMap fun
      | .Name id pos => if sc.lookup id == some .local && pos.line == line then some id else none
      | _ => none
    if names.length != ts.length || names.eraseDups.length != names.length then some none
    else if vs.all (foldedForSure 8) then some none
    else if vs.all (constantsAlone 8) then none
    else some (some names)
theorem swT_ok {sc : List (Str × NameKind)} {ts vs : List Expr} {env : PySem.Env} {r : Option (List Str)} {k x1 p1 p2} (hk : ∀ x, env.kindOf x = sc.lookup x) (hb : env.blockKind = .function) (h : swT sc ts vs = some r) :
    swappedStores [.Tuple ts k p1] (.Tuple vs x1 p2) env = pure r := by
  unfold swappedStores
  unfold swT at h
  simp only [hk, hb] 
  simp only [bne_self_eq_false, Bool.or_false]
  dsimp only at h
  split at h
  · rename_i c; cases h; exact (if_pos c)
  rename_i c; refine (if_neg c).trans ?_
  split at h
  · rename_i c; cases h; exact (if_pos c)
  rename_i c; refine (if_neg c).trans ?_
  split at h
  · rename_i c; cases h; exact (if_pos c)
  rename_i c; refine (if_neg c).trans ?_
  split at h
  · rename_i c; cases h; exact (if_pos c)
  rename_i c; refine (if_neg c).trans ?_
  split at h
  · cases h
  rename_i c; cases h; exact (if_neg c)
/-- does [..] of a comprehension swap its value with the name? -/
def swB (sc : List (Str × NameKind)) (x : Str) (px : Pos) (v : Expr) (scope : Scope) : Bool :=
  sc.lookup x == some .local && px.line == v.pos.line && !(scope.names.any fun (n, k) => n == x && (k == .local || k == .cell))
theorem swB_ok {sc : List (Str × NameKind)} {x : Str} {px p : Pos} {el : Expr} {gens : List Comprehension} {scope : Scope} {l : Nat} {env : PySem.Env} (hk : ∀ x, env.kindOf x = sc.lookup x) (hb : env.blockKind = .function) :
    swapsWith (.ListComp el gens scope p) (some (.Name x px)) l env = pure (swB sc x px (.ListComp el gens scope p) scope) := by
  unfold swapsWith swB
  simp only [hk, hb]
  rfl
def notName : Expr → Bool
  | .Name .. => false
  | _ => true
def isLst : Expr → Bool
  | .List .. => true
  | _ => false
def isLC : Expr → Bool
  | .ListComp .. => true
  | _ => false
def setB (K : Ck) (x : Str) (px : Pos) : Expr → Bool
  | .ListComp e g sc p => !(swB K.sc x px (.ListComp e g sc p) sc)
  | v => noComp v
def isLcT : T → Bool
  | .lc .. => true
  | .lc2 .. => true
  | .lcw .. => true
  | _ => false
/-- two names, swapped -/
def parB (M : Nat → Bool) (K : Ck) (Γ : List Nat) (tgs : T) (tt vs : List Expr) : Bool := match tgs, tt, vs with
  | .cons (.v i) (.cons (.v j) .nil), [.Name x _, .Name y _], [_, _] => nmL K M Γ i x && nmL K M Γ j y && decide (i ≠ j) && decide (K.sc.lookup x = some .local) && decide (K.sc.lookup y = some .local) && decide (swT K.sc tt vs = some (some [x, y]))
  | .cons (.v i) (.cons (.v j) (.cons (.v l) .nil)), [.Name x _, .Name y _, .Name z _], [_, _, _] => nmL K M Γ i x && nmL K M Γ j y && nmL K M Γ l z && decide (i ≠ j) && decide (i ≠ l) && decide (j ≠ l) && decide (K.sc.lookup x = some .local) && decide (K.sc.lookup y = some .local) && decide (K.sc.lookup z = some .local) && decide (swT K.sc tt vs = some (some [x, y, z]))
  | _, _, _ => false
/-- x.append(e) -/
def appB (K : Ck) (Γ : List Nat) (o e : T) : Expr → Bool
  | .Call (.Attribute (.Name x _) a apos) [v] [] cpos => (match o with
    | .v i => nm K i x && decide (a = "append") && (decide (1 ≤ Γ.getD i 0) && decide (Γ.getD i 0 - 1 ≤ (kd K Γ e).lv)) && okX false K Γ e v && (kd K Γ e).own && noStar v && (apos.endLine == cpos.line)
    | _ => false)
  | _ => false
/-- two names, levels of their own -/
def parL (M : Nat → Bool) (K : Ck) (Γ : List Nat) (tgs es : T) (tt vs : List Expr) : Bool := match tgs, es, vs with
  | .cons (.v i) (.cons (.v j) .nil), .cons a (.cons b .nil), [va, vb] => (lvAsg K i (kd K Γ a) == 0 && lvAsg K j (kd K Γ b) == 0) ||
      (parB M K Γ tgs tt vs && okX false K Γ a va && okX false K Γ b vb && (kd K Γ a).own && (kd K Γ b).own && noStar va && noStar vb)
  | .cons (.v _) (.cons (.v _) .nil), .cons _ (.cons _ .nil), _ => false
  | _, _, _ => true
/-- raise C(e) -/
def raiB (K : Ck) (Γ : List Nat) (k : Nat) (a : T) (st : Stmt) : Bool := match st with
    | .Raise (some (.Call (.Name x _) [e] [] _)) none _ => glB K.sc x && !(x == ("__debug__" : Str)) && (K.t.ex.any fun p => decide (p.1 = x) && decide (p.2 = k)) && okX false K Γ a e && (kd K Γ a).own && noStar e
    | _ => false
/-- except C as error: caught = error -/
def tryB (K : Ck) (Z : Zd) (Γ : List Nat) (kc i : Nat) (hd : T) (m : List Nat) (h : List ExceptHandler) : Bool := match hd, h with
  | .cons (.asg (.v j) (.v i')) .nil, [.ExceptHandler (some (.Name x _)) (some n) [.Assign [.Name y _] (.Name n' _) _] _] =>
    decide (i' = i) && decide (n' = n) && nmL K Z.M Γ i n && nmL K Z.M Γ j y && decide (i ≠ j) && decide (K.sc.lookup n = some .local) && decide (K.sc.lookup y = some .local) && !(n == ("__classdict__" : Str)) && !(n == ("__debug__" : Str)) &&
    glB K.sc x && !(x == ("__debug__" : Str)) && (K.t.ex.any fun p => decide (p.1 = x) && decide (p.2 = kc)) && (m.all Z.M) && ((List.range Γ.length).all fun l => m.contains l || Γ.getD l 0 == 0)
  | _, _ => false
mutual
def okS (K : Ck) (Z : Zd) : List Nat → T → Stmt → Bool
  | Γ, .asg tg e, st => (match st with
    | .Assign ts v p => (match ts with
      | [t] => (match tg with
        | .v i => (match t with
          | .Name x px => nmL K Z.M Γ i x && okX false K Γ e v && (kd K Γ e).own && (setB K x px v || (isLcT e && decide (K.sc.lookup x = some .local)))
          | _ => false)
        | tg => okX false K Γ e v && (kd K Γ e).own && okG Z.M K Γ tg t && notName t && noStar t && (!(isTup t || isLst t) || !isTup v))
      | _ => false)
    | _ => false)
  | Γ, .par tgs es, st => (match st with
    | .Assign ts v p => (match ts, v with
      | [.Tuple tt kk p1], .Tuple vs x1 p2 => okA K Γ [] 0 es vs && decide (vs.length ≤ 1000) && okGs Z.M K Γ tgs tt && tt.all noStar && decide (lenT tgs = tt.length) && (decide (swT K.sc tt vs = some none) || parB Z.M K Γ tgs tt vs) && parL Z.M K Γ tgs es tt vs
      | _, _ => false)
    | _ => false)
  | Γ, .mov j i, st => (match st with | .Assign [.Name y _] (.Name x _) _ => nmL K Z.M Γ j y && nm K i x | _ => false)
  | Γ, .app o e, st => (match st with | .Expr v p => appB K Γ o e v | _ => false)
  | Γ, .exp e, st => (match st with | .Expr v p => okX false K Γ e v && noComp v | _ => false)
  | Γ, .sif c a b, st => (match st with | .If t p q _ => okX true K Γ c t && okB K Z Γ a p && okB K Z Γ b q | _ => false)
  | Γ, .for tg it b m, st => (match st with
    | .For t i body els _ => (match els with
      | [] => okI K Γ it i && tgB it t && noSet i && okG Z.M K Γ tg t && okB K { Z with Γb := mask0 m Γ, Γc := mask0 m Γ } (gG tg Γ) b body && leB Γ (gB K b (gG tg Γ)) m && leB Γ (mask0 m Γ) m
      | _ => false)
    | _ => false)
  | Γ, .whl t b m, st => (match st with
    | .While x body els _ => (match els with
      | [] => okX true K Γ t x && okB K { Z with Γb := mask0 m Γ, Γc := mask0 m Γ } Γ b body && leB Γ (gB K b Γ) m && leB Γ (mask0 m Γ) m
      | _ => false)
    | _ => false)
  | Γ, .ret e, st => (match st with | .Return (some v) _ => okX false K Γ e v && (kd K Γ e).own && decide (Z.rl ≤ (kd K Γ e).lv) && leB Z.Γr Γ [] | _ => false)
  | Γ, .retv i, st => (match st with | .Return (some (.Name x _)) _ => nm K i x && decide (Z.rl ≤ Γ.getD i 0) && leB Z.Γr Γ [i] | _ => false)
  | Γ, .retn, st => (match st with | .Return none _ => leB Z.Γr Γ [] | _ => false)
  | Γ, .rai k as, st => (match as with
    | .cons a r => (match r with | .nil => raiB K Γ k a st | _ => true)
    | _ => true)
  | Γ, .try b kc i hd m, st => (match st with
    | .Try body h els fin _ => (match els, fin with
      | [], [] => tryB K Z Γ kc i hd m h && okB K { Z with M := fun l => m.contains l } Γ b body
      | _, _ => false)
    | _ => false)
  | _, .pas, st => (match st with | .Pass _ => true | _ => false)
  | Γ, .brk, st => (match st with | .Break _ => leB Z.Γb Γ [] | _ => false)
  | Γ, .cnt, st => (match st with | .Continue _ => leB Z.Γc Γ [] | _ => false)
  | _, _, _ => false
def okB (K : Ck) (Z : Zd) : List Nat → T → List Stmt → Bool
  | _, .nil, sts => (match sts with | [] => true | _ => false)
  | Γ, .cons a b, sts => (match sts with | st :: sts => okS K Z Γ a st && okB K Z (gS K a Γ) b sts | [] => false)
  | _, _, _ => false
end
end Pz
end
section
set_option Elab.async false
set_option linter.all false
/-! a, b = x, y with values of one's own. -/
namespace Pz
open PySem PySem.Spec PyProof.Rows L2
section
variable {c : Cf} {W : WX} {Z : Zd} {Γ : List Nat} {Y : Cx} {a b : Expr} {pos : Pos} {fa fb : Env → R (D × Env)} {pa pb : Bool} {n m : Nat}
theorem ss_par2L {i j : Nat} {x y : Str} {px py pt pt2 : Pos} {kt k2} (cx : Ctx c W Y) (ni : NmAt Y Γ Z i x) (nj : NmAt Y Γ Z j y) (hij : i ≠ j) (li : Y.env.scope.names.lookup x = some .local) (lj : Y.env.scope.names.lookup y = some .local)
    (ha : SX c W Γ ⟨true, pa, n⟩ Y a fa) (hb : SX c W Γ ⟨true, pb, m⟩ Y b fb) (sa : noStar a = true) (sb : noStar b = true)
    (hw : swappedStores [.Tuple [.Name x px, .Name y py] kt pt] (.Tuple [a, b] k2 pt2) Y.env = pure (some [x, y])) (hs : swapsWithSole [.Tuple [.Name x px, .Name y py] kt pt] (.Tuple [a, b] k2 pt2) pos.line Y.env = pure false) :
    SS c W Z Γ ((Γ.set i n).set j m) Y (.Assign [.Tuple [.Name x px, .Name y py] kt pt] (.Tuple [a, b] k2 pt2) pos)
      (fun ρ => (fa ρ).bind fun p => (fb p.2).bind fun q => .ok (.nx (st (st q.2 i p.1) j q.1))) :=
  PS.imp (ps_par cx.calm ni.nd ni.at_ nj.at_ hij li lj (pa_cons ha (pa_cons hb pa_nil (star_cons sb)) (star_cons sa)) hw hs) fun D σ H ⟨F, A, ρ, r, h⟩ =>
    tX.inS (g := fun d1 ρ1 => (fb ρ1).bind fun q => (.ok (.nx (st (st q.2 i d1) j q.1)) : R Fl)) r h fun v H1 F1 A1 d1 ρ1 B1 o1 h1 =>
      tX.inS (g := fun d2 ρ2 => (.ok (.nx (st (st ρ2 i d1) j d2)) : R Fl)) o1.rep h1 fun w H2 F2 A2 d2 ρ2 B2 o2 h2 => by
        replace h2 : EndS c Z ((Γ.set i n).set j m) D σ H F A (.nx (st (st ρ2 i d1) j d2)) := h2
        have two := o1.two o2 (.inl rfl)
        have dom := o1.ot.dom
        have dA : ∀ z ∈ B1, ¬ Own A2 z := fun z hz hA => (o2.mid.nx.own z (.inl hA)).elim (o1.dj rfl z hz) fun e => (dom z hz).1 e
        have dB : ∀ z ∈ B1, z ∉ B2 := fun z hz hB => (o2.mid.nx.own z (.inr ⟨rfl, hB⟩)).elim (o1.dj rfl z hz) fun e => (dom z hz).1 e
        obtain ⟨A3, r3, o3⟩ := o2.rep.store (i := i) (n := n) (B := B1) ni.lv two.o1 (o1.nd rfl) dA
        obtain ⟨A4, r4, o4⟩ := r3.store (i := j) (n := m) (B := B2) (by rw [List.length_set]; exact nj.lv) two.o2 (o2.nd rfl) (fun z hz hA => (o3 z hA).elim (o2.dj rfl z hz) fun hB => dB z hB hz)
        refine ⟨v, w, rfl, ?_⟩
        refine h2 _ H2 F2 A4 ((Agree.set ni.mm).trans (.set nj.mm)) r4 (two.mid.nx.weak (fun _ h => h) fun z hz => .inl ?_)
        rcases o4 z hz with hz | hz
        · rcases o3 z hz with hz | hz
          · exact .inl hz
          · exact .inr (.inl ⟨rfl, hz⟩)
        · exact .inr (.inr ⟨rfl, hz⟩)
end
end Pz
end
section
set_option Elab.async false
set_option linter.all false
/-! raise C(e); try: .. except C as error: caught = error. -/
namespace Pz
open PySem PySem.Spec PyProof.Rows L2

section
variable {c : Cf} {W : WX} {Z : Zd} {Γ Γ1 Γ' Γb : List Nat} {Y : Cx} {x n m : Str} {i j k kc : Nat} {e : Expr} {p0 pos pos2 : Pos} {pe : Bool} {fe : Env → R (D × Env)} {C D0 f0 : Addr}
theorem ss_rai (cx : Ctx c W Y) (B : ErrB Y.K Y.prog Y.mg D0 f0) (T : ErrC Y.K D0 f0 C) (hg : Gl Y x) (hm : Y.mg x = some (.ref C)) (hr : Y.A.depth + 1 < recursionLimit) (hk : c.X.ca k = some C) (he : SX c W Γ ⟨true, pe, 0⟩ Y e fe)
    (hd : (x == ("__debug__" : Str)) = false) (hs : starEach [e] Y.env = (false, eval e Y.env) :: starEach [] Y.env) (hpl : (backTo pos (starEach [] Y.env)).any (·.1) = false) :
    SS c W Z Γ Γ' Y (.Raise (some (.Call (.Name x p0) [e] [] pos)) none pos2) (fun ρ => (fe ρ).bind fun p => .error (.exc k [p.1])) :=
  PS.imp (ps_raise cx.calm cx.tk (pmk_err B T hg hm hr he hd hs hpl)) fun N σ H ⟨F, A, ρ, r, h⟩ => tX.inS (g := fun d ρ1 => (.error (.exc k [d]) : R Fl)) r h fun v H1 F1 A1 d ρ1 B o h1 => by
    refine ⟨v, rfl, fun q hq => ?_⟩
    have hf : F1 q = none := by
      cases z : F1 q with
      | none => rfl
      | some u => rw [o.rep.sub q u z] at hq; cases hq
    have sf := upd_sub (o := .xd [("value", v)]) hf
    refine h1 (.ref C) (some q) _ ⟨⟨upd F1 q (.xd [("value", v)]), C, q, v, d, hk, rfl, rfl, rfl, upd_same, o.ot.2.mono sf, fun b u z => ?_, sf, fun b z => ?_, fun b u z _ => ?_, fun b z => ?_⟩⟩ σ .refl
    · by_cases hb : b = q
      · rw [hb, upd_same] at z ⊢; exact z
      · rw [upd_ne hb] at z ⊢; exact o.rep.sub b u z
    · by_cases hb : b = q
      · rw [hb]; exact .inr (.inr hq)
      · rw [upd_ne hb] at z; exact .inl z
    · rw [upd_ne (ne_of_none z hq)]; exact z
    · by_cases hb : b = q
      · rw [hb, upd_same] at z; cases z
      · rw [upd_ne hb] at z; exact .inr z

/-- the suite's name is n (slot i), the error is kept as m (slot j); ml: the slots that the body may change -/
def tryR (kc i j : Nat) (ml : List Nat) (fb : Env → R Fl) : Env → R Fl := fun ρ => match fb ρ with
  | .ok r => .ok r
  | .error .stuck => bad
  | .error (.exc k fs) => if kc == 0 || kc == k then (if i < ρ.length then .ok (.nx (((unset ρ ml).set j (some (.exc k fs))).set i none)) else bad) else .error (.exc k fs)
theorem unset_len : ∀ (l : List Nat) (ρ : Env), (Pz.unset ρ l).length = ρ.length
  | [], _ => rfl
  | i :: l, ρ => by
    show (Pz.unset (ρ.set i none) l).length = _
    rw [unset_len l, List.length_set]
theorem ss_try {body : List Stmt} {np np2 mp ap p1 p2 : Pos} {ml : List Nat} {fb : Env → R Fl} {cv : Value} (cx : Ctx c W Y) (hs : Y.stack = Y.env :: Y.outer) (hf : Y.env.frame = some Y.env.locals) (hex : Y.ex = [])
    (ni : NmAt Y Γ Z i n) (nj : NmAt Y Γ Z j m) (hij : i ≠ j) (hln : Y.env.kindOf n = some .local) (hlm : Y.env.kindOf m = some .local) (hd : (n == ("__debug__" : Str)) = false) (hcd : (n == ("__classdict__" : Str)) = false) (hc : Names Y x cv)
    (hm : ∀ l, l ∈ ml → Z.M l = true) (h0 : ∀ l, l ∉ ml → Γ.getD l 0 = 0) (h1 : ∀ l, Γ'.getD l 0 = 0) (hex1 : ∀ k C, c.X.ca k = some C → PySem.W.exmOne Y.K (.ref C) cv = some (kc == 0 || kc == k))
    (hb : ∀ (W : WX) (pn : List (Addr × Obj)) (xe : Value → Shared → Prop), Takes (Y.tr pn xe) W → PassesOwn (model Y.prog Y.w) Y.A Y.env xe → SSs c W { Z with M := fun l => ml.contains l } Γ Γb (Y.tr pn xe) body fb) :
    SS c W Z Γ Γ' Y (.Try body [.ExceptHandler (some (.Name x np)) (some n) [.Assign [.Name m mp] (.Name n np2) ap] p1] [] [] p2) (tryR kc i j ml fb) :=
  PS.imp (ps_try_keep (tb := fun W => tS c W { Z with M := fun l => ml.contains l } Γ Γb fb) hs hf hex ni.nd ni.at_ hln nj.at_ hlm hij hd hcd (List.getElem?_eq_some_iff.mp ni.at_).1 hc cx.tk hb) fun N σ H ⟨F, A, ρ, r, h⟩ => by
    have ag0 : ∀ {σ' : Sl}, Agree (fun l => ml.contains l) σ σ' → Agree Z.M σ σ' := fun a => ⟨a.len, fun l hl => a.at_ l (by
      cases hh : ml.contains l with
      | false => rfl
      | true =>
        have := hm l (by simpa using hh)
        rw [hl] at this; cases this)⟩
    refine ⟨F, A, ρ, r, ?_⟩
    unfold tryR at h
    generalize hfb : fb ρ = rr at h ⊢
    cases rr with
    | ok fl =>
      cases fl with
      | nx ρ' =>
        intro σ' H' F' A' a r' n'
        obtain ⟨F2, A2, r2, n2⟩ := r'.relevel (Γ' := Γ') fun l _ _ => by rw [h1]; exact Nat.zero_le _
        exact h σ' H' F2 A2 (ag0 a) r2 (n'.trans n2)
      | bk ρ' => exact fun σ' H' F' A' a r' n' => h σ' H' F' A' (ag0 a) r' n'
      | ct ρ' => exact fun σ' H' F' A' a r' n' => h σ' H' F' A' (ag0 a) r' n'
      | rt d ρ' => exact fun σ' v H' F' A' B a r' n' => h σ' v H' F' A' B (ag0 a) r' n'
    | error er =>
      cases er with
      | stuck => exact h
      | exc k fs =>
        intro cls dx H' xp σ' ag
        obtain ⟨G, C, d, v, y, e1, rfl, rfl, rfl, e5, e6, e7, e8, e9, e10, e11⟩ := id xp.ex
        refine ⟨_, hex1 k C e1, fun hb1 => ⟨C, d, rfl, rfl, fun a ha => ?_⟩, fun hb1 => ?_⟩
        · replace h : Run c (WM W Z.M σ) σ H F (Own A) (if (kc == 0 || kc == k) = true then (if i < ρ.length then .ok (.nx (((unset ρ ml).set j (some (.exc k [y]))).set i none)) else bad) else .error (.exc k [y])) (EndS c Z Γ' N σ H F A) := h
          rw [if_pos hb1] at h
          by_cases hil : i < ρ.length
          · rw [if_pos hil] at h
            replace h : EndS c Z Γ' N σ H F A (.nx (((unset ρ ml).set j (some (.exc k [y]))).set i none)) := h
            have hg : G a = none := by
              cases z : G a with
              | none => rfl
              | some u => rw [e7 a u z] at ha; cases ha
            have sg := upd_sub (o := CaO a C d) hg
            have sh := upd_sub (o := CaO a C d) ha
            have s2 : Sub (upd G a (CaO a C d)) (upd H' a (CaO a C d)) := fun b u z => by
              by_cases hb : b = a
              · rw [hb, upd_same] at z ⊢; exact z
              · rw [upd_ne hb] at z ⊢; exact e7 b u z
            have fs : Sub F (upd G a (CaO a C d)) := e8.trans sg
            refine h _ _ (upd G a (CaO a C d)) (fun _ => []) (((ag0 ag).trans (.set nj.mm)).trans (.set ni.mm)) ⟨s2, ?_, fun l dd hl => ?_, fun _ _ => rfl, fun _ => List.nodup_nil, fun _ _ _ _ z => absurd z (by simp)⟩
              ⟨fun b u hu hp => ?_, fs, fun b hb => ?_, fun b ⟨_, z⟩ => absurd z (by simp)⟩
            · rw [List.length_set, List.length_set, List.length_set, List.length_set, unset_len, r.len, ag.len]
            · have hli : l ≠ i := fun z => by
                subst z
                by_cases hz : l < ((unset ρ ml).set j (some (Pz.D.exc k [y]))).length
                · rw [List.getElem?_set_self hz] at hl; cases hl
                · rw [List.getElem?_eq_none (by rw [List.length_set]; omega)] at hl; cases hl
              rw [List.getElem?_set_ne (Ne.symm hli)] at hl
              rw [List.getElem?_set_ne (Ne.symm hli), h1]
              by_cases hlj : l = j
              · subst hlj
                by_cases hz : l < (unset ρ ml).length
                · rw [List.getElem?_set_self hz] at hl
                  cases hl
                  refine ⟨.ref a, List.getElem?_set_self (by rw [ag.len, ← r.len, ← unset_len ml ρ]; exact hz), rfl, ?_⟩
                  have hd : d ≠ a := fun z => by subst z; rw [hg] at e5; cases e5
                  exact .exc e1 upd_same (by rw [upd_ne hd]; exact e5) (e6.mono sg)
                · rw [List.getElem?_eq_none (by rw [List.length_set]; omega)] at hl; cases hl
              · rw [List.getElem?_set_ne (Ne.symm hlj)] at hl
                obtain ⟨hm1, hm2⟩ := unset_get hl
                obtain ⟨w, ew, ow⟩ := r.val l dd hm2
                rw [h0 l hm1] at ow
                refine ⟨w, ?_, rfl, ow.2.mono fs⟩
                rw [List.getElem?_set_ne (Ne.symm hlj), ag.at_ l (by simpa using hm1)]
                exact ew
            · rw [upd_ne (ne_of_none (e10 b u hu hp) ha)]; exact e10 b u hu hp
            · by_cases hb' : b = a
              · subst hb'
                rcases e11 b ha with z | z
                · exact .inr (.inl z)
                · exact .inr (.inr z)
              · rw [upd_ne hb'] at hb; exact e9 b hb
          · rw [if_neg hil] at h
            exact False.elim h
        · replace h : Run c (WM W Z.M σ) σ H F (Own A) (if (kc == 0 || kc == k) = true then (if i < ρ.length then .ok (.nx (((unset ρ ml).set j (some (.exc k [y]))).set i none)) else bad) else .error (.exc k [y])) (EndS c Z Γ' N σ H F A) := h
          rw [if_neg (by rw [hb1]; simp)] at h
          exact h _ _ H' xp σ' (ag0 ag)
end
end Pz
end
section
set_option Elab.async false
set_option linter.all false
set_option maxRecDepth 4000
/-! The checker is right: statements. -/
namespace Pz
open PySem PySem.Spec PyProof.Rows L2

structure ScpS (c : Cf) (P : Program) (w : World) (mg : Str → Option Value) (base : Heap) (k : Nat) (N : List Str) (sc : List (Str × NameKind)) (W : WX) (Y : Cx) : Prop extends Scp c P w mg base k N sc W Y where
  hk : ∀ x, Y.env.kindOf x = sc.lookup x
  hb : Y.env.blockKind = .function
  hs : Y.stack = Y.env :: Y.outer
  hf : Y.env.frame = some Y.env.locals
  hex : Y.ex = []
section
variable {c : Cf} {P : Program} {w : World} {mg : Str → Option Value} {base : Heap} {k : Nat} {C : Cfg} {W : WX} {Y : Cx} {Z : Zd} {Γ Γ' : List Nat} {st : Stmt}
/-- a, b, c = x, y, z: swapped -/
theorem ss_par3 {a b d : Expr} {i j l : Nat} {x y z : Str} {px py pz pt pt2 pos : Pos} {kt k2} {pu : Bool} {fs : Env → R (List D × Env)} (cx : Ctx c W Y) (ni : NmAt Y Γ Z i x) (nj : NmAt Y Γ Z j y) (nl : NmAt Y Γ Z l z) (hij : i ≠ j) (hil : i ≠ l) (hjl : j ≠ l) (li : Y.env.scope.names.lookup x = some .local) (lj : Y.env.scope.names.lookup y = some .local) (ll : Y.env.scope.names.lookup z = some .local)
    (ha : SA c W Γ [none, none, none] pu Y [a, b, d] fs)
    (hw : swappedStores [.Tuple [.Name x px, .Name y py, .Name z pz] kt pt] (.Tuple [a, b, d] k2 pt2) Y.env = pure (some [x, y, z])) (hs : swapsWithSole [.Tuple [.Name x px, .Name y py, .Name z pz] kt pt] (.Tuple [a, b, d] k2 pt2) pos.line Y.env = pure false) :
    SS c W Z Γ (((Γ.set i 0).set j 0).set l 0) Y (.Assign [.Tuple [.Name x px, .Name y py, .Name z pz] kt pt] (.Tuple [a, b, d] k2 pt2) pos)
      (fun ρ => (fs ρ).bind fun p => (optR (itemsT 3 (.tup p.1))).bind fun q => (consG (fun d ρ => .ok (Pz.st ρ i d)) (consG (fun d ρ => .ok (Pz.st ρ j d)) (consG (fun d ρ => .ok (Pz.st ρ l d)) (fun l ρ => if l.isEmpty then .ok ρ else bad))) q p.2).bind fun ρ' => .ok (.nx ρ')) :=
  PS.imp (ps_par3 cx.calm ni.nd ni.at_ nj.at_ nl.at_ hij hil hjl li lj ll ha hw hs) fun N σ H ⟨F, A, ρ, r, h⟩ => tF.inS (pu := pu) (g := fun ds ρ1 => (optR (itemsT 3 (.tup ds))).bind fun q => (consG (fun d ρ => .ok (Pz.st ρ i d)) (consG (fun d ρ => .ok (Pz.st ρ j d)) (consG (fun d ρ => .ok (Pz.st ρ l d)) (fun l ρ => if l.isEmpty then .ok ρ else bad))) q ρ1).bind fun ρ' => (.ok (.nx ρ') : R Fl)) r h fun vs H1 F1 A1 ds ρ1 m ap h1 => by
    obtain ⟨v, d, w, d', u, d'', rfl, rfl, rv, rw', ru⟩ := ap.three
    replace h1 : EndS c Z (((Γ.set i 0).set j 0).set l 0) N σ H F A (.nx (Pz.st (Pz.st (Pz.st ρ1 i d) j d') l d'')) := h1
    refine ⟨v, w, u, rfl, ?_⟩
    have no : ∀ {A : Nat → List Addr}, ∀ a ∈ ([] : List Addr), ¬ Own A a := fun _ z => absurd z (by simp)
    obtain ⟨A2, r2, o2⟩ := m.rep.store (i := i) (n := 0) (B := []) ni.lv ⟨rfl, rv⟩ List.nodup_nil no
    obtain ⟨A3, r3, o3⟩ := r2.store (i := j) (n := 0) (B := []) (by rw [List.length_set]; exact nj.lv) ⟨rfl, rw'⟩ List.nodup_nil no
    obtain ⟨A4, r4, o4⟩ := r3.store (i := l) (n := 0) (B := []) (by rw [List.length_set, List.length_set]; exact nl.lv) ⟨rfl, ru⟩ List.nodup_nil no
    refine h1 _ H1 F1 A4 (((Agree.set ni.mm).trans (.set nj.mm)).trans (.set nl.mm)) r4 (m.nx0.weak (fun _ h => h) fun a z => .inl ?_)
    have k0 : ∀ {p : Prop} {a : Addr}, p ∨ a ∈ ([] : List Addr) → p := fun z => z.elim (fun z => z) fun z => absurd z (by simp)
    exact k0 (o2 a (k0 (o3 a (k0 (o4 a z)))))
theorem SS.cong {f g : Env → R Fl} (h : SS c W Z Γ Γ' Y st f) (e : ∀ ρ, f ρ = g ρ) : SS c W Z Γ Γ' Y st g := by
  rw [← funext e]; exact h
theorem nmL_at {K : Ck} {M : Nat → Bool} {i : Nat} {x : Str} (s : Scp c P w mg base k K.N K.sc W Y) (h : nmL K M Γ i x = true) (hM : Z.M = M) : NmAt Y Γ Z i x := by
  unfold nmL at h
  simp only [Bool.and_eq_true, decide_eq_true_eq] at h
  obtain ⟨⟨⟨h1, h2⟩, h3⟩, h4⟩ := h
  obtain ⟨g1, g2⟩ := s.loc h2
  exact ⟨by rw [s.eN]; exact s.nd, by rw [s.eN]; exact h1, g1, g2, h3, by rw [hM]; exact h4⟩
theorem getD_setz {Γ : List Nat} {j i : Nat} (h : j ≠ i) : (Γ.set j 0).getD i 0 = Γ.getD i 0 := getD_set_ne h
theorem parL_cases {M : Nat → Bool} {K : Ck} {Γ : List Nat} {tgs es : T} {tt vs : List Expr} (h : parL M K Γ tgs es tt vs = true) : gS K (.par tgs es) Γ = gGs tgs Γ ∨ ∃ i j a b va vb, tgs = .cons (.v i) (.cons (.v j) .nil) ∧ es = .cons a (.cons b .nil) ∧ vs = [va, vb] ∧
    parB M K Γ tgs tt vs = true ∧ okX false K Γ a va = true ∧ okX false K Γ b vb = true ∧ (kd K Γ a).own = true ∧ (kd K Γ b).own = true ∧ noStar va = true ∧ noStar vb = true := by
  unfold parL at h
  split at h
  · rename_i i j a b va vb
    rw [Bool.or_eq_true] at h
    rcases h with h | h
    · simp only [Bool.and_eq_true, beq_iff_eq] at h
      refine .inl ?_
      show (Γ.set i (lvAsg K i (kd K Γ a))).set j (lvAsg K j (kd K Γ b)) = _
      rw [h.1, h.2]; rfl
    · simp only [Bool.and_eq_true] at h
      obtain ⟨⟨⟨⟨⟨⟨h1, h2⟩, h3⟩, h4⟩, h5⟩, h6⟩, h7⟩ := h
      exact .inr ⟨i, j, a, b, va, vb, rfl, rfl, rfl, h1, h2, h3, h4, h5, h6, h7⟩
  · cases h
  · rename_i n1 n2
    refine .inl ?_
    simp only [gS]
theorem map0_getD (Γ : List Nat) (l : Nat) : (Γ.map fun _ => 0).getD l 0 = 0 := by
  rw [List.getD_eq_getElem?_getD, List.getElem?_map]
  cases Γ[l]? <;> rfl
theorem try_eq {C : Cfg} {b : T} {kc i j : Nat} {m : List Nat} {ρ : Env} : tryR kc i j m (evB C b) ρ = evS C (.try b kc i (.cons (.asg (.v j) (.v i)) .nil) m) ρ := by
  show tryR kc i j m (evB C b) ρ = ((match evB C b ρ with
    | .ok r => .ok r
    | .error .stuck => bad
    | .error (.exc c' fs) => if kc == 0 || kc == c' then (evB C (.cons (.asg (.v j) (.v i)) .nil) (st (unset ρ m) i (.exc c' fs))).map (sufFl i) else .error (.exc c' fs)) : R Fl)
  unfold tryR
  cases evB C b ρ with
  | ok r => rfl
  | error e =>
    cases e with
    | stuck => rfl
    | exc k fs =>
      show (if (kc == 0 || kc == k) = true then _ else _) = (if (kc == 0 || kc == k) = true then _ else _)
      split
      · have e1 : evB C (.cons (.asg (.v j) (.v i)) .nil) (Pz.st (unset ρ m) i (.exc k fs)) = (optR (gt (Pz.st (unset ρ m) i (.exc k fs)) i)).bind fun d => .ok (.nx (Pz.st (Pz.st (unset ρ m) i (.exc k fs)) j d)) := by
          show ((((optR (gt (Pz.st (unset ρ m) i (.exc k fs)) i)).bind fun d => (.ok (d, Pz.st (unset ρ m) i (.exc k fs)) : R (D × Env))).bind _).bind _) = _
          cases gt (Pz.st (unset ρ m) i (Pz.D.exc k fs)) i <;> rfl
        rw [e1]
        unfold gt Pz.st
        by_cases h : i < ρ.length
        · rw [if_pos h, List.getElem?_set_self (by rw [unset_len]; exact h)]
          show _ = Except.ok (Fl.nx (((((unset ρ m).set i (some (Pz.D.exc k fs))).set j (some (Pz.D.exc k fs))).set i none)))
          congr 2
          by_cases hij : i = j
          · subst hij
            rw [List.set_set, List.set_set, List.set_set]
          · rw [List.set_comm _ _ hij, List.set_set]
        · rw [if_neg h, List.getElem?_eq_none (by rw [List.length_set, unset_len]; omega)]
          rfl
      · rfl
mutual
theorem snd_S : ∀ (t : T) (st : Stmt) (K : Ck) (Z : Zd) (Γ : List Nat), okS K Z Γ t st = true → Bd c P w mg base k K.N K.t C → ∀ W Y, ScpS c P w mg base k K.N K.sc W Y → SS c W Z Γ (gS K t Γ) Y st (evS C t)
  | .asg tg e, st, K, Z, Γ, h, bd, W, Y, s => by
    cases st <;> first | (cases h; done) | skip
    rename_i ts v p
    match ts, h with
    | [], h => cases h
    | _ :: _ :: _, h => cases h
    | [t], h =>
      by_cases ht : ∃ i, tg = .v i
      · obtain ⟨i, rfl⟩ := ht
        cases t <;> first | (cases h; done) | skip
        rename_i x px
        replace h : (nmL K Z.M Γ i x && okX false K Γ e v && (kd K Γ e).own && (setB K x px v || (isLcT e && decide (K.sc.lookup x = some .local)))) = true := h
        simp only [Bool.and_eq_true] at h
        obtain ⟨⟨⟨h1, h2⟩, h3⟩, h4'⟩ := h
        have na := nmL_at (Z := Z) s.toScp h1 rfl
        have ie := (snd_X e v false K Γ h2 bd W Y s.toScp).1 rfl
        by_cases h4 : setB K x px v = true
        · have sw : swapsWith v (some (.Name x px)) p.line Y.env = pure false := by
            cases v <;> first | rfl | (cases h4; done) | skip
            rename_i el gens sc vp
            rw [swB_ok s.hk s.hb]
            replace h4 : (!(swB K.sc x px (.ListComp el gens sc vp) sc)) = true := h4
            rw [Bool.not_eq_true'] at h4
            rw [h4]
          exact ss_set na (sx_low ie h3 lvAsg_le) sw
        · have h5 : isLcT e = true ∧ K.sc.lookup x = some .local := by
            rw [Bool.not_eq_true] at h4
            rw [h4] at h4'
            simpa using h4'
          cases e <;> first | (cases h5.1; done) | skip
          · rename_i el tg it cc own
            cases v <;> first | (cases h2; done) | skip
            rename_i xe gens scope vp
            match gens, h2, h4 with
            | [], h2, h4 => cases h2
            | _ :: _ :: _, h2, h4 => cases h2
            | [⟨gt, gi, gifs, ga⟩], h2, h4 =>
              have hsw : swapsWith (.ListComp xe [⟨gt, gi, gifs, ga⟩] scope vp) (some (.Name x px)) p.line Y.env = pure true := by
                rw [swB_ok s.hk s.hb]
                have : ¬ (!(swB K.sc x px (.ListComp xe [⟨gt, gi, gifs, ga⟩] scope vp) scope)) = true := h4
                rw [Bool.not_eq_true, Bool.not_eq_false'] at this
                rw [this]
              replace h2 : (decide (ga = 0) && okI K Γ it gi && tgB it gt && noSet gi && blkB K scope own && (own.all fun i => Γ.getD i 0 == 0) &&
                  okG (inOwn own) { K with sc := scope.names } Γ tg gt && decide (gG tg Γ = Γ) && okC { K with sc := scope.names } Γ cc gifs && okX false { K with sc := scope.names } Γ el xe && (kd { K with sc := scope.names } Γ el).own) = true := h2
              simp only [Bool.and_eq_true, decide_eq_true_eq] at h2
              obtain ⟨⟨⟨⟨⟨⟨⟨⟨⟨⟨rfl, q2⟩, q2'⟩, q3⟩, q4⟩, q5⟩, q6⟩, q7⟩, q8⟩, q9⟩, q10⟩ := h2
              have bd' : Bd c P w mg base k { K with sc := scope.names }.N { K with sc := scope.names }.t C := ⟨bd.fn, bd.bl, bd.ex, bd.fv, bd.fnv, bd.gl⟩
              obtain ⟨pi, hi⟩ := snd_I it gi K Γ q2 bd
              obtain ⟨pc, hc⟩ := snd_C cc gifs { K with sc := scope.names } Γ q8 bd'
              have e0 : (ownL K own).map (·.2) = own := by
                unfold blkB at q4
                simp only [Bool.and_eq_true, decide_eq_true_eq] at q4
                exact q4.2
              have hloc : Y.env.scope.names.lookup x = some .local := (s.hk x).trans h5.2
              have lc := ps_setLc (i := i) s.calm na.nd na.at_ hloc hsw (hi W Y s.toScp gt q2') (blk_ok s.toScp q4)
                (fun s0 H0 Ca cl fp => by have := snd_G tg gt (inOwn own) { K with sc := scope.names } Γ q6 bd' never _ (Zb own) rfl (s.toScp.blk s0 H0 scope Ca cl fp); rw [q7] at this; exact this)
                (fun s0 H0 Ca cl fp => hc never _ (s.toScp.blk s0 H0 scope Ca cl fp))
                (fun s0 H0 Ca cl fp => ((snd_X el xe false { K with sc := scope.names } Γ q9 bd' never _ (s.toScp.blk s0 H0 scope Ca cl fp)).1 rfl).fz q10) (folded q3)
              rw [e0] at lc
              exact ss_setLc na (fun i hi => by simpa using List.all_eq_true.mp q5 i hi) lc lvAsg_le
          · rename_i el tg it cc tg2 it2 cc2 own own2
            cases v <;> first | (cases h2; done) | skip
            rename_i xe gens scope vp
            match gens, h2, h4 with
            | [], h2, h4 => cases h2
            | [_], h2, h4 => cases h2
            | _ :: _ :: _ :: _, h2, h4 => cases h2
            | [⟨gt, gi, gifs, ga⟩, ⟨ht, hi2, hifs, ha⟩], h2, h4 =>
              have hsw : swapsWith (.ListComp xe [⟨gt, gi, gifs, ga⟩, ⟨ht, hi2, hifs, ha⟩] scope vp) (some (.Name x px)) p.line Y.env = pure true := by
                rw [swB_ok s.hk s.hb]
                have : ¬ (!(swB K.sc x px (.ListComp xe [⟨gt, gi, gifs, ga⟩, ⟨ht, hi2, hifs, ha⟩] scope vp) scope)) = true := h4
                rw [Bool.not_eq_true, Bool.not_eq_false'] at this
                rw [this]
              replace h2 : (decide (ga = 0) && okI K Γ it gi && tgB it gt && noSet gi && blkB K scope own && (own.all fun i => Γ.getD i 0 == 0) &&
                  okG (inOwn own) { K with sc := scope.names } Γ tg gt && decide (gG tg Γ = Γ) && okC { K with sc := scope.names } Γ cc gifs && okX false { K with sc := scope.names } Γ el xe && (kd { K with sc := scope.names } Γ el).own &&
                  (decide (ha = 0) && okI { K with sc := scope.names } Γ it2 hi2 && tgB it2 ht && noSet hi2 && (own2.all fun i => decide (i ∈ own)) && okG (inOwn own2) { K with sc := scope.names } Γ tg2 ht && decide (gG tg2 Γ = Γ) && okC { K with sc := scope.names } Γ cc2 hifs)) = true := h2
              simp only [Bool.and_eq_true, decide_eq_true_eq] at h2
              obtain ⟨⟨⟨⟨⟨⟨⟨⟨⟨⟨⟨rfl, q2⟩, q2'⟩, q3⟩, q4⟩, q5⟩, q6⟩, q7⟩, q8⟩, q9⟩, q10⟩, ⟨⟨⟨⟨⟨⟨⟨rfl, k2⟩, k2'⟩, k3⟩, k5⟩, k6⟩, k7⟩, k8⟩⟩ := h2
              have bd' : Bd c P w mg base k { K with sc := scope.names }.N { K with sc := scope.names }.t C := ⟨bd.fn, bd.bl, bd.ex, bd.fv, bd.fnv, bd.gl⟩
              obtain ⟨pi, hi⟩ := snd_I it gi K Γ q2 bd
              obtain ⟨pc, hc⟩ := snd_C cc gifs { K with sc := scope.names } Γ q8 bd'
              obtain ⟨pj, hj⟩ := snd_I it2 hi2 { K with sc := scope.names } Γ k2 bd'
              obtain ⟨pd, hd⟩ := snd_C cc2 hifs { K with sc := scope.names } Γ k8 bd'
              have e0 : (ownL K own).map (·.2) = own := by
                unfold blkB at q4
                simp only [Bool.and_eq_true, decide_eq_true_eq] at q4
                exact q4.2
              have hs2 : ∀ i ∈ own2, i ∈ own := fun i hi => by simpa using List.all_eq_true.mp k5 i hi
              have hloc : Y.env.scope.names.lookup x = some .local := (s.hk x).trans h5.2
              have lc := ps_setLc2 (i := i) (vs1 := own2) s.calm na.nd na.at_ hloc hsw (hi W Y s.toScp gt q2') (blk_ok s.toScp q4) (by rw [e0]; exact hs2)
                (fun s0 H0 Ca cl fp => by have := snd_G tg gt (inOwn own) { K with sc := scope.names } Γ q6 bd' never _ (Zb own) rfl (s.toScp.blk s0 H0 scope Ca cl fp); rw [q7] at this; exact this)
                (fun s0 H0 Ca cl fp => hc never _ (s.toScp.blk s0 H0 scope Ca cl fp))
                (fun s0 H0 Ca cl fp => hj never _ (s.toScp.blk s0 H0 scope Ca cl fp) ht k2')
                (fun s0 H0 Ca cl fp => by have := snd_G tg2 ht (inOwn own2) { K with sc := scope.names } Γ k6 bd' never _ (Zb own2) rfl (s.toScp.blk s0 H0 scope Ca cl fp); rw [k7] at this; exact this)
                (fun s0 H0 Ca cl fp => hd never _ (s.toScp.blk s0 H0 scope Ca cl fp))
                (fun s0 H0 Ca cl fp => ((snd_X el xe false { K with sc := scope.names } Γ q9 bd' never _ (s.toScp.blk s0 H0 scope Ca cl fp)).1 rfl).fz q10) (folded q3) (fun _ => folded k3)
              rw [e0] at lc
              exact ss_setLc2 na (fun i hi => by simpa using List.all_eq_true.mp q5 i hi) hs2 lc lvAsg_le
          · rename_i el j i0
            cases v <;> first | (cases h2; done) | skip
            rename_i xe gens scope vp
            match gens, h2, h4 with
            | [], h2, h4 => cases h2
            | _ :: _ :: _, h2, h4 => cases h2
            | [⟨gt, gi, gifs, ga⟩], h2, h4 =>
              have hsw : swapsWith (.ListComp xe [⟨gt, gi, gifs, ga⟩] scope vp) (some (.Name x px)) p.line Y.env = pure true := by
                rw [swB_ok s.hk s.hb]
                have : ¬ (!(swB K.sc x px (.ListComp xe [⟨gt, gi, gifs, ga⟩] scope vp) scope)) = true := h4
                rw [Bool.not_eq_true, Bool.not_eq_false'] at this
                rw [this]
              replace h2 : (decide (ga = 0) && lcwB K Γ j i0 gt gi gifs scope && okX false { K with sc := scope.names } (Γ.set j (Γ.getD i0 0 - 1)) el xe && (kd { K with sc := scope.names } (Γ.set j (Γ.getD i0 0 - 1)) el).own) = true := h2
              simp only [Bool.and_eq_true, decide_eq_true_eq] at h2
              obtain ⟨⟨⟨rfl, q2⟩, q9⟩, q10⟩ := h2
              unfold lcwB at q2
              split at q2
              case h_2 => cases q2
              rename_i y py z pz
              simp only [Bool.and_eq_true, decide_eq_true_eq, beq_iff_eq] at q2
              obtain ⟨⟨⟨⟨⟨⟨k1, k2⟩, k3⟩, k4⟩, k5⟩, k6⟩, k7⟩ := q2
              have bd' : Bd c P w mg base k { K with sc := scope.names }.N { K with sc := scope.names }.t C := ⟨bd.fn, bd.bl, bd.ex, bd.fv, bd.fnv, bd.gl⟩
              obtain ⟨g1, g2, g3, g4⟩ := nm_at s.toScp k1
              have e0 : (ownL K [j]).map (·.2) = [j] := by
                unfold blkB at k6
                simp only [Bool.and_eq_true, decide_eq_true_eq] at k6
                exact k6.2
              have hloc : Y.env.scope.names.lookup x = some .local := (s.hk x).trans h5.2
              have lc := ps_setLc (i := i) (tg := .Name y py) s.calm na.nd na.at_ hloc hsw (pi_seq (pe_var (i := i0) (pos := pz) g1 g2 g3 g4)) (blk_ok s.toScp k6)
                (fun s0 H0 Ca cl fp => by obtain ⟨n1, n2, n3, n4, n5⟩ := nmL_pg (s.toScp.blk s0 H0 scope Ca cl fp) k7; exact pg_name n1 n2 n3 n4)
                (fun s0 H0 Ca cl fp => pts_nil)
                (fun s0 H0 Ca cl fp => ((snd_X el xe false { K with sc := scope.names } (Γ.set j (Γ.getD i0 0 - 1)) q9 bd' never _ (s.toScp.blk s0 H0 scope Ca cl fp)).1 rfl).fz q10) (folded rfl)
              rw [e0, s.K] at lc
              exact ss_setLcw na k5 k4 (by omega) k3 lc lvAsg_le
      · have h' : (okX false K Γ e v && (kd K Γ e).own && okG Z.M K Γ tg t && notName t && noStar t && (!(isTup t || isLst t) || !isTup v)) = true := by
          cases tg <;> first | exact h | exact absurd ⟨_, rfl⟩ ht
        have hg : gS K (.asg tg e) Γ = gG tg Γ := by cases tg <;> first | rfl | exact absurd ⟨_, rfl⟩ ht
        rw [hg]
        simp only [Bool.and_eq_true] at h'
        obtain ⟨⟨⟨⟨⟨h1, h2⟩, h3⟩, h4⟩, h5⟩, h6⟩ := h'
        have ie := ((snd_X e v false K Γ h1 bd W Y s.toScp).1 rfl).fz h2
        have ig := snd_G tg t Z.M K Γ h3 bd W Y Z rfl s.toScp
        refine ss_asg ie ig ?_ ?_ (by rw [assign_cons h5]; rfl)
        · cases t <;> first | (cases h4; done) | skip
          all_goals cases v <;> rfl
        · cases t <;> first | (cases v <;> rfl; done) | skip
          all_goals cases v <;> first | rfl | (cases h6; done)
  | .par tgs es, st, K, Z, Γ, h, bd, W, Y, s => by
    cases st <;> first | (cases h; done) | skip
    rename_i ts v p
    match ts, h with
    | [], h => cases h
    | t :: _ :: _, h => cases t <;> cases h
    | [t], h =>
      cases t <;> first | (cases h; done) | skip
      rename_i tt kk p1
      cases v <;> first | (cases h; done) | skip
      rename_i vs x1 p2 _
      replace h : (okA K Γ [] 0 es vs && decide (vs.length ≤ 1000) && okGs Z.M K Γ tgs tt && tt.all noStar && decide (lenT tgs = tt.length) && (decide (swT K.sc tt vs = some none) || parB Z.M K Γ tgs tt vs) && parL Z.M K Γ tgs es tt vs) = true := h
      simp only [Bool.and_eq_true, decide_eq_true_eq] at h
      obtain ⟨⟨⟨⟨⟨⟨h1, h2⟩, h3⟩, h4⟩, h5⟩, h6'⟩, h7⟩ := h
      rcases parL_cases h7 with hz | ⟨i, j, a, b, va, vb, rfl, rfl, rfl, hp, k1, k2, k3, k4, k5, k6⟩
      rotate_left
      · unfold parB at hp
        split at hp
        · rename_i i' j' x px y py va' vb' e1 e2
          cases e1
          simp only [Bool.and_eq_true, decide_eq_true_eq] at hp
          obtain ⟨⟨⟨⟨⟨g1, g2⟩, g3⟩, g4⟩, g5⟩, g6⟩ := hp
          have ia := sx_low ((snd_X a va false K Γ k1 bd W Y s.toScp).1 rfl) k3 (lvAsg_le (K := K) (i := i) (k := kd K Γ a))
          have ib := sx_low ((snd_X b vb false K Γ k2 bd W Y s.toScp).1 rfl) k4 (lvAsg_le (K := K) (i := j) (k := kd K Γ b))
          refine (ss_par2L s.toCtx (nmL_at (Z := Z) s.toScp g1 rfl) (nmL_at (Z := Z) s.toScp g2 rfl) g3 ((s.hk x).trans g4) ((s.hk y).trans g5) ia ib k5 k6 (swT_ok s.hk s.hb g6) rfl).cong fun ρ => ?_
          have e : ∀ ρ, evS C (.par (.cons (.v i) (.cons (.v j) .nil)) (.cons a (.cons b .nil))) ρ = (evE C a ρ).bind fun p => (evE C b p.2).bind fun q => .ok (.nx (st (st q.2 i p.1) j q.1)) := fun ρ => by
            show ((evE C a ρ).bind fun p => ((evE C b p.2).bind fun q => ((.ok ([], q.2)) : R (List D × Env)).bind fun q' => .ok (q.1 :: q'.1, q'.2)).bind fun q => .ok (p.1 :: q.1, q.2)).bind _ = _
            cases evE C a ρ with
            | error e => rfl
            | ok p =>
              show (((evE C b p.2).bind _).bind _).bind _ = (evE C b p.2).bind _
              cases evE C b p.2 <;> rfl
          first | exact (e ρ).symm | exact e ρ
        · rename_i e1
          first | cases e1 | simp_all
        · cases hp
      rw [hz]
      by_cases h6 : swT K.sc tt vs = some none
      rotate_left
      · have hp : parB Z.M K Γ tgs tt vs = true := by simpa [h6] using h6'
        unfold parB at hp
        split at hp
        · rename_i i j x px y py va vb
          simp only [Bool.and_eq_true, decide_eq_true_eq] at hp
          obtain ⟨⟨⟨⟨⟨g1, g2⟩, g3⟩, g4⟩, g5⟩, g6⟩ := hp
          exact ss_par2 s.toCtx (nmL_at (Z := Z) s.toScp g1 rfl) (nmL_at (Z := Z) s.toScp g2 rfl) g3 ((s.hk x).trans g4) ((s.hk y).trans g5) (snd_A es [va, vb] K Γ [] 0 h1 bd W Y s.toScp) (swT_ok s.hk s.hb g6) rfl
        · rename_i i j l x px y py z pz va vb vc
          simp only [Bool.and_eq_true, decide_eq_true_eq] at hp
          obtain ⟨⟨⟨⟨⟨⟨⟨⟨⟨g1, g2⟩, g2'⟩, g3⟩, g3'⟩, g3''⟩, g4⟩, g5⟩, g5'⟩, g6⟩ := hp
          exact ss_par3 s.toCtx (nmL_at (Z := Z) s.toScp g1 rfl) (nmL_at (Z := Z) s.toScp g2 rfl) (nmL_at (Z := Z) s.toScp g2' rfl) g3 g3' g3'' ((s.hk x).trans g4) ((s.hk y).trans g5) ((s.hk z).trans g5') (snd_A es [va, vb, vc] K Γ [] 0 h1 bd W Y s.toScp) (swT_ok s.hk s.hb g6) rfl
        · cases hp
      exact ss_parT s.toCtx (snd_A es vs K Γ [] 0 h1 bd W Y s.toScp) (lsOf_nil _ _) (by rw [lsOf_len]; exact h2) (snd_Gs tgs tt Z.M K Γ h3 bd W Y Z rfl s.toScp) (by rw [assign_len]; exact h5.symm) (assign_find h4) rfl (swT_ok s.hk s.hb h6) rfl
  | .exp e, st, K, Z, Γ, h, bd, W, Y, s => by
    cases st <;> first | (cases h; done) | skip
    rename_i v p
    replace h : (okX false K Γ e v && noComp v) = true := h
    simp only [Bool.and_eq_true] at h
    exact ss_exp ((snd_X e v false K Γ h.1 bd W Y s.toScp).1 rfl) (swaps_no h.2)
  | .sif t a b, st, K, Z, Γ, h, bd, W, Y, s => by
    cases st <;> first | (cases h; done) | skip
    rename_i x p q ps
    replace h : (okX true K Γ t x && okB K Z Γ a p && okB K Z Γ b q) = true := h
    simp only [Bool.and_eq_true] at h
    have it := ((snd_X t x true K Γ h.1.1 bd W Y s.toScp).2 rfl).1
    have ia := sss_post (snd_B a p K Z Γ h.1.2 bd W Y s) (minLv_le1 (gB K a Γ) (gB K b Γ))
    have ib := sss_post (snd_B b q K Z Γ h.2 bd W Y s) (minLv_le2 (gB K a Γ) (gB K b Γ))
    refine SS.cong (ss_if it ia ib) fun ρ => ?_
    show ((evE C t ρ).bind _).bind _ = (evE C t ρ).bind _
    rw [bind_assoc]
    congr 1
    funext r
    show ((optR (truO r.1)).bind _).bind _ = (optR (truO r.1)).bind _
    rw [bind_assoc]
    congr 1
  | .for tg it b m, st, K, Z, Γ, h, bd, W, Y, s => by
    cases st <;> first | (cases h; done) | skip
    rename_i t i body els p
    match els, h with
    | _ :: _, h => cases h
    | [], h =>
      replace h : (okI K Γ it i && tgB it t && noSet i && okG Z.M K Γ tg t && okB K { Z with Γb := mask0 m Γ, Γc := mask0 m Γ } (gG tg Γ) b body && leB Γ (gB K b (gG tg Γ)) m && leB Γ (mask0 m Γ) m) = true := h
      simp only [Bool.and_eq_true] at h
      obtain ⟨⟨⟨⟨⟨⟨h1, h1'⟩, h2⟩, h3⟩, h4⟩, h5⟩, h6⟩ := h
      obtain ⟨pi, hi⟩ := snd_I it i K Γ h1 bd
      exact ss_for (Γb := mask0 m Γ) (Γc := mask0 m Γ) s.toCtx s.pass (hi W Y s.toScp t h1') (snd_G tg t Z.M K Γ h3 bd W Y _ rfl s.toScp) (snd_B b body K _ _ h4 bd W Y s) (leB_le h5) (leB_le h6) (leB_le h6) (folded h2)
  | .ret e, st, K, Z, Γ, h, bd, W, Y, s => by
    cases st <;> first | (cases h; done) | skip
    rename_i v p
    cases v <;> first | (cases h; done) | skip
    rename_i v
    replace h : (okX false K Γ e v && (kd K Γ e).own && decide (Z.rl ≤ (kd K Γ e).lv) && leB Z.Γr Γ []) = true := h
    simp only [Bool.and_eq_true, decide_eq_true_eq] at h
    obtain ⟨⟨⟨h1, h2⟩, h3⟩, h4⟩ := h
    exact ss_ret (sx_low ((snd_X e v false K Γ h1 bd W Y s.toScp).1 rfl) h2 h3) fun i => leB_le h4 i (by simp)
  | .retv i, st, K, Z, Γ, h, bd, W, Y, s => by
    cases st <;> first | (cases h; done) | skip
    rename_i v p
    cases v <;> first | (cases h; done) | skip
    rename_i v
    cases v <;> first | (cases h; done) | skip
    rename_i x px
    replace h : (nm K i x && decide (Z.rl ≤ Γ.getD i 0) && leB Z.Γr Γ [i]) = true := h
    simp only [Bool.and_eq_true, decide_eq_true_eq] at h
    obtain ⟨g1, g2, g3, g4⟩ := nm_at s.toScp h.1.1
    exact ss_retv g1 g2 g3 g4 h.1.2 fun j hj => leB_le h.2 j (by simpa using hj)
  | .retn, st, K, Z, Γ, h, bd, W, Y, s => by
    cases st <;> first | (cases h; done) | skip
    rename_i v p
    cases v <;> first | (cases h; done) | skip
    replace h : leB Z.Γr Γ [] = true := h
    exact ss_retN fun i => leB_le h i (by simp)
  | .rai k as, st, K, Z, Γ, h, bd, W, Y, s => by
    cases as <;> first | exact ss_bad | skip
    rename_i a r
    cases r <;> first | exact ss_bad | skip
    replace h : raiB K Γ k a st = true := h
    unfold raiB at h
    split at h
    · rename_i x p0 e p1 p2
      simp only [Bool.and_eq_true, Bool.not_eq_true'] at h
      obtain ⟨⟨⟨⟨⟨h1, h2⟩, h3⟩, h4⟩, h5⟩, h6⟩ := h
      obtain ⟨⟨z1, z2⟩, qm, qe⟩ := List.any_eq_true.mp h3
      simp only [Bool.and_eq_true, decide_eq_true_eq] at qe
      obtain ⟨rfl, rfl⟩ := qe
      obtain ⟨C, c1, c2⟩ := bd.ex.nm _ _ qm
      obtain ⟨D0, f0, B, T⟩ := bd.ex.base _ _ c1
      refine SS.cong (ss_rai s.toCtx (D0 := D0) (f0 := f0) (C := C) (by rw [s.K, s.eP, s.emg]; exact B) (by rw [s.K]; exact T) (s.gl h1) (by rw [s.emg]; exact c2) (by have := s.room.r.dp; omega) c1 (((snd_X a e false K Γ h4 bd W Y s.toScp).1 rfl).fz h5) h2 (star_cons h6) rfl) fun ρ => rfl
    · cases h
  | .pas, st, K, Z, Γ, h, bd, W, Y, s => by
    cases st <;> first | (cases h; done) | skip
    exact ss_pass
  | .brk, st, K, Z, Γ, h, bd, W, Y, s => by
    cases st <;> first | (cases h; done) | skip
    replace h : leB Z.Γb Γ [] = true := h
    exact ss_lev ss_break fun i => leB_le h i (by simp)
  | .cnt, st, K, Z, Γ, h, bd, W, Y, s => by
    cases st <;> first | (cases h; done) | skip
    replace h : leB Z.Γc Γ [] = true := h
    exact ss_lev ss_continue fun i => leB_le h i (by simp)
  | .v _, _, _, _, _, h, _, _, _, _ => by cases h
  | .non, _, _, _, _, h, _, _, _, _ => by cases h
  | .tt, _, _, _, _, h, _, _, _, _ => by cases h
  | .ff, _, _, _, _, h, _, _, _, _ => by cases h
  | .int .., _, _, _, _, h, _, _, _, _ => by cases h
  | .str .., _, _, _, _, h, _, _, _, _ => by cases h
  | .bin .., _, _, _, _, h, _, _, _, _ => by cases h
  | .neg .., _, _, _, _, h, _, _, _, _ => by cases h
  | .not .., _, _, _, _, h, _, _, _, _ => by cases h
  | .and .., _, _, _, _, h, _, _, _, _ => by cases h
  | .or .., _, _, _, _, h, _, _, _, _ => by cases h
  | .cmp .., _, _, _, _, h, _, _, _, _ => by cases h
  | .ite .., _, _, _, _, h, _, _, _, _ => by cases h
  | .call .., _, _, _, _, h, _, _, _, _ => by cases h
  | .idx .., _, _, _, _, h, _, _, _, _ => by cases h
  | .tup .., _, _, _, _, h, _, _, _, _ => by cases h
  | .lst .., _, _, _, _, h, _, _, _, _ => by cases h
  | .lc .., _, _, _, _, h, _, _, _, _ => by cases h
  | .glob _, _, _, _, _, h, _, _, _, _ => by cases h
  | .fnv _, _, _, _, _, h, _, _, _, _ => by cases h
  | .atm _, _, _, _, _, h, _, _, _, _ => by cases h
  | .chain .., _, _, _, _, h, _, _, _, _ => by cases h
  | .isi .., _, _, _, _, h, _, _, _, _ => by cases h
  | .callk .., _, _, _, _, h, _, _, _, _ => by cases h
  | .callv .., _, _, _, _, h, _, _, _, _ => by cases h
  | .bi .., _, _, _, _, h, _, _, _, _ => by cases h
  | .biw .., _, _, _, _, h, _, _, _, _ => by cases h
  | .me .., _, _, _, _, h, _, _, _, _ => by cases h
  | .pop .., _, _, _, _, h, _, _, _, _ => by cases h
  | .slc .., _, _, _, _, h, _, _, _, _ => by cases h
  | .rev .., _, _, _, _, h, _, _, _, _ => by cases h
  | .dct .., _, _, _, _, h, _, _, _, _ => by cases h
  | .lc2 .., _, _, _, _, h, _, _, _, _ => by cases h
  | .dc .., _, _, _, _, h, _, _, _, _ => by cases h
  | .dc2 .., _, _, _, _, h, _, _, _, _ => by cases h
  | .tupo .., _, _, _, _, h, _, _, _, _ => by cases h
  | .lcw .., _, _, _, _, h, _, _, _, _ => by cases h
  | .attr .., _, _, _, _, h, _, _, _, _ => by cases h
  | .rng .., _, _, _, _, h, _, _, _, _ => by cases h
  | .enum .., _, _, _, _, h, _, _, _, _ => by cases h
  | .zip .., _, _, _, _, h, _, _, _, _ => by cases h
  | .items .., _, _, _, _, h, _, _, _, _ => by cases h
  | .vals .., _, _, _, _, h, _, _, _, _ => by cases h
  | .rvd .., _, _, _, _, h, _, _, _, _ => by cases h
  | .wlk .., _, _, _, _, h, _, _, _, _ => by cases h
  | .nil, _, _, _, _, h, _, _, _, _ => by cases h
  | .cons .., _, _, _, _, h, _, _, _, _ => by cases h
  | .mov j i, st, K, Z, Γ, h, bd, W, Y, s => by
    cases st <;> first | (cases h; done) | skip
    rename_i ts v p
    match ts, v, h with
    | [.Name y p1], .Name x p0, h =>
      replace h : (nmL K Z.M Γ j y && nm K i x) = true := h
      rw [Bool.and_eq_true] at h
      obtain ⟨g1, g2, g3, g4⟩ := nm_at s.toScp h.2
      exact ss_mov (nmL_at (Z := Z) s.toScp h.1 rfl) g1 g2 g3 g4
  | .aug .., _, _, _, _, h, _, _, _, _ => by cases h
  | .app o e, st, K, Z, Γ, h, bd, W, Y, s => by
    cases st <;> first | (cases h; done) | skip
    rename_i v p
    replace h : appB K Γ o e v = true := h
    unfold appB at h
    split at h
    · rename_i x p0 a apos v cpos
      split at h
      · rename_i i
        simp only [Bool.and_eq_true, decide_eq_true_eq] at h
        obtain ⟨⟨⟨⟨⟨⟨h1, rfl⟩, h3⟩, h4⟩, h5⟩, h6⟩, h7⟩ := h
        obtain ⟨g1, g2, g3, g4⟩ := nm_at s.toScp h1
        have ie := sx_low ((snd_X e v false K Γ h4 bd W Y s.toScp).1 rfl) h5 h3.2
        exact ss_appN s.toCtx g1 g2 g3 g4 (by have := h3.1; omega) ie rfl (by rw [star_cons h6]; rfl) h7 (star_cons h6) rfl rfl
      · cases h
    · cases h
  | .ins .., _, _, _, _, h, _, _, _, _ => by cases h
  | .upd .., _, _, _, _, h, _, _, _, _ => by cases h
  | .whl t b m, st, K, Z, Γ, h, bd, W, Y, s => by
    cases st <;> first | (cases h; done) | skip
    rename_i x body els p
    match els, h with
    | _ :: _, h => cases h
    | [], h =>
      replace h : (okX true K Γ t x && okB K { Z with Γb := mask0 m Γ, Γc := mask0 m Γ } Γ b body && leB Γ (gB K b Γ) m && leB Γ (mask0 m Γ) m) = true := h
      simp only [Bool.and_eq_true] at h
      obtain ⟨⟨⟨h1, h2⟩, h3⟩, h4⟩ := h
      have it := ((snd_X t x true K Γ h1 bd W Y s.toScp).2 rfl).1
      exact ss_whl (Γb := mask0 m Γ) (Γc := mask0 m Γ) s.pass it (snd_B b body K _ _ h2 bd W Y s) (leB_le h3) (leB_le h4) (leB_le h4)
  | .try b kc i hd m, st, K, Z, Γ, h, bd, W, Y, s => by
    cases st <;> first | (cases h; done) | skip
    rename_i body hh els fin p
    match els, fin, h with
    | _ :: _, _, h => cases h
    | [], _ :: _, h => cases h
    | [], [], h =>
      replace h : (tryB K Z Γ kc i hd m hh && okB K { Z with M := fun l => m.contains l } Γ b body) = true := h
      simp only [Bool.and_eq_true] at h
      obtain ⟨h1, h2⟩ := h
      unfold tryB at h1
      split at h1
      · rename_i j i' x px n y py n' pn ap ph
        simp only [Bool.and_eq_true, Bool.not_eq_true', decide_eq_true_eq] at h1
        obtain ⟨⟨⟨⟨⟨⟨⟨⟨⟨⟨⟨⟨⟨rfl, rfl⟩, q3⟩, q4⟩, q5⟩, q6⟩, q7⟩, q8⟩, q8'⟩, q9⟩, q10⟩, q11⟩, q12⟩, q13⟩ := h1
        obtain ⟨⟨z1, z2⟩, qm, qe⟩ := List.any_eq_true.mp q11
        simp only [Bool.and_eq_true, decide_eq_true_eq] at qe
        obtain ⟨rfl, rfl⟩ := qe
        obtain ⟨C, c1, c2⟩ := bd.ex.nm _ _ qm
        have ni := nmL_at (Z := Z) s.toScp q3 rfl
        have nj := nmL_at (Z := Z) s.toScp q4 rfl
        refine SS.cong (ss_try (kc := z2) (Γ' := Γ.map fun _ => 0) s.toCtx s.hs s.hf s.hex ni nj q5 ((s.hk _).trans q6) ((s.hk _).trans q7) q8' q8 ⟨s.gl q9, q10, .inl (by rw [s.emg]; exact c2)⟩ (fun l hl => List.all_eq_true.mp q12 l hl) (fun l hl => ?_) (fun l => ?_) (fun k C' hk => ?_)
          (fun W' pn xe tk pass => snd_B b body K _ Γ h2 bd W' (Y.tr pn xe) ?_)) fun ρ => ?_
        · by_cases hlt : l < Γ.length
          · have := range_all q13 hlt
            rw [Bool.or_eq_true] at this
            rcases this with z | z
            · exact absurd (by simpa using z) hl
            · exact beq_iff_eq.mp z
          · exact getD_out hlt
        · exact map0_getD Γ l
        · rw [s.K]; exact (bd.ex.rel k C' _ C hk c1).2
        · exact ⟨⟨⟨s.K, tk, s.hu, s.calm, s.gd, s.dg, s.sm⟩, s.eP, s.ew, s.emg, s.ebase, s.room, s.eN, s.nd, s.look, s.fn, pass⟩, s.hk, s.hb, s.hs, s.hf, s.hex⟩
        · exact try_eq
      · cases h1
  | .frz .., _, _, _, _, h, _, _, _, _ => by cases h
  | .mask .., _, _, _, _, h, _, _, _, _ => by cases h
theorem snd_B : ∀ (t : T) (sts : List Stmt) (K : Ck) (Z : Zd) (Γ : List Nat), okB K Z Γ t sts = true → Bd c P w mg base k K.N K.t C → ∀ W Y, ScpS c P w mg base k K.N K.sc W Y → SSs c W Z Γ (gB K t Γ) Y sts (evB C t)
  | .nil, sts, K, Z, Γ, h, bd, W, Y, s => by
    cases sts with
    | nil => exact ss_nil
    | cons e es => cases h
  | .cons a b, sts, K, Z, Γ, h, bd, W, Y, s => by
    cases sts with
    | nil => cases h
    | cons st sts =>
      replace h : (okS K Z Γ a st && okB K Z (gS K a Γ) b sts) = true := h
      simp only [Bool.and_eq_true] at h
      exact ss_cons (snd_S a st K Z Γ h.1 bd W Y s) (snd_B b sts K Z (gS K a Γ) h.2 bd W Y s)
  | .v _, _, _, _, _, h, _, _, _, _ => by cases h
  | .non, _, _, _, _, h, _, _, _, _ => by cases h
  | .tt, _, _, _, _, h, _, _, _, _ => by cases h
  | .ff, _, _, _, _, h, _, _, _, _ => by cases h
  | .int .., _, _, _, _, h, _, _, _, _ => by cases h
  | .str .., _, _, _, _, h, _, _, _, _ => by cases h
  | .bin .., _, _, _, _, h, _, _, _, _ => by cases h
  | .neg .., _, _, _, _, h, _, _, _, _ => by cases h
  | .not .., _, _, _, _, h, _, _, _, _ => by cases h
  | .and .., _, _, _, _, h, _, _, _, _ => by cases h
  | .or .., _, _, _, _, h, _, _, _, _ => by cases h
  | .cmp .., _, _, _, _, h, _, _, _, _ => by cases h
  | .ite .., _, _, _, _, h, _, _, _, _ => by cases h
  | .call .., _, _, _, _, h, _, _, _, _ => by cases h
  | .idx .., _, _, _, _, h, _, _, _, _ => by cases h
  | .tup .., _, _, _, _, h, _, _, _, _ => by cases h
  | .lst .., _, _, _, _, h, _, _, _, _ => by cases h
  | .lc .., _, _, _, _, h, _, _, _, _ => by cases h
  | .glob _, _, _, _, _, h, _, _, _, _ => by cases h
  | .fnv _, _, _, _, _, h, _, _, _, _ => by cases h
  | .atm _, _, _, _, _, h, _, _, _, _ => by cases h
  | .chain .., _, _, _, _, h, _, _, _, _ => by cases h
  | .isi .., _, _, _, _, h, _, _, _, _ => by cases h
  | .callk .., _, _, _, _, h, _, _, _, _ => by cases h
  | .callv .., _, _, _, _, h, _, _, _, _ => by cases h
  | .bi .., _, _, _, _, h, _, _, _, _ => by cases h
  | .biw .., _, _, _, _, h, _, _, _, _ => by cases h
  | .me .., _, _, _, _, h, _, _, _, _ => by cases h
  | .pop .., _, _, _, _, h, _, _, _, _ => by cases h
  | .slc .., _, _, _, _, h, _, _, _, _ => by cases h
  | .rev .., _, _, _, _, h, _, _, _, _ => by cases h
  | .dct .., _, _, _, _, h, _, _, _, _ => by cases h
  | .lc2 .., _, _, _, _, h, _, _, _, _ => by cases h
  | .dc .., _, _, _, _, h, _, _, _, _ => by cases h
  | .dc2 .., _, _, _, _, h, _, _, _, _ => by cases h
  | .tupo .., _, _, _, _, h, _, _, _, _ => by cases h
  | .lcw .., _, _, _, _, h, _, _, _, _ => by cases h
  | .attr .., _, _, _, _, h, _, _, _, _ => by cases h
  | .rng .., _, _, _, _, h, _, _, _, _ => by cases h
  | .enum .., _, _, _, _, h, _, _, _, _ => by cases h
  | .zip .., _, _, _, _, h, _, _, _, _ => by cases h
  | .items .., _, _, _, _, h, _, _, _, _ => by cases h
  | .vals .., _, _, _, _, h, _, _, _, _ => by cases h
  | .rvd .., _, _, _, _, h, _, _, _, _ => by cases h
  | .wlk .., _, _, _, _, h, _, _, _, _ => by cases h
  | .asg .., _, _, _, _, h, _, _, _, _ => by cases h
  | .mov .., _, _, _, _, h, _, _, _, _ => by cases h
  | .par .., _, _, _, _, h, _, _, _, _ => by cases h
  | .aug .., _, _, _, _, h, _, _, _, _ => by cases h
  | .app .., _, _, _, _, h, _, _, _, _ => by cases h
  | .ins .., _, _, _, _, h, _, _, _, _ => by cases h
  | .upd .., _, _, _, _, h, _, _, _, _ => by cases h
  | .exp .., _, _, _, _, h, _, _, _, _ => by cases h
  | .sif .., _, _, _, _, h, _, _, _, _ => by cases h
  | .whl .., _, _, _, _, h, _, _, _, _ => by cases h
  | .for .., _, _, _, _, h, _, _, _, _ => by cases h
  | .ret .., _, _, _, _, h, _, _, _, _ => by cases h
  | .retv .., _, _, _, _, h, _, _, _, _ => by cases h
  | .retn, _, _, _, _, h, _, _, _, _ => by cases h
  | .rai .., _, _, _, _, h, _, _, _, _ => by cases h
  | .try .., _, _, _, _, h, _, _, _, _ => by cases h
  | .pas, _, _, _, _, h, _, _, _, _ => by cases h
  | .brk, _, _, _, _, h, _, _, _, _ => by cases h
  | .cnt, _, _, _, _, h, _, _, _, _ => by cases h
  | .frz .., _, _, _, _, h, _, _, _, _ => by cases h
  | .mask .., _, _, _, _, h, _, _, _, _ => by cases h
end
end
end Pz
end
section
set_option Elab.async false
set_option linter.all false
/-! All defs of a text keep the promises that the evaluator tells. -/
namespace Pz
open PySem PySem.Spec PyProof.Rows L2

/-- a def: its place in the text, its IR, its slots' names -/
structure DfI where
  x : Str
  params : Arguments
  body : List Stmt
  scope : Scope
  fi : Fi
  f : Fn
  N : List Str
  ps : List Str
  mv : List Nat
def DfI.ck (d : DfI) (t : Tb) : Ck := ⟨d.N, d.scope.names, t, d.mv⟩
def scopeB (N ps : List Str) (sc : Scope) : Bool := decide (sc.kind = .function) && !sc.isCoroutine && !sc.isGenerator && decide N.Nodup && decide (N.take ps.length = ps) &&
  (ps.all fun x => locB sc.names x) && sc.names.all fun y => decide (y.2 ≠ .free)
theorem scopeB_ok {N ps : List Str} {sc : Scope} (h : scopeB N ps sc = true) : FnScope N ps sc := by
  unfold scopeB at h
  simp only [Bool.and_eq_true, decide_eq_true_eq, Bool.not_eq_true'] at h
  obtain ⟨⟨⟨⟨⟨⟨h1, h2⟩, h3⟩, h4⟩, h5⟩, h6⟩, h7⟩ := h
  refine ⟨h1, h2, h3, h4, h5, fun x hx => ?_, fun y hy => by simpa using List.all_eq_true.mp h7 y hy⟩
  have := List.all_eq_true.mp h6 x hx
  unfold locB at this
  split at this
  · rename_i e; exact .inl e
  · rename_i e; exact .inr e
  · cases this
def DfI.ok (d : DfI) (t : Tb) : Bool :=
  scopeB d.N d.ps d.scope && decide (d.N.length = d.f.ns) && decide (d.ps.length = d.f.np) && decide (d.f.np ≤ d.f.ns) && decide (d.fi.np = d.f.np) && decide (d.fi.io = d.f.io) &&
  (match d.f.io with | [] => true | [j] => decide (j < d.f.np) | _ => false) &&
  (d.f.io.all fun j => decide ((gB (d.ck t) d.f.body (lev0 d.fi.sg d.f.ns)).getD j 0 = d.fi.sg.pl.getD j 0)) &&
  okB (d.ck t) (Z0 d.f d.fi.sg) (lev0 d.fi.sg d.f.ns) d.f.body d.body
section
variable {c : Cf} {P : Program} {w : World} {mg : Str → Option Value} {base : Heap} {Pg : Prog} {ds : List DfI} {t : Tb}
/-- where a def stands -/
def Stands (c : Cf) (kwl : KwL) (mg : Str → Option Value) (d : DfI) (ad : Addr) (fd : FuncData) : Prop := FunD c.X.K d.x d.x d.params d.body d.scope [] [] ad fd ∧ mg d.x = some (.ref ad) ∧ Binds c.X.K fd d.ps [] ∧ ∀ n ks pm, (d.x, n, ks, pm) ∈ kwl → KwB fd d.ps n ks pm
theorem pl0_ok {fi : Fi} (h : pl0 fi = true) : fi.io = [] ∧ ∀ i, fi.sg.pl.getD i 0 = 0 := by
  unfold pl0 at h
  simp only [Bool.and_eq_true] at h
  refine ⟨by simpa using h.1, fun i => ?_⟩
  by_cases hi : i < fi.sg.pl.length
  · have := range_all h.2 hi
    exact beq_iff_eq.mp this
  · exact getD_out hi
theorem run_len {n f : Nat} {F : Fn} {ds : List D} (h : Pg.fn f = some F) (hl : ds.length ≠ F.np) : run Pg n f ds = bad := by
  cases n with
  | zero => rfl
  | succ n =>
    show (optR (Pg.fn f)).bind _ = _
    rw [h]
    show (if ds.length = F.np then _ else _) = _
    rw [if_neg hl]
theorem all_ok (hnd : base.NoDigits) (hsm : SmOk base) (hex : ErrT c P mg t.ex) (hfa : ∀ f ad, c.X.fa f = some ad → ∃ d ∈ ds, d.fi.id = f ∧ pl0 d.fi = true ∧ ∃ fd, Stands c t.kwl mg d ad fd) (hfb : ∀ d ∈ ds, pl0 d.fi = true → ∃ ad, c.X.fa d.fi.id = some ad ∧ mg d.x = some (.ref ad)) (hds : ∀ d ∈ ds, ∃ ad fd, Stands c t.kwl mg d ad fd) (hchk : ∀ d ∈ ds, d.ok t = true) (hfn : ∀ d ∈ ds, Pg.fn d.fi.id = some d.f) (hfns : ∀ x fi, (x, fi) ∈ t.fns → ∃ d ∈ ds, d.x = x ∧ d.fi = fi) (hbl : ∀ x ∈ t.bl, mg x = none)
    (hgl : ∀ x g d, (x, g, d) ∈ t.gl → Pg.glob g = d ∧ ((∃ i tk, d = .int i ∧ mg x = some (.int i tk)) ∨ ∃ z tk, d = .str z ∧ mg x = some (.str ⟨z.toArray⟩ tk))) :
    ∀ n, ∀ d ∈ ds, ∀ ad fd, Stands c t.kwl mg d ad fd → FnG P w c.X.K mg base (L2.CX P w) n ad fd d.ps (spF c d.f.np d.f.io d.fi.sg (run Pg n d.fi.id))
  | 0, d, hd, ad, fd, hs => by
    refine ⟨fun vs H Q E ⟨F, A, dd, _, _, _, z⟩ => z.elim, fun A outer s H args us vs Q E _ _ _ _ ⟨F, A0, dd, _, _, _, z⟩ => z.elim⟩
  | n + 1, d, hd, ad, fd, hs => by
    have ih := all_ok hnd hsm hex hfa hfb hds hchk hfn hfns hbl hgl n
    have hc := hchk d hd
    unfold DfI.ok at hc
    simp only [Bool.and_eq_true, decide_eq_true_eq] at hc
    obtain ⟨⟨⟨⟨⟨⟨⟨⟨h1, h2⟩, h3⟩, h4⟩, h5⟩, h6⟩, h7⟩, h8⟩, h9⟩ := hc
    obtain ⟨oc, od, dV, kV, doc, pm, an, cdv, ct, osl, rfl, lk, hcd, _, _⟩ := hs.1.ex
    have bd : Bd c P w mg base n d.N t { call := run Pg n, glob := Pg.glob, fuel := FUEL } := by
      refine ⟨fun x fi hx W Y sc s => ?_, hbl, hex, fun W Y sc s => ⟨fun f ad hf => ?_⟩, fun x fi hx hp => ?_, hgl⟩
      rotate_left
      · obtain ⟨d2, hd2, rfl, hp2, fd2, hs2⟩ := hfa f ad hf
        have hc2 := hchk d2 hd2
        unfold DfI.ok at hc2
        simp only [Bool.and_eq_true, decide_eq_true_eq] at hc2
        have F2 := ih d2 hd2 ad fd2 hs2
        obtain ⟨p1, p2⟩ := pl0_ok hp2
        have e1 : d2.f.io = [] := by rw [← hc2.1.1.1.2]; exact p1
        rw [e1] at F2
        refine ⟨n, fd2, d2.ps, d2.f.np, d2.fi.sg, ?_, s.room, by rw [s.K]; exact hs2.1.kp, by rw [s.K]; exact hs2.2.2.1, p2, fun l hl => run_len (hfn d2 hd2) hl⟩
        rw [s.eP, s.ew, s.K, s.emg, s.ebase]
        exact F2
      · obtain ⟨d2, hd2, rfl, rfl⟩ := hfns x fi hx
        exact hfb d2 hd2 hp
      obtain ⟨d2, hd2, rfl, rfl⟩ := hfns x fi hx
      obtain ⟨ad2, fd2, hs2⟩ := hds d2 hd2
      have hc2 := hchk d2 hd2
      unfold DfI.ok at hc2
      simp only [Bool.and_eq_true, decide_eq_true_eq] at hc2
      have F2 := ih d2 hd2 ad2 fd2 hs2
      refine ⟨n, ad2, fd2, d2.ps, ?_, s.room, by rw [s.emg]; exact hs2.2.1, by rw [s.K]; exact hs2.1.kp, by rw [s.K]; exact hs2.2.2.1, hs2.2.2.2⟩
      rw [s.eP, s.ew, s.K, s.emg, s.ebase, hc2.1.1.1.1.2, hc2.1.1.1.2]
      exact F2
    have key := fn_ok (c := c) (P := P) (w := w) (mg := mg) (base := base) (k := n) (f := d.f) (sg := d.fi.sg) (C := { call := run Pg n, glob := Pg.glob, fuel := FUEL }) (fb := evB _ d.f.body) lk hcd (scopeB_ok h1) h2 h3 ?_ h4 hnd hsm (Γe := gB (d.ck t) d.f.body (lev0 d.fi.sg d.f.ns))
      (fun j hj => by simpa using List.all_eq_true.mp h8 j hj) rfl fun W Y s hk hb hs hf hx => snd_B d.f.body d.body (d.ck t) (Z0 d.f d.fi.sg) _ h9 bd W Y ⟨s, hk, hb, hs, hf, hx⟩
    · refine key.imp fun vs H Q E ⟨F, A, dd, g1, g2, g3, g4⟩ => ⟨F, A, dd, g1, g2, g3, ?_⟩
      have e : run Pg (n + 1) d.fi.id dd = runFn { call := run Pg n, glob := Pg.glob, fuel := FUEL } d.f dd := by
        show (optR (Pg.fn d.fi.id)).bind _ = _
        rw [hfn d hd]; rfl
      rw [← e]; exact g4
    · split at h7
      · rename_i e; exact .inl e
      · rename_i j e; exact .inr ⟨j, e, by simpa using h7⟩
      · cases h7
/-- the law: its promise at a script -/
theorem law_sp {sg : Sg} {call : D → List D → R (D × List D)} {f : List D → R (D × List D)} {H : Hp} {a : Addr} {ns : List Int} (hsg : sg.pl.getD 0 0 = 0) (hS : SqL c.X.K H a (ns.map V.int)) (h : f [.lst (ns.map D.int)] = .ok (.bl true, [])) :
    spF c 1 [] sg f [.ref a] H (fun v _ => v = .bl true) fun _ _ _ => False := by
  refine ⟨H, fun _ => [], [.lst (ns.map D.int)], rfl, rfl, ⟨Sub.refl _, rfl, fun i d hi => ?_, fun _ _ => rfl, fun _ => List.nodup_nil, fun _ _ _ _ z => absurd z (by simp)⟩, ?_⟩
  · have hi := map_some_get hi
    cases i with
    | zero =>
      cases hi
      refine ⟨.ref a, rfl, ?_⟩
      rw [hsg]
      refine ⟨rfl, .lst (ns.map fun n => (V.int n, D.int n)) (by rw [List.map_map]; rfl) (by rw [List.map_map]; exact hS) fun p hp => ?_⟩
      obtain ⟨n, _, rfl⟩ := List.mem_map.mp hp
      exact .int n
    | succ i => cases i <;> cases hi
  · rw [h]
    exact fun v H' F' A' B _ _ _ o _ _ => o.bl_eq
end
end Pz
end
section
set_option Elab.async false
set_option linter.all false
set_option maxRecDepth 100000
/-! What the head tells of the own errors. -/
namespace Pz
open PySem PySem.Spec PyProof.Rows L2

/-- where the base's __init__ stands in the text -/
structure EbD where
  l : Nat
  a1 : Pos
  a2 : Pos
  p0 : Pos
  p1 : Pos
  p3 : Pos
  p5 : Pos
  q1 : Pos
  q2 : Pos
  q3 : Pos
  q4 : Pos
def ebC (K : PySem.W.Frag) : Addr := He.ga K "PuzzleError"
def ebF (K : PySem.W.Frag) : Addr := He.ma K (ebC K) "__init__"
abbrev IniV : Type := Option (Arguments × FuncBody × Scope × Addr × Value × Addr)
def iniV (eb : Option EbD) (K : PySem.W.Frag) : IniV := match eb with
  | none => none
  | some _ => match K.lookup (ebF K) with
    | some ⟨_, _, .func fd, _⟩ => some (fd.params, fd.body, fd.scope, fd.globals, fd.defaults, fd.builtins)
    | _ => none
def valI (eb : Option EbD) : IniV := eb.map fun b => (errArgs b.a1 b.a2, .stmts (errBody b.l b.p0 b.p1 b.p3 b.p5 b.q1 b.q2 b.q3 b.q4), errScope, mainGlobals, .none, builtinsNs)
def fileB (file : Str) : Obj → Bool
  | ⟨_, _, .fields vs, _⟩ => (match (vs[2]? : Option Value) with | some (Value.str fl _) => decide (file = fl) | _ => false)
  | _ => false
def cellB (D : Addr) : Obj → Bool
  | ⟨_, _, .cell (some (.ref D')), _⟩ => decide (D' = D)
  | _ => false
/-- the __init__'s code and cell -/
def iniB (file : Str) (K : PySem.W.Frag) : Bool := match K.lookup (ebF K) with
  | some ⟨_, _, .func fd, _⟩ => (match fd.code, fd.closure with
    | .ref cda, [(x, cc)] => decide (x = "__class__") && PySem.W.codeIn K (.ref cda) fd.qualname && (match K.lookup cda with | some o => fileB file o | none => false) && (match K.lookup cc with | some o => cellB (ebC K) o | none => false)
    | _, _ => false)
  | _ => false
/-- a class object as the rules want it -/
def shapeB (C : Addr) : Obj → Bool
  | ⟨.type t, _, .cls cd, sl⟩ => (match cd.mro, sl.toList with
    | .ref C' :: bm, [_, _, _, _, some (.builtin n), _] => decide (t = "type") && decide (C' = C) && decide (n = "ValueError.__new__") && !cd.hasDel && cd.hasDict && PySem.HandSPX.refsVE bm
    | _, _ => false)
  | _ => false
def dO (a b : Option (Option Value)) : Bool := decide (a = b)
def clsB (K : PySem.W.Frag) (C : Addr) : Bool :=
  (match K.lookup C with | some o => shapeB C o | none => false) && dO (PySem.W.findIn K (.ref C) "__setattr__") (some (some (.builtin "object.__setattr__"))) && decide (PySem.W.typeIn K (.ref C) = some (.type "type")) && PySem.W.keepIn K (.ref C) &&
  dO (PySem.W.findIn K (.ref C) "__init__") (some (some (.ref (ebF K)))) && decide (PySem.W.typeIn K (.ref (ebF K)) = some (.type "function")) && dO (PySem.W.ks_superIn K C (ebC K) "__init__") (some (some (.builtin "ValueError.__init__"))) &&
  decide (PySem.W.mroIn K C (.ref (ebC K)) = some true) && decide (PySem.W.subIn K (.ref C) (.type "ValueError") = some true) && dO (PySem.W.findIn K (.ref C) "value") (some none) && xfB K C && (PySem.W.clsIn K C).isSome &&
  dO (PySem.W.findIn K (.ref C) "__class__") (some (some (.builtin "object.__class__"))) && dO (PySem.W.specialIn K (.builtin "object.__class__") "__get__") (some (some (.builtin "getset_descriptor.__get__"))) && decide (PySem.W.takesIn K (.builtin "object.__class__") = some true) &&
  decide (PySem.W.mroIn K C (.type "object") = some true)
def plainTs : List String := ["NoneType", "bool", "int", "str", "list", "tuple", "dict"]
/-- all that is told of the classes ex -/
def errAll (file : Str) (ex : List (Str × Nat)) (K : PySem.W.Frag) : Bool := (
  (PySem.W.clsIn K (ebC K)).isSome && dO (PySem.W.nsIn K cStatics "thirdparty.any") (some none) && iniB file K &&
  ex.all fun p => dO (PySem.W.nsIn K mainGlobals p.1) (some (some (.ref (He.ga K p.1)))) && clsB K (He.ga K p.1) &&
    (plainTs.all fun t => decide (PySem.W.kitOne K (.type t) (.ref (He.ga K p.1)) = some false)) &&
    ex.all fun q => decide (PySem.W.kitOne K (.ref (He.ga K p.1)) (.ref (He.ga K q.1)) = some (q.2 == 0 || q.2 == p.2)) && decide (PySem.W.exmOne K (.ref (He.ga K p.1)) (.ref (He.ga K q.1)) = some (q.2 == 0 || q.2 == p.2)))
def errOk (file : Str) (ex : List (Str × Nat)) (K : PySem.W.Frag) : Bool := ex.isEmpty || errAll file ex K
def SaysE (file : Str) (eb : Option EbD) (ex : List (Str × Nat)) (K : PySem.W.Frag) : Prop := errOk file ex K = true ∧ iniV eb K = valI eb
/-- the class's place -/
def caOf (ex : List (Str × Nat)) (K : PySem.W.Frag) : Nat → Option Addr := fun k => (ex.find? fun p => p.2 == k).map fun p => He.ga K p.1

section
variable {K : PySem.W.Frag} {C : Addr} {file : Str} {eb : Option EbD} {ex : List (Str × Nat)}
theorem shape_ok {o : Obj} (h : shapeB C o = true) : ∃ nm q N bs bm sn sub ab col dd k0 k1 k2 k3 k5, o = excClassObj nm q C N bs bm true sn sub ab col dd k0 k1 k2 k3 k5 "ValueError.__new__" ∧ PySem.HandSPX.refsVE bm = true := by
  obtain ⟨oc, od, da, sl⟩ := o
  cases oc <;> first | (cases h; done) | skip
  rename_i t
  cases da <;> first | (cases h; done) | skip
  rename_i cd
  obtain ⟨nm, bs, mro, ns, qn, hd, sn, sub, ab, col, del⟩ := cd
  unfold shapeB at h
  dsimp only at h
  split at h
  · rename_i C' bm k0 k1 k2 k3 n k5 hs
    simp only [Bool.and_eq_true, decide_eq_true_eq, Bool.not_eq_true'] at h
    obtain ⟨⟨⟨⟨⟨rfl, rfl⟩, rfl⟩, h4⟩, h5⟩, h6⟩ := h
    subst h4 h5
    have hsl : sl = #[k0, k1, k2, k3, some (.builtin "ValueError.__new__"), k5] := by
      obtain ⟨l⟩ := sl
      simp only at hs
      rw [hs]
    subst hsl
    exact ⟨nm, qn, ns, bs, bm, sn, sub, ab, col, od, k0, k1, k2, k3, k5, rfl, h6⟩
  · cases h
theorem dO_ok {a b : Option (Option Value)} (h : dO a b = true) : a = b := of_decide_eq_true h
theorem cls_okB (h : clsB K C = true) : ErrC K (ebC K) (ebF K) C ∧ XCl K C := by
  unfold clsB at h
  simp only [Bool.and_eq_true, decide_eq_true_eq] at h
  obtain ⟨⟨⟨⟨⟨⟨⟨⟨⟨⟨⟨⟨⟨⟨⟨h1, h2⟩, h3⟩, h4⟩, h5⟩, h6⟩, h7⟩, h8⟩, h9⟩, h10⟩, h11⟩, h12⟩, h13⟩, h14⟩, h15⟩, h16⟩ := h
  have xf := xfB_ok h11
  refine ⟨⟨⟨?_, dO_ok h2, xf.exC, h3, h4⟩, dO_ok h5, h6, dO_ok h7, h8, h9, dO_ok h10⟩, xf, dO_ok h10, h12, dO_ok h13, dO_ok h14, h15, h16⟩
  cases e : K.lookup C with
  | none => rw [e] at h1; cases h1
  | some o =>
    rw [e] at h1
    obtain ⟨nm, q, N, bs, bm, sn, sub, ab, col, dd, k0, k1, k2, k3, k5, e2, e3⟩ := shape_ok h1
    exact ⟨nm, q, N, bs, bm, sn, sub, ab, col, dd, k0, k1, k2, k3, k5, by rw [e2], e3⟩

theorem ini_ok {file : Str} {eb : EbD} (h : iniB file K = true) (e : iniV (some eb) K = valI (some eb)) (hl : eb.l = 5 ∨ eb.l = 8) {prog : Program} (hf : prog.main.file = file) :
    ∃ oc od osl name qual kV doc pm an ct cda cc a1 a2 l p0 p1 p3 p5 q1 q2 q3 q4, (l = 5 ∨ l = 8) ∧ K.lookup (ebF K) = some ⟨oc, od, .func (PySem.W.ksFn name qual (errArgs a1 a2) (errBody l p0 p1 p3 p5 q1 q2 q3 q4) errScope .none kV doc pm an (.ref cda) ct cc), osl⟩ ∧ PySem.W.codeIn K (.ref cda) qual = true ∧
    (∃ ccl cdd vs ccs fl tf, K.lookup cda = some ⟨ccl, cdd, .fields vs, ccs⟩ ∧ vs[2]? = some (.str fl tf) ∧ ((prog.main.file : Str) == fl) = true) ∧
    ∃ cl cld csl, K.lookup cc = some ⟨cl, cld, .cell (some (.ref (ebC K))), csl⟩ := by
  unfold iniB at h
  unfold iniV at e
  dsimp only at e
  cases q : K.lookup (ebF K) with
  | none => rw [q] at h; cases h
  | some o =>
    obtain ⟨oc, od, da, osl⟩ := o
    rw [q] at h e
    cases da <;> first | (cases h; done) | skip
    rename_i fd
    obtain ⟨n1, n2, n3, n4, n5, n6, n7, n8, n9, n10, n11, n12, n13, n14, n15⟩ := fd
    dsimp only at h e
    simp only [valI, Option.map_some, Option.some.injEq, Prod.mk.injEq] at e
    obtain ⟨rfl, rfl, rfl, rfl, rfl, rfl⟩ := e
    split at h
    · rename_i cda x cc
      simp only [Bool.and_eq_true, decide_eq_true_eq] at h
      obtain ⟨⟨⟨rfl, h2⟩, h3⟩, h4⟩ := h
      refine ⟨oc, od, osl, n1, n2, n9, n10, n11, n12, n14, cda, cc, eb.a1, eb.a2, eb.l, eb.p0, eb.p1, eb.p3, eb.p5, eb.q1, eb.q2, eb.q3, eb.q4, hl, rfl, h2, ?_, ?_⟩
      · cases q2 : K.lookup cda with
        | none => rw [q2] at h3; cases h3
        | some o =>
          obtain ⟨c1, c2, da, c3⟩ := o
          rw [q2] at h3
          cases da <;> first | (cases h3; done) | skip
          rename_i vs
          replace h3 : (match (vs[2]? : Option Value) with | some (Value.str fl _) => decide (file = fl) | _ => false) = true := h3
          split at h3
          · rename_i fl tf e2
            exact ⟨c1, c2, vs, c3, fl, tf, rfl, e2, by rw [hf, of_decide_eq_true h3]; exact beq_self_eq_true _⟩
          · cases h3
      · cases q2 : K.lookup cc with
        | none => rw [q2] at h4; cases h4
        | some o =>
          obtain ⟨c1, c2, da, c3⟩ := o
          rw [q2] at h4
          cases da <;> first | (cases h4; done) | skip
          rename_i v
          cases v with
          | none => cases h4
          | some v =>
            cases v <;> first | (cases h4; done) | skip
            have e2 := of_decide_eq_true h4
            subst e2
            exact ⟨c1, c2, c3, rfl⟩
    · cases h
theorem tn_mem {d : D} (h : tyOk d = true) : tnD d ∈ plainTs := by
  cases d <;> first | (cases h; done) | (simp [tnD, plainTs])
theorem errT_of {c : Cf} {P : Program} {mg : Str → Option Value} {h : Heap} {eb : EbD} (hK : c.X.K = K) (hca : c.X.ca = caOf ex K) (X : K.In h) (G : h.Ns mainGlobals mg) (s : SaysE file (some eb) ex K) (hl : eb.l = 5 ∨ eb.l = 8) (hf : P.main.file = file)
    (ht : (P.main.scope.names.lookup ("super" : Str)).isSome = false) (hsup : mg "super" = none) (hnd : (ex.map (·.2)).Nodup) : ErrT c P mg ex := by
  subst hK
  obtain ⟨s1, s2⟩ := s
  have fact : ∀ k C, c.X.ca k = some C → ∃ p ∈ ex, p.2 = k ∧ C = He.ga c.X.K p.1 := fun k C e => by
    rw [hca] at e
    obtain ⟨p, e1, rfl⟩ := Option.map_eq_some_iff.mp e
    exact ⟨p, List.mem_of_find?_eq_some e1, by simpa using List.find?_some e1, rfl⟩
  have back : ∀ p ∈ ex, c.X.ca p.2 = some (He.ga c.X.K p.1) := fun p hp => by
    rw [hca]
    show (ex.find? _).map _ = _
    cases e : ex.find? (fun q => q.2 == p.2) with
    | none => exact absurd (List.find?_eq_none.mp e p hp) (by simp)
    | some q =>
      have e2 : q.2 = p.2 := by simpa using List.find?_some e
      have : q = p := by
        obtain ⟨i, hi, rfl⟩ := List.getElem_of_mem (List.mem_of_find?_eq_some e)
        obtain ⟨j, hj, rfl⟩ := List.getElem_of_mem hp
        have := (List.getElem_inj (xs := ex.map (·.2)) (h₀ := by simpa using hi) (h₁ := by simpa using hj) hnd).mp (by rw [List.getElem_map, List.getElem_map, e2])
        subst this; rfl
      rw [this]; rfl
  have all : ∀ p ∈ ex, errAll file ex c.X.K = true := fun p hp => by
    unfold errOk at s1
    rw [Bool.or_eq_true] at s1
    rcases s1 with z | z
    · rw [List.isEmpty_iff] at z; rw [z] at hp; cases hp
    · exact z
  have cl : ∀ p ∈ ex, PySem.W.nsIn c.X.K mainGlobals p.1 = some (some (.ref (He.ga c.X.K p.1))) ∧ (ErrC c.X.K (ebC c.X.K) (ebF c.X.K) (He.ga c.X.K p.1) ∧ XCl c.X.K (He.ga c.X.K p.1)) ∧ (∀ t ∈ plainTs, PySem.W.kitOne c.X.K (.type t) (.ref (He.ga c.X.K p.1)) = some false) ∧
      ∀ q ∈ ex, PySem.W.kitOne c.X.K (.ref (He.ga c.X.K p.1)) (.ref (He.ga c.X.K q.1)) = some (q.2 == 0 || q.2 == p.2) ∧ PySem.W.exmOne c.X.K (.ref (He.ga c.X.K p.1)) (.ref (He.ga c.X.K q.1)) = some (q.2 == 0 || q.2 == p.2) := fun p hp => by
    have z := all p hp
    unfold errAll at z
    simp only [Bool.and_eq_true] at z
    have z2 := List.all_eq_true.mp z.2 p hp
    simp only [Bool.and_eq_true] at z2
    obtain ⟨⟨⟨z3, z4⟩, z5⟩, z6⟩ := z2
    refine ⟨dO_ok z3, cls_okB z4, fun t ht => of_decide_eq_true (List.all_eq_true.mp z5 t ht), fun q hq => ?_⟩
    have z7 := List.all_eq_true.mp z6 q hq
    simp only [Bool.and_eq_true, decide_eq_true_eq] at z7
    exact z7
  refine ⟨fun x k hm => ⟨_, back _ hm, PySem.W.mg_of X G (cl _ hm).1⟩, fun k C e => ?_, fun k C e => ?_, fun k C j C2 e1 e2 => ?_, fun j C2 d e ht2 => ?_⟩
  · obtain ⟨p, hp, rfl, rfl⟩ := fact k C e
    have z := all p hp
    unfold errAll at z
    simp only [Bool.and_eq_true] at z
    obtain ⟨⟨⟨z1, z2⟩, z3⟩, _⟩ := z
    exact ⟨ebC c.X.K, ebF c.X.K, ⟨ini_ok z3 s2 hl hf, Option.isSome_iff_exists.mp z1, dO_ok z2, ht, hsup⟩, (cl p hp).2.1.1⟩
  · obtain ⟨p, hp, rfl, rfl⟩ := fact k C e
    exact (cl p hp).2.1.2
  · obtain ⟨p, hp, rfl, rfl⟩ := fact k C e1
    obtain ⟨q, hq, rfl, rfl⟩ := fact j C2 e2
    exact (cl p hp).2.2.2 q hq
  · obtain ⟨p, hp, rfl, rfl⟩ := fact j C2 e
    exact (cl p hp).2.2.1 _ (tn_mem ht2)
end
/-- no own errors -/
theorem errT_none {c : Cf} {P : Program} {mg : Str → Option Value} (hca : ∀ k, c.X.ca k = none) : ErrT c P mg [] :=
  ⟨fun x k h => (by cases h), fun k C h => (by rw [hca] at h; cases h), fun k C h => (by rw [hca] at h; cases h), fun k C j C2 h => (by rw [hca] at h; cases h), fun j C2 d h => (by rw [hca] at h; cases h)⟩
/-- sys.modules is a dict -/
def smB (g : Addr → Option Obj) : Bool := match g sysModules with
  | some ⟨_, _, .dict _ _, _⟩ => true
  | _ => false
theorem smB_ok {h : Heap} (e : smB h.get? = true) : SmOk h := by
  unfold smB at e
  cases q : h.get? sysModules with
  | none => rw [q] at e; cases e
  | some o =>
    obtain ⟨oc, od, da, sl⟩ := o
    rw [q] at e
    cases da <;> first | (cases e; done) | skip
    exact ⟨_, _, _, q, rfl⟩
/-- the head's facts, read by a Hook -/
abbrev AlP : Type := He.AlD × (Bool × Bool) × IniV
def frP (n : Nat) (g : Addr → Option Obj) : PySem.W.Frag := He.frG g (cStatics :: He.asD g n)
def obsP (n : Nat) (fa : List He.Fa) (fn : List He.DefD) (file : Str) (eb : Option EbD) (ex : List (Str × Nat)) (g : Addr → Option Obj) : AlP := (He.obsD fa fn (frP n g), (errOk file ex (frP n g), smB g), iniV eb (frP n g))
def hookP (n : Nat) (fa : List He.Fa) (fn : List He.DefD) (file : Str) (eb : Option EbD) (ex : List (Str × Nat)) : PySem.W.Hook where
  α := AlP
  obs := fun s => obsP n fa fn file eb ex s.heap.get?
  val := fun _ => (He.valD fn, (true, true), valI eb)
  says := fun _ h => ∃ K : PySem.W.Frag, K.In h ∧ He.SaysD fa fn K ∧ SaysE file eb ex K ∧ SmOk h
  of := fun _ s e => ⟨frP n s.heap.get?, He.frG_in, congrArg (fun z : AlP => z.1) e, ⟨congrArg (fun z : AlP => z.2.1.1) e, congrArg (fun z : AlP => z.2.2) e⟩, smB_ok (congrArg (fun z : AlP => z.2.1.2) e)⟩
  keeps := fun _ _ _ ⟨K, hK, c1, c2, o, es, n, e1, e2⟩ k => ⟨K, PySem.W.Frag.In.keeps hK k, c1, c2, o, es, n, k _ _ e1, e2⟩
theorem obsP_eq {n : Nat} {fa : List He.Fa} {fn : List He.DefD} {file : Str} {eb : Option EbD} {ex : List (Str × Nat)} {g : Addr → Option Obj} {s : Shared} (h : ∀ a, g a = s.heap.get? a) : obsP n fa fn file eb ex g = (hookP n fa fn file eb ex).obs s := by
  have e : g = s.heap.get? := funext h
  rw [e] <;> rfl
end Pz
end
section
set_option Elab.async false
set_option linter.all false
/-! The head's facts, for any list of defs; the law's end. -/
namespace Pz
open PySem PySem.Spec PyProof.Rows L2

def DfI.de (d : DfI) : He.DefD := ⟨(d.x, none), d.x, d.x, d.params, d.body, d.scope, [], []⟩
/-- a constant's fact -/
def glFa : Str × Nat × D → Option He.Fa
  | (x, _, .int i) => some (.int x i)
  | (x, _, .str s) => some (.str x ⟨s.toArray⟩)
  | _ => none
def faOf (ds : List DfI) (t : Tb) : List He.Fa := (ds.map fun d => .glo d.x) ++ (t.bl.map .free ++ (t.gl.filterMap glFa ++ [.free "super"]))
def fnOf (ds : List DfI) : List He.DefD := ds.map DfI.de
/-- all parameters are plain -/
def BindOk (d : DfI) : Prop := ∀ (kV doc pm : Value) (an : Option Addr) (cdv ct : Value) (us : List Value), us.length = d.ps.length → bindArgs (PySem.W.fnOf d.x d.x d.params d.body d.scope .none kV doc pm an cdv ct) ⟨us, []⟩ = pure (d.ps.zip us)
/-- how a call with keywords binds -/
def KwOk (d : DfI) (n : Nat) (ks : List Str) (pl : List Nat) : Prop := ∀ (kV doc pm : Value) (an : Option Addr) (cdv ct : Value) (us ws : List Value), us.length = n → ws.length = ks.length →
  bindArgs (PySem.W.fnOf d.x d.x d.params d.body d.scope .none kV doc pm an cdv ct) ⟨us, ks.zip ws⟩ = pure (d.ps.zip (permL pl (us ++ ws)))
/-- what the law's text must show of its tables -/
structure TbOk (ds : List DfI) (t : Tb) (Pg : Prog) : Prop where
  bind : ∀ d ∈ ds, BindOk d
  kw : ∀ d ∈ ds, ∀ q ∈ t.kwl, q.1 = d.x → KwOk d q.2.1 q.2.2.1 q.2.2.2
  chk : ∀ d ∈ ds, d.ok t = true
  fn : ∀ d ∈ ds, Pg.fn d.fi.id = some d.f
  fns : ∀ x fi, (x, fi) ∈ t.fns → ∃ d ∈ ds, d.x = x ∧ d.fi = fi
  gl : ∀ q ∈ t.gl, Pg.glob q.2.1 = q.2.2 ∧ (glFa q).isSome = true
  nd : (ds.map (·.fi.id)).Nodup
  ndx : (t.ex.map (·.2)).Nodup
theorem stands {K : PySem.W.Frag} {h : Heap} {mg : Str → Option Value} {ds : List DfI} {t : Tb} {c : Cf} {Pg : Prog} (hK : c.X.K = K) (X : K.In h) (G : h.Ns mainGlobals mg) (s : He.SaysD (faOf ds t) (fnOf ds) K) (ok : TbOk ds t Pg) :
    (∀ d ∈ ds, ∃ fd, Stands c t.kwl mg d (He.ga K d.x) fd) ∧ (∀ x ∈ t.bl, mg x = none) ∧ mg "super" = none ∧
      ∀ x g d, (x, g, d) ∈ t.gl → Pg.glob g = d ∧ ((∃ i tk, d = .int i ∧ mg x = some (.int i tk)) ∨ ∃ z tk, d = .str z ∧ mg x = some (.str ⟨z.toArray⟩ tk)) := by
  subst hK
  refine ⟨fun d hd => ?_, fun x hx => He.free_ok X G (s.facts (List.mem_append_right _ (List.mem_append_left _ (List.mem_map.mpr ⟨x, hx, rfl⟩)))), He.free_ok X G (s.facts (List.mem_append_right _ (List.mem_append_right _ (List.mem_append_right _ List.mem_cons_self)))), fun x g d hm => ?_⟩
  · obtain ⟨fd, F⟩ := s.defs (d := d.de) (List.mem_map.mpr ⟨d, hd, rfl⟩)
    have g := He.glo_ok X G (s.facts (f := .glo d.x) (List.mem_append_left _ (List.mem_map.mpr ⟨d, hd, rfl⟩)))
    have F' : FunD c.X.K d.x d.x d.params d.body d.scope [] [] (He.fAd c.X.K (d.x, none)) fd := F
    refine ⟨fd, F', g, F'.bindsN (ok.bind d hd), fun n ks pm hm s us ws l1 l2 => ?_⟩
    obtain ⟨oc, od, dV, kV, doc, pm', an, cdv, ct, osl, rfl, lk, hcd, hD, hK⟩ := F'.ex
    rcases hD with ⟨_, rfl⟩ | ⟨e, _⟩
    · exact .of_eq (ok.kw d hd _ hm rfl kV doc pm' an cdv ct us ws l1 l2)
    · exact absurd rfl e
  · obtain ⟨h1, h2⟩ := ok.gl _ hm
    refine ⟨h1, ?_⟩
    have fact : ∀ f, glFa (x, g, d) = some f → f.ok c.X.K = true := fun f hf => s.facts (List.mem_append_right _ (List.mem_append_right _ (List.mem_append_left _ (List.mem_filterMap.mpr ⟨_, hm, hf⟩))))
    cases d <;> first | (cases h2; done) | skip
    · rename_i i
      obtain ⟨tk, e⟩ := He.int_ok X G (fact _ rfl)
      exact .inl ⟨i, tk, rfl, e⟩
    · rename_i z
      obtain ⟨tk, e⟩ := He.str_ok X G (fact _ rfl)
      exact .inr ⟨z, tk, rfl, e⟩
theorem lookup_mem {β : Type} {x : Str} {b : β} : ∀ {l : List (Str × β)}, l.lookup x = some b → (x, b) ∈ l
  | [], h => by cases h
  | (y, c) :: l, h => by
    rw [List.lookup_cons] at h
    split at h
    · rename_i e
      cases h
      rw [eq_of_beq e]; exact List.mem_cons_self
    · exact List.mem_cons_of_mem _ (lookup_mem h)

/-! ### the law's call at the caller: no guard stands there -/
section
variable {P : Program} {w : World} {K : PySem.W.Frag} {mg mb : Str → Option Value} {k : Nat} {fa a : Addr} {fd : FuncData} {x : Str} {sp : Sp} {s : Shared} {vs : List Value} {ns : List Int}
/-- what the call ends with -/
def EndOk (s : Shared) : Result → Shared → Prop := fun r s' => r = .ok (.ret (.bool true)) ∧ OldK s.heap s'.heap ∧ s'.os = s.os ∧ AllBare s'.gens
/-- with an abstract heap that holds nothing but the script -/
theorem callG_at {H : Hp} (inK : K.In s.heap) (n1 : s.heap.Ns mainGlobals mg) (n2 : s.heap.Ns builtinsNs mb) (bb : ∀ y : Str, y ≠ "__name__" → mb y = bootBuiltins y) (nol : s.heap.NoLimit) (nod : s.heap.NoDigits) (smo : SmOk s.heap) (gn : s.gens = #[])
    (scr : s.heap.get? a = some { cls := .type "list", data := .seq vs.toArray }) (rm : Room k callerA) (F : ∀ base : Heap, K.In base → base.Ns mainGlobals mg → base.NoDigits → SmOk base → FnG P w K mg base (L2.CX P w) k fa fd [x] sp)
    (bi : ∀ (s : Shared) (u : Value), BindsTo s fd ⟨[u], []⟩ [(x, u)]) (hO : Only H) (ok : HOk P w H s.heap) (hA : ∀ b, H b ≠ none → b = a) (hK : H a ≠ none → K.lookup a = none) (z : sp [.ref a] H (fun v _ => v = .bl true) fun _ _ _ => False) :
    codeAny (model P w) callerA (.call (.ref fa) ⟨[.ref a], []⟩) (EndOk s) s := by
  have hid : ∀ {b : Addr} {o : Obj}, s.heap.get? b = some o → H b = none → (hidT s.heap H).get? b = some o := fun e n => hidT_get e n
  have at_a : ∀ {b : Addr}, H b ≠ none → b = a := fun {b} h => hA b h
  have dict_free : ∀ {b : Addr} {o : Obj} {es : Array DictEntry} {ep : Nat}, s.heap.get? b = some o → o.data = .dict es ep → H b = none := by
    intro b o es ep e d
    apply Classical.byContradiction
    intro h
    have := at_a h
    subst this
    rw [scr] at e
    have e' := Option.some.inj e
    rw [← e'] at d
    cases d
  have ns_hid : ∀ {b : Addr} {m : Str → Option Value}, s.heap.Ns b m → (hidT s.heap H).Ns b m := by
    rintro b m ⟨o, es, ep, e, d, r⟩
    exact ⟨o, es, ep, hid e (dict_free e d), d, r⟩
  have k_hid : K.In (hidT s.heap H) := by
    intro b o e
    refine hid (inK b o e) (Classical.byContradiction fun h => ?_)
    have := at_a h
    subst this
    rw [hK h] at e
    cases e
  have md : Mod K mg (hidT s.heap H) := ⟨k_hid, ns_hid n1, ⟨mb, ns_hid n2, bb⟩, by
    obtain ⟨mc, m1, m2⟩ := nol
    exact ⟨mc, ns_hid m1, m2⟩⟩
  have ndh : (hidT s.heap H).NoDigits := by
    obtain ⟨mc, m1, m2⟩ := nod
    exact ⟨mc, ns_hid m1, m2⟩
  have smh : SmOk (hidT s.heap H) := by
    obtain ⟨o, es, n, e, e2⟩ := smo
    exact ⟨o, es, n, hid e (dict_free e e2), e2⟩
  have en : Env0 P w K mg (hidT s.heap H) callerA [] s H :=
    { frames := rfl, mod := md, bs := fun b o e => of_hidT e, bsz := Nat.le_of_eq (hidT_size _ _), funs := trivial, frf := fun b hb => (by cases hb), hok := ok, bare := .of_eq gn }
  have run := (F _ k_hid (ns_hid n1) ndh smh).run callerA [] s H ⟨[.ref a], []⟩ [.ref a] [.ref a] _ _ ⟨rm, rfl⟩ en (bi s (.ref a)) (.cons rfl .nil) z
  apply codeAny_mono run
  intro r s2 h
  match r, h with
  | .error e, h =>
    obtain ⟨_, _, _, _, _, _, _, _, _, _, _, _, y⟩ := h
    exact y.elim
  | .ok .next, h => exact h.elim
  | .ok .brk, h => exact h.elim
  | .ok .cont, h => exact h.elim
  | .ok (.ret u), ⟨v, H2, o2, b2, un, ok2, rl, q⟩ =>
    replace q : v = .bl true := q
    subst q
    obtain rfl : u = Value.bool true := rl
    refine ⟨rfl, OldK.of_keep fun b o e => ?_, o2, b2⟩
    cases h : H b with
    | none => exact un.keep b o e h (fun y => by cases y) (fun y => by cases y)
    | some ho =>
      rcases hO b with y | ⟨ob, xs, y⟩
      · rw [h] at y; cases y
      · obtain ⟨e1, _⟩ := ok b _ y
        obtain ⟨e2, _⟩ := ok2 b _ (un.frzs b ob _ y)
        rw [e] at e1
        cases e1
        exact e2
theorem callG (inK : K.In s.heap) (n1 : s.heap.Ns mainGlobals mg) (n2 : s.heap.Ns builtinsNs mb) (bb : ∀ y : Str, y ≠ "__name__" → mb y = bootBuiltins y) (nol : s.heap.NoLimit) (nod : s.heap.NoDigits) (smo : SmOk s.heap) (gn : s.gens = #[])
    (scr : s.heap.get? a = some { cls := .type "list", data := .seq vs.toArray }) (hi : IntsAre vs ns) (hl : ns.length ≤ sizeLine) (rm : Room k callerA) (F : ∀ base : Heap, K.In base → base.Ns mainGlobals mg → base.NoDigits → SmOk base → FnG P w K mg base (L2.CX P w) k fa fd [x] sp)
    (bi : ∀ (s : Shared) (u : Value), BindsTo s fd ⟨[u], []⟩ [(x, u)]) (hsp : ∀ H : Hp, Only H → SqL K H a (ns.map V.int) → sp [.ref a] H (fun v _ => v = .bl true) fun _ _ _ => False) :
    codeAny (model P w) callerA (.call (.ref fa) ⟨[.ref a], []⟩) (EndOk s) s := by
  have rv := vals_ints hi
  cases hk : K.lookup a with
  | some o =>
    have e := inK a o hk
    rw [scr] at e
    cases e
    have S : SqL K (fun _ => none) a (ns.map V.int) := .inr ⟨_, vs.toArray, _, hk, rfl, rfl, rfl, by rw [List.size_toArray, hi.length]; exact hl, by simpa using rv⟩
    have O : Only fun _ => none := fun _ => .inl rfl
    exact callG_at (H := fun _ => none) inK n1 n2 bb nol nod smo gn scr rm F bi O (fun b o e => by cases e) (fun b h => absurd rfl h) (fun h => absurd rfl h) (hsp _ O S)
  | none =>
    let L : HO := .frz { cls := .type "list", data := .seq vs.toArray } (.lst (ns.map V.int))
    let H : Hp := fun b => if b = a then some L else none
    have ha : H a = some L := if_pos rfl
    have hb : ∀ b, b ≠ a → H b = none := fun b n => if_neg n
    have O : Only H := fun b => by
      by_cases e : b = a
      · subst e; exact .inr ⟨_, _, ha⟩
      · exact .inl (hb b e)
    have S : SqL K H a (ns.map V.int) := .inl (.inr ⟨_, ha⟩)
    refine callG_at (H := H) inK n1 n2 bb nol nod smo gn scr rm F bi O (fun b o e => ?_) (fun b h => Classical.byContradiction fun n => h (hb b n)) (fun _ => hk) (hsp _ O S)
    by_cases eb : b = a
    · subst eb
      rw [ha] at e
      cases e
      exact ⟨scr, by rw [List.length_map]; exact hl, vs, _, rv, scr⟩
    · rw [hb b eb] at e; cases e
end
section
variable {ds : List DfI} {t : Tb} {Pg : Prog} {dl : DfI} {n : Nat}
/-- the defs that may be values -/
def faM (ds : List DfI) (K : PySem.W.Frag) : Nat → Option Addr := fun f => (ds.find? fun d => d.fi.id == f && pl0 d.fi).map fun d => He.ga K d.x
def cfOf (ds : List DfI) (t : Tb) (K : PySem.W.Frag) : Cf := ⟨⟨K, faM ds K, caOf t.ex K⟩⟩
/-- the law holds: from its run over data -/
theorem walkG {l : PySem.W.OpenLaw} {m : Nat} {q : Program} {loose : List Str} {XP : (Str → Option Value) → Heap → Prop} {YP : World → Heap → Prop} {d : DefRec} {file : Str} {eb : Option EbD}
    (hm : l.most = some m) (hm2 : m ≤ 63) (hdf : d.params.defaults = []) (rm : Room n callerA) (hdn : d.name = ("law" : Str))
    (Y : ∀ (w : World) (h : Heap) (mg : Str → Option Value), YP w h → h.Ns mainGlobals mg → ∃ K : PySem.W.Frag, K.In h ∧ He.SaysD (faOf ds t) (fnOf ds) K ∧ SaysE file eb t.ex K ∧ SmOk h)
    (ok : TbOk ds t Pg) (hd : dl ∈ ds) (hx : dl.x = "law") (hps : dl.ps = [("script" : Str)]) (hnp : dl.f.np = 1) (hio : dl.f.io = []) (hpl : dl.fi.sg.pl.getD 0 0 = 0)
    (heb : (eb = none ∧ t.ex = []) ∨ ∃ b, eb = some b ∧ (b.l = 5 ∨ b.l = 8)) (hfl : l.prog.main.file = file) (htop : (l.prog.main.scope.names.lookup ("super" : Str)).isSome = false)
    (ht : ∀ ns : List Int, ns.length ≤ 63 → run Pg n dl.fi.id [.lst (ns.map D.int)] = .ok (.bl true, [])) :
    PySem.W.WalkO q loose XP YP l.row.toRowW d [] (fun f vs => PySem.call f vs) := by
  refine Att.attach_call hm hdf ?_
  intro w s₀ s₁ mg mb fa o pm cd doc a vs ns G y ho hdd hcd hmg hobj hints hlen hg
  obtain ⟨K, inK, says, saysE, smo⟩ := Y w _ mg y G.T.g
  obtain ⟨h1, h2, hsup, h3⟩ := stands (c := cfOf ds t K) rfl inK G.T.g says ok
  obtain ⟨fd, hs⟩ := h1 dl hd
  have e : He.ga K dl.x = fa := by
    have := hs.2.1
    rw [hx, ← hdn, hmg] at this
    rw [hx, ← hdn]
    cases this; rfl
  have hs : Stands (cfOf ds t K) t.kwl mg dl fa fd := e ▸ hs
  have hex : ErrT (cfOf ds t K) l.prog mg t.ex := by
    rcases heb with ⟨_, e2⟩ | ⟨b, rfl, hb⟩
    · have : ErrT (cfOf ds t K) l.prog mg [] := errT_none fun k => by
        show caOf t.ex K k = none
        rw [e2]; rfl
      rw [e2]; exact this
    · exact errT_of rfl rfl inK G.T.g saysE hb hfl htop hsup ok.ndx
  have hfa : ∀ f ad, (cfOf ds t K).X.fa f = some ad → ∃ d ∈ ds, d.fi.id = f ∧ pl0 d.fi = true ∧ ∃ fd, Stands (cfOf ds t K) t.kwl mg d ad fd := fun f ad hf => by
    obtain ⟨d, e1, rfl⟩ := Option.map_eq_some_iff.mp (show (ds.find? fun d => d.fi.id == f && pl0 d.fi).map (fun d => He.ga K d.x) = some ad from hf)
    have e2 := List.find?_some e1
    simp only [Bool.and_eq_true, beq_iff_eq] at e2
    exact ⟨d, List.mem_of_find?_eq_some e1, e2.1, e2.2, h1 d (List.mem_of_find?_eq_some e1)⟩
  have hfb : ∀ d ∈ ds, pl0 d.fi = true → ∃ ad, (cfOf ds t K).X.fa d.fi.id = some ad ∧ mg d.x = some (.ref ad) := fun d hd hp => by
    refine ⟨He.ga K d.x, ?_, (h1 d hd).choose_spec.2.1⟩
    show (ds.find? _).map _ = _
    cases e : ds.find? (fun d' => d'.fi.id == d.fi.id && pl0 d'.fi) with
    | none => exact absurd (List.find?_eq_none.mp e d hd) (by simp [hp])
    | some d' =>
      have e2 := List.find?_some e
      simp only [Bool.and_eq_true, beq_iff_eq] at e2
      have : d' = d := by
        obtain ⟨i, hi, rfl⟩ := List.getElem_of_mem (List.mem_of_find?_eq_some e)
        obtain ⟨j, hj, rfl⟩ := List.getElem_of_mem hd
        have := (List.getElem_inj (xs := ds.map (·.fi.id)) (h₀ := by simpa using hi) (h₁ := by simpa using hj) ok.nd).mp (by rw [List.getElem_map, List.getElem_map, e2.1])
        subst this; rfl
      rw [this]; rfl
  have F := fun base nd sm => all_ok (P := l.prog) (w := w) (base := base) nd sm hex hfa hfb (fun d hd => ⟨_, h1 d hd⟩) ok.chk ok.fn ok.fns h2 h3 n dl hd fa fd hs
  rw [hps] at F
  have hb : ∀ (s : Shared) (u : Value), BindsTo s fd ⟨[u], []⟩ [(("script" : Str), u)] := fun s u => by
    have := FunD.bindsA (ps := dl.ps) hs.1 (fun kV doc pm an cdv ct us hl => ok.bind dl hd kV doc pm an cdv ct us hl) s [u] (by rw [hps]; rfl)
    rw [hps] at this
    exact this
  refine callG (ns := ns) (mb := mb) inK G.T.g G.T.b G.T.builtins G.T.nolimit G.T.nodigits smo hg hobj hints (Nat.le_trans hlen (Nat.le_trans hm2 (by rw [sizeLine_eq]; omega))) rm (fun base _ _ nd sm => F base nd sm) hb fun H _ S => ?_
  show spF (cfOf ds t K) dl.f.np dl.f.io dl.fi.sg (run Pg n dl.fi.id) [.ref a] H _ _
  rw [hnp, hio]
  exact law_sp (call := fun _ _ => bad) hpl S (ht ns (Nat.le_trans hlen hm2))
end
end Pz
end
section
set_option Elab.async false
set_option linter.all false
set_option maxRecDepth 100000
namespace Pz.K15
open Pz
/-- is_whole -/
def fn_1 : Fn := { np := 1, io := [], ns := 1, body := (.cons (.ret (.and (.isi (.v 0) [.int]) (.not (.isi (.v 0) [.bool])))) .nil) }
/-- is_count -/
def fn_2 : Fn := { np := 1, io := [], ns := 1, body := (.cons (.ret (.and (.call 1 (.cons (.v 0) .nil) []) (.cmp .ge (.v 0) (.int 0)))) .nil) }
/-- check_number -/
def fn_7 : Fn := { np := 1, io := [], ns := 1, body := (.cons (.sif (.not (.call 2 (.cons (.v 0) .nil) [])) (.cons (.rai 9 (.cons (.v 0) .nil)) .nil) .nil) .nil) }
/-- is_shape -/
def fn_8 : Fn := { np := 1, io := [], ns := 1, body := (.cons (.ret (.call 1 (.cons (.v 0) .nil) [])) .nil) }
/-- check_shape -/
def fn_552 : Fn := { np := 1, io := [], ns := 1, body := (.cons (.sif (.not (.call 8 (.cons (.v 0) .nil) [])) (.cons (.rai 22 (.cons (.v 0) .nil)) .nil) .nil) .nil) }
/-- fits -/
def fn_9 : Fn := { np := 2, io := [], ns := 2, body := (.cons (.ret (.and (.cmp .ne (.v 0) (.int 0)) (.cmp .eq (.bin .add (.v 0) (.v 1)) (.int 0)))) .nil) }
/-- do_fit -/
def fn_553 : Fn := { np := 2, io := [], ns := 2, body := (.cons (.exp (.call 552 (.cons (.v 0) .nil) [])) (.cons (.exp (.call 552 (.cons (.v 1) .nil) [])) (.cons (.ret (.call 9 (.cons (.v 0) (.cons (.v 1) .nil)) [])) .nil))) }
/-- is_piece -/
def fn_10 : Fn := { np := 1, io := [], ns := 2, body := (.cons (.ret (.and (.isi (.v 0) [.tuple]) (.and (.cmp .eq (.bi .len (.cons (.v 0) .nil)) (.int 4)) (.bi .all (.cons (.lc (.call 8 (.cons (.v 1) .nil) []) (.v 1) (.wlk (.v 0)) .nil [1]) .nil))))) .nil) }
/-- check_piece -/
def fn_193 : Fn := { np := 1, io := [], ns := 1, body := (.cons (.sif (.not (.call 10 (.cons (.v 0) .nil) [])) (.cons (.rai 14 (.cons (.v 0) .nil)) .nil) .nil) .nil) }
/-- turned_by -/
def fn_11 : Fn := { np := 2, io := [], ns := 3, body := (.cons (.asg (.v 2) (.bin .mod (.bin .sub (.int 4) (.bin .mod (.v 1) (.int 4))) (.int 4))) (.cons (.ret (.bin .add (.slc (.v 0) (.v 2) .non) (.slc (.v 0) .non (.v 2)))) .nil)) }
/-- turned -/
def fn_554 : Fn := { np := 2, io := [], ns := 2, body := (.cons (.exp (.call 193 (.cons (.v 0) .nil) [])) (.cons (.exp (.call 7 (.cons (.v 1) .nil) [])) (.cons (.ret (.call 11 (.cons (.v 0) (.cons (.v 1) .nil)) [])) .nil))) }
/-- turnings_in -/
def fn_12 : Fn := { np := 1, io := [], ns := 3, body := (.cons (.asg (.v 1) (.lst 1 .nil)) (.cons (.for (.v 2) (.rng (.cons (.int 4) .nil)) (.cons (.sif (.cmp .notin (.call 11 (.cons (.v 0) (.cons (.v 2) .nil)) []) (.v 1)) (.cons (.app (.v 1) (.call 11 (.cons (.v 0) (.cons (.v 2) .nil)) [])) .nil) .nil) .nil) [2]) (.cons (.retv 1) .nil))) }
/-- turnings -/
def fn_555 : Fn := { np := 1, io := [], ns := 1, body := (.cons (.exp (.call 193 (.cons (.v 0) .nil) [])) (.cons (.ret (.call 12 (.cons (.v 0) .nil) [])) .nil)) }
/-- turns_between -/
def fn_13 : Fn := { np := 2, io := [], ns := 3, body := (.cons (.asg (.v 2) (.call 12 (.cons (.v 0) .nil) [])) (.cons (.ret (.ite (.cmp .isin (.v 1) (.v 2)) (.me .index (.v 2) (.cons (.v 1) .nil)) .non)) .nil)) }
/-- turns_to -/
def fn_556 : Fn := { np := 2, io := [], ns := 2, body := (.cons (.exp (.call 193 (.cons (.v 0) .nil) [])) (.cons (.exp (.call 193 (.cons (.v 1) .nil) [])) (.cons (.ret (.call 13 (.cons (.v 0) (.cons (.v 1) .nil)) [])) .nil))) }
/-- first_turned -/
def fn_14 : Fn := { np := 1, io := [], ns := 1, body := (.cons (.ret (.bi .min (.cons (.call 12 (.cons (.v 0) .nil) []) .nil))) .nil) }
/-- least_turned -/
def fn_557 : Fn := { np := 1, io := [], ns := 1, body := (.cons (.exp (.call 193 (.cons (.v 0) .nil) [])) (.cons (.ret (.call 14 (.cons (.v 0) .nil) [])) .nil)) }
/-- _law_hash -/
def fn_161 : Fn := { np := 2, io := [], ns := 3, body := (.cons (.asg (.v 2) (.bin .mod (.bi .int (.cons (.bin .add (.bin .add (.bin .add (.bin .mul (.v 0) (.int 1140671)) (.bin .mul (.bin .mul (.int 27644437) (.v 1)) (.v 1))) (.bin .mul (.int 131) (.v 1))) (.int 19)) .nil)) (.int 2147483629))) (.cons (.asg (.v 2) (.bin .mod (.bi .int (.cons (.bin .add (.bin .add (.bin .mul (.v 2) (.v 2)) (.bin .mul (.int 62089) (.v 1))) (.int 32416187)) .nil)) (.int 2147483587))) (.cons (.ret (.bin .mod (.bi .int (.cons (.bin .mul (.v 2) (.int 48271)) .nil)) (.int 2147483647))) .nil))) }
/-- _law_random -/
def fn_162 : Fn := { np := 2, io := [0], ns := 4, body := (.cons (.sif (.cmp .gt (.idx (.v 0) (.int 0)) (.int 0)) (.cons (.asg (.v 2) (.bin .mod (.bi .int (.cons (.idx (.v 0) (.int 0)) .nil)) (.v 1))) (.cons (.asg (.idx (.v 0) (.int 0)) (.bin .fdiv (.idx (.v 0) (.int 0)) (.v 1))) (.cons (.retv 2) .nil))) .nil) (.cons (.asg (.v 2) (.int 0)) (.cons (.for (.v 3) (.rng (.cons (.bin .add (.int 1) (.bin .fdiv (.me .bitlen (.v 1) .nil) (.int 30))) .nil)) (.cons (.asg (.idx (.v 0) (.int 2)) (.bin .add (.idx (.v 0) (.int 2)) (.int 1))) (.cons (.asg (.v 2) (.bin .add (.bin .mul (.v 2) (.int 2147483587)) (.call 161 (.cons (.idx (.v 0) (.int 1)) (.cons (.idx (.v 0) (.int 2)) .nil)) []))) .nil)) [3]) (.cons (.ret (.bin .mod (.bi .int (.cons (.v 2) .nil)) (.v 1))) .nil)))) }
/-- _law_cell -/
def fn_163 : Fn := { np := 2, io := [], ns := 2, body := (.cons (.sif (.cmp .lt (.v 1) (.bi .len (.cons (.v 0) .nil))) (.cons (.ret (.idx (.v 0) (.v 1))) .nil) .nil) (.cons (.ret (.bin .mod (.bi .sum (.cons (.slc (.v 0) .non (.int 1)) .nil)) (.int 1000003))) .nil)) }
/-- _law_generator -/
def fn_164 : Fn := { np := 2, io := [], ns := 3, body := (.cons (.asg (.v 2) (.call 163 (.cons (.v 0) (.cons (.v 1) .nil)) [])) (.cons (.ret (.lst 1 (.cons (.bin .mod (.bi .int (.cons (.bi .max2 (.cons (.bin .sub (.v 2) (.bin .pow (.int 10) (.int 18))) (.cons (.int 0) .nil))) .nil)) (.bin .pow (.bin .pow (.int 10) (.int 60)) (.int 10))) (.cons (.bin .mod (.bi .int (.cons (.v 2) .nil)) (.int 2147483647)) (.cons (.bin .mul (.int 1000) (.v 1)) .nil))))) .nil)) }
/-- _law_same -/
def fn_345 : Fn := { np := 2, io := [], ns := 5, body := (.cons (.sif (.isi (.v 1) [.list, .tuple]) (.cons (.asg (.v 2) (.and (.cmp .eq (.isi (.v 0) [.list]) (.isi (.v 1) [.list])) (.cmp .eq (.isi (.v 0) [.tuple]) (.isi (.v 1) [.tuple])))) (.cons (.ret (.and (.v 2) (.and (.cmp .eq (.bi .len (.cons (.v 0) .nil)) (.bi .len (.cons (.v 1) .nil))) (.bi .all (.cons (.lc (.call 345 (.cons (.v 3) (.cons (.v 4) .nil)) []) (.tup (.cons (.v 3) (.cons (.v 4) .nil))) (.zip (.v 0) (.v 1)) .nil [3, 4]) .nil))))) .nil)) .nil) (.cons (.sif (.or (.isi (.v 0) [.list, .tuple]) (.cmp .ne (.cmp .is (.v 0) .non) (.cmp .is (.v 1) .non))) (.cons (.ret .ff) .nil) .nil) (.cons (.asg (.v 2) (.and (.cmp .eq (.isi (.v 0) [.bool]) (.isi (.v 1) [.bool])) (.cmp .eq (.isi (.v 0) [.int]) (.isi (.v 1) [.int])))) (.cons (.ret (.and (.v 2) (.and (.cmp .eq (.isi (.v 0) [.str]) (.isi (.v 1) [.str])) (.cmp .eq (.v 0) (.v 1))))) .nil)))) }
/-- _law_pick -/
def fn_165 : Fn := { np := 2, io := [0], ns := 2, body := (.cons (.ret (.idx (.v 1) (.call 162 (.cons (.v 0) (.cons (.bi .len (.cons (.v 1) .nil)) .nil)) [(0, 0)]))) .nil) }
/-- _law_turned -/
def fn_347 : Fn := { np := 2, io := [], ns := 3, body := (.cons (.for (.v 2) (.rng (.cons (.bin .mod (.bi .int (.cons (.v 1) .nil)) (.int 4)) .nil)) (.cons (.asg (.v 0) (.tup (.cons (.idx (.v 0) (.int 3)) (.cons (.idx (.v 0) (.int 0)) (.cons (.idx (.v 0) (.int 1)) (.cons (.idx (.v 0) (.int 2)) .nil)))))) .nil) [2]) (.cons (.retv 0) .nil)) }
/-- _law_turnings -/
def fn_348 : Fn := { np := 1, io := [], ns := 3, body := (.cons (.asg (.v 1) (.lst 1 .nil)) (.cons (.for (.v 2) (.rng (.cons (.int 4) .nil)) (.cons (.sif (.cmp .notin (.call 347 (.cons (.v 0) (.cons (.v 2) .nil)) []) (.v 1)) (.cons (.app (.v 1) (.call 347 (.cons (.v 0) (.cons (.v 2) .nil)) [])) .nil) .nil) .nil) [2]) (.cons (.retv 1) .nil))) }
/-- _law_shape -/
def fn_349 : Fn := { np := 2, io := [0], ns := 2, body := (.cons (.ret (.bin .mul (.bin .add (.int 1) (.call 162 (.cons (.v 0) (.cons (.v 1) .nil)) [(0, 0)])) (.call 165 (.cons (.v 0) (.cons (.lst 1 (.cons (.int 1) (.cons (.bin .sub (.int 0) (.int 1)) .nil))) .nil)) [(0, 0)]))) .nil) }
/-- _law_piece -/
def fn_353 : Fn := { np := 2, io := [0], ns := 3, body := (.cons (.ret (.bi .tuple (.cons (.lc (.call 165 (.cons (.v 0) (.cons (.lst 1 (.cons (.int 0) (.cons (.call 349 (.cons (.v 0) (.cons (.v 1) .nil)) [(0, 0)]) (.cons (.call 349 (.cons (.v 0) (.cons (.v 1) .nil)) [(0, 0)]) .nil)))) .nil)) [(0, 0)]) (.v 2) (.rng (.cons (.int 4) .nil)) .nil [2]) .nil))) .nil) }
/-- _law_is_whole -/
def fn_252 : Fn := { np := 1, io := [], ns := 1, body := (.cons (.ret (.and (.isi (.v 0) [.int]) (.not (.isi (.v 0) [.bool])))) .nil) }
/-- _law_right -/
def fn_558 : Fn := { np := 1, io := [0], ns := 14, body := (.cons (.asg (.v 1) (.call 165 (.cons (.v 0) (.cons (.lst 1 (.cons (.call 353 (.cons (.v 0) (.cons (.int 2) .nil)) [(0, 0)]) (.cons (.call 353 (.cons (.v 0) (.cons (.bin .sub (.bin .pow (.int 10) (.int 9)) (.int 1)) .nil)) [(0, 0)]) (.cons (.tup (.cons (.int 3) (.cons (.int 3) (.cons (.int 3) (.cons (.int 3) .nil))))) (.cons (.tup (.cons (.int 1) (.cons (.bin .sub (.int 0) (.int 2)) (.cons (.int 1) (.cons (.bin .sub (.int 0) (.int 2)) .nil))))) (.cons (.tup (.cons (.int 0) (.cons (.int 0) (.cons (.int 0) (.cons (.int 0) .nil))))) (.cons (.tup (.cons (.int 0) (.cons (.int 1) (.cons (.int 0) (.cons (.int 1) .nil))))) .nil))))))) .nil)) [(0, 0)])) (.cons (.asg (.v 9) (.call 348 (.cons (.v 1) .nil) [])) (.cons (.asg (.v 13) (.lst 2 (.cons (.call 555 (.cons (.v 1) .nil) []) (.cons (.callk 555 (.cons (.v 1) .nil) [0] []) .nil)))) (.cons (.sif (.or (.not (.atm (.call 345 (.cons (.v 13) (.cons (.lst 1 (.cons (.v 9) (.cons (.v 9) .nil))) .nil)) []))) (.or (.not (.call 1242 (.cons (.v 13) .nil) [(0, 13)])) (.not (.call 345 (.cons (.lst 1 (.cons (.call 557 (.cons (.v 1) .nil) []) (.cons (.callk 557 (.cons (.v 1) .nil) [0] []) .nil))) (.cons (.bin .rep (.lst 1 (.cons (.bi .min (.cons (.v 9) .nil)) .nil)) (.int 2)) .nil)) [])))) (.cons (.ret .ff) .nil) .nil) (.cons (.asg (.v 12) (.ite (.cmp .eq (.me .lenset (.v 1) .nil) (.int 1)) (.int 1) (.ite (.and (.cmp .eq (.idx (.v 1) (.int 0)) (.idx (.v 1) (.int 2))) (.cmp .eq (.idx (.v 1) (.int 1)) (.idx (.v 1) (.int 3)))) (.int 2) (.int 4)))) (.cons (.sif (.cmp .ne (.bi .len (.cons (.v 9) .nil)) (.v 12)) (.cons (.ret .ff) .nil) .nil) (.cons (.for (.v 10) (.wlk (.lst 1 (.cons (.int 0) (.cons (.int 1) (.cons (.int 2) (.cons (.int 3) (.cons (.int 4) (.cons (.int 7) (.cons (.bin .add (.bin .pow (.int 10) (.int 9)) (.call 162 (.cons (.v 0) (.cons (.int 4) .nil)) [(0, 0)])) .nil))))))))) (.cons (.asg (.v 11) (.call 347 (.cons (.v 1) (.cons (.v 10) .nil)) [])) (.cons (.sif (.not (.call 345 (.cons (.lst 1 (.cons (.call 554 (.cons (.v 1) (.cons (.v 10) .nil)) []) (.cons (.callk 554 (.cons (.v 10) (.cons (.v 1) .nil)) [1, 0] []) .nil))) (.cons (.lst 1 (.cons (.v 11) (.cons (.v 11) .nil))) .nil)) [])) (.cons (.ret .ff) .nil) .nil) .nil)) [11, 10]) (.cons (.for (.v 6) (.wlk (.lst 1 (.cons (.call 347 (.cons (.v 1) (.cons (.call 162 (.cons (.v 0) (.cons (.int 4) .nil)) [(0, 0)]) .nil)) []) (.cons (.call 353 (.cons (.v 0) (.cons (.int 2) .nil)) [(0, 0)]) (.cons (.rev (.v 1)) .nil))))) (.cons (.asg (.v 8) (.ite (.cmp .isin (.v 6) (.v 9)) (.me .index (.v 9) (.cons (.v 6) .nil)) .non)) (.cons (.sif (.not (.call 345 (.cons (.lst 1 (.cons (.call 556 (.cons (.v 1) (.cons (.v 6) .nil)) []) (.cons (.callk 556 (.cons (.v 6) (.cons (.v 1) .nil)) [1, 0] []) .nil))) (.cons (.lst 1 (.cons (.v 8) (.cons (.v 8) .nil))) .nil)) [])) (.cons (.ret .ff) .nil) .nil) .nil)) [8, 6]) (.cons (.for (.v 5) (.wlk (.lst 1 (.cons (.int 0) (.cons (.int 1) (.cons (.bin .sub (.int 0) (.int 1)) (.cons (.int 5) (.cons (.call 349 (.cons (.v 0) (.cons (.int 9) .nil)) [(0, 0)]) .nil))))))) (.cons (.for (.v 6) (.wlk (.lst 1 (.cons (.int 0) (.cons (.int 1) (.cons (.bin .sub (.int 0) (.int 1)) (.cons (.bin .sub (.int 0) (.int 5)) (.cons (.bin .sub (.int 0) (.v 5)) .nil))))))) (.cons (.asg (.v 7) (.and (.cmp .ne (.v 5) (.int 0)) (.cmp .eq (.v 5) (.bin .sub (.int 0) (.v 6))))) (.cons (.sif (.not (.call 345 (.cons (.lst 1 (.cons (.call 553 (.cons (.v 5) (.cons (.v 6) .nil)) []) (.cons (.callk 553 (.cons (.v 6) (.cons (.v 5) .nil)) [1, 0] []) .nil))) (.cons (.lst 1 (.cons (.v 7) (.cons (.v 7) .nil))) .nil)) [])) (.cons (.ret .ff) .nil) .nil) .nil)) [7, 6]) .nil) [7, 5, 6]) (.cons (.for (.v 3) (.wlk (.lst 1 (.cons (.int 0) (.cons (.int 1) (.cons (.bin .sub (.int 0) (.int 7)) (.cons (.bin .sub (.bin .pow (.int 10) (.int 9)) (.int 1)) (.cons .tt (.cons .ff (.cons .non (.cons (.str [49]) (.cons (.tup (.cons (.int 1) .nil)) (.cons (.lst 1 (.cons (.int 1) .nil)) (.cons (.dct .nil .nil) .nil))))))))))))) (.cons (.sif (.not (.call 345 (.cons (.lst 1 (.cons (.call 8 (.cons (.v 3) .nil) []) (.cons (.callk 8 (.cons (.v 3) .nil) [0] []) .nil))) (.cons (.bin .rep (.lst 1 (.cons (.call 252 (.cons (.v 3) .nil) []) .nil)) (.int 2)) .nil)) [])) (.cons (.ret .ff) .nil) .nil) (.cons (.asg (.v 4) (.call 162 (.cons (.v 0) (.cons (.int 4) .nil)) [(0, 0)])) (.cons (.asg (.v 2) (.bin .add (.bin .add (.slc (.v 1) .non (.v 4)) (.tup (.cons (.v 3) .nil))) (.slc (.v 1) (.bin .add (.v 4) (.int 1)) .non))) (.cons (.sif (.not (.call 345 (.cons (.lst 1 (.cons (.call 10 (.cons (.v 2) .nil) []) (.cons (.callk 10 (.cons (.v 2) .nil) [0] []) .nil))) (.cons (.bin .rep (.lst 1 (.cons (.call 252 (.cons (.v 3) .nil) []) .nil)) (.int 2)) .nil)) [])) (.cons (.ret .ff) .nil) .nil) .nil)))) [4, 3]) (.cons (.ret (.and (.cmp .eq (.lc (.v 2) (.v 2) (.wlk (.lst 1 (.cons .non (.cons (.tup .nil) (.cons (.bi .list (.cons (.v 1) .nil)) (.cons (.slc (.v 1) .non (.int 3)) (.cons (.bin .add (.v 1) (.tup (.cons (.int 0) .nil))) (.cons (.str [112, 105, 101, 99, 101]) (.cons (.dct .nil .nil) (.cons (.int 0) .nil)))))))))) (.cons (.cmp .isnot (.call 10 (.cons (.v 2) .nil) []) .ff) .nil) [2]) (.lst 1 .nil)) (.cmp .is (.call 10 (.cons (.v 1) .nil) []) .tt))) .nil))))))))))) }
/-- law -/
def fn_559 : Fn := { np := 1, io := [], ns := 4, body := (.cons (.for (.v 3) (.rng (.cons (.int 3) .nil)) (.cons (.asg (.v 1) (.call 164 (.cons (.v 0) (.cons (.v 3) .nil)) [])) (.cons (.for (.v 2) (.rng (.cons (.int 4) .nil)) (.cons (.sif (.not (.call 558 (.cons (.v 1) .nil) [(0, 1)])) (.cons (.ret .ff) .nil) .nil) .nil) [2]) .nil)) [1, 3, 2]) (.cons (.ret .tt) .nil)) }
/-- _law_marked at level 0 -/
def fn_1240 : Fn := { np := 1, io := [], ns := 3, body := (.cons (.sif (.isi (.v 0) [.dict]) (.cons (.rai 0 .nil) (.cons (.rai 0 .nil) (.cons (.rai 0 .nil) .nil))) .nil) (.cons (.sif (.isi (.v 0) [.list]) (.cons (.rai 0 .nil) (.cons (.rai 0 .nil) (.cons (.rai 0 .nil) (.cons (.rai 0 .nil) .nil)))) .nil) (.cons (.ret (.or (.not (.isi (.v 0) [.tuple])) (.cmp .notin .ff (.lc (.call 1240 (.cons (.v 1) .nil) []) (.v 1) (.wlk (.v 0)) .nil [1])))) .nil))) }
/-- _law_marked at level 1 -/
def fn_1241 : Fn := { np := 1, io := [0], ns := 3, body := (.cons (.sif (.isi (.v 0) [.dict]) (.cons (.rai 0 .nil) (.cons (.rai 0 .nil) (.cons (.rai 0 .nil) .nil))) .nil) (.cons (.sif (.isi (.v 0) [.list]) (.cons (.sif (.and (.atm (.cmp .ne (.v 0) (.lst 1 .nil))) (.atm (.cmp .eq (.idx (.v 0) (.neg (.int 1))) (.str [109, 97, 114, 107, 101, 100])))) (.cons (.ret .ff) .nil) .nil) (.cons (.asg (.v 2) (.lcw (.call 1240 (.cons (.v 1) .nil) []) 1 0)) (.cons (.app (.v 0) (.str [109, 97, 114, 107, 101, 100])) (.cons (.ret (.cmp .notin .ff (.v 2))) .nil)))) .nil) (.cons (.ret (.or (.not (.isi (.v 0) [.tuple])) (.cmp .notin .ff (.lcw (.call 1240 (.cons (.v 1) .nil) []) 1 0)))) .nil))) }
/-- _law_marked at level 2 -/
def fn_1242 : Fn := { np := 1, io := [0], ns := 3, body := (.cons (.sif (.isi (.v 0) [.dict]) (.cons (.rai 0 .nil) (.cons (.rai 0 .nil) (.cons (.rai 0 .nil) .nil))) .nil) (.cons (.sif (.isi (.v 0) [.list]) (.cons (.sif (.and (.atm (.cmp .ne (.v 0) (.lst 1 .nil))) (.atm (.cmp .eq (.idx (.v 0) (.neg (.int 1))) (.str [109, 97, 114, 107, 101, 100])))) (.cons (.ret .ff) .nil) .nil) (.cons (.asg (.v 2) (.lcw (.call 1241 (.cons (.v 1) .nil) [(0, 1)]) 1 0)) (.cons (.app (.v 0) (.str [109, 97, 114, 107, 101, 100])) (.cons (.ret (.cmp .notin .ff (.v 2))) .nil)))) .nil) (.cons (.ret (.or (.not (.isi (.v 0) [.tuple])) (.cmp .notin .ff (.lcw (.call 1241 (.cons (.v 1) .nil) [(0, 1)]) 1 0)))) .nil))) }
/-- _law_marked at level 3 -/
def fn_1243 : Fn := { np := 1, io := [0], ns := 3, body := (.cons (.sif (.isi (.v 0) [.dict]) (.cons (.rai 0 .nil) (.cons (.rai 0 .nil) (.cons (.rai 0 .nil) .nil))) .nil) (.cons (.sif (.isi (.v 0) [.list]) (.cons (.sif (.and (.atm (.cmp .ne (.v 0) (.lst 1 .nil))) (.atm (.cmp .eq (.idx (.v 0) (.neg (.int 1))) (.str [109, 97, 114, 107, 101, 100])))) (.cons (.ret .ff) .nil) .nil) (.cons (.asg (.v 2) (.lcw (.call 1242 (.cons (.v 1) .nil) [(0, 1)]) 1 0)) (.cons (.app (.v 0) (.str [109, 97, 114, 107, 101, 100])) (.cons (.ret (.cmp .notin .ff (.v 2))) .nil)))) .nil) (.cons (.ret (.or (.not (.isi (.v 0) [.tuple])) (.cmp .notin .ff (.lcw (.call 1242 (.cons (.v 1) .nil) [(0, 1)]) 1 0)))) .nil))) }
/-- _law_marked at level 4 -/
def fn_1244 : Fn := { np := 1, io := [0], ns := 3, body := (.cons (.sif (.isi (.v 0) [.dict]) (.cons (.rai 0 .nil) (.cons (.rai 0 .nil) (.cons (.rai 0 .nil) .nil))) .nil) (.cons (.sif (.isi (.v 0) [.list]) (.cons (.sif (.and (.atm (.cmp .ne (.v 0) (.lst 1 .nil))) (.atm (.cmp .eq (.idx (.v 0) (.neg (.int 1))) (.str [109, 97, 114, 107, 101, 100])))) (.cons (.ret .ff) .nil) .nil) (.cons (.asg (.v 2) (.lcw (.call 1243 (.cons (.v 1) .nil) [(0, 1)]) 1 0)) (.cons (.app (.v 0) (.str [109, 97, 114, 107, 101, 100])) (.cons (.ret (.cmp .notin .ff (.v 2))) .nil)))) .nil) (.cons (.ret (.or (.not (.isi (.v 0) [.tuple])) (.cmp .notin .ff (.lcw (.call 1243 (.cons (.v 1) .nil) [(0, 1)]) 1 0)))) .nil))) }
/-- _law_marked at level 5 -/
def fn_1245 : Fn := { np := 1, io := [0], ns := 3, body := (.cons (.sif (.isi (.v 0) [.dict]) (.cons (.rai 0 .nil) (.cons (.rai 0 .nil) (.cons (.rai 0 .nil) .nil))) .nil) (.cons (.sif (.isi (.v 0) [.list]) (.cons (.sif (.and (.atm (.cmp .ne (.v 0) (.lst 1 .nil))) (.atm (.cmp .eq (.idx (.v 0) (.neg (.int 1))) (.str [109, 97, 114, 107, 101, 100])))) (.cons (.ret .ff) .nil) .nil) (.cons (.asg (.v 2) (.lcw (.call 1244 (.cons (.v 1) .nil) [(0, 1)]) 1 0)) (.cons (.app (.v 0) (.str [109, 97, 114, 107, 101, 100])) (.cons (.ret (.cmp .notin .ff (.v 2))) .nil)))) .nil) (.cons (.ret (.or (.not (.isi (.v 0) [.tuple])) (.cmp .notin .ff (.lcw (.call 1244 (.cons (.v 1) .nil) [(0, 1)]) 1 0)))) .nil))) }
def progFn : Nat → Option Fn
  | 1 => some fn_1
  | 2 => some fn_2
  | 7 => some fn_7
  | 8 => some fn_8
  | 9 => some fn_9
  | 10 => some fn_10
  | 11 => some fn_11
  | 12 => some fn_12
  | 13 => some fn_13
  | 14 => some fn_14
  | 161 => some fn_161
  | 162 => some fn_162
  | 163 => some fn_163
  | 164 => some fn_164
  | 165 => some fn_165
  | 193 => some fn_193
  | 252 => some fn_252
  | 345 => some fn_345
  | 347 => some fn_347
  | 348 => some fn_348
  | 349 => some fn_349
  | 353 => some fn_353
  | 552 => some fn_552
  | 553 => some fn_553
  | 554 => some fn_554
  | 555 => some fn_555
  | 556 => some fn_556
  | 557 => some fn_557
  | 558 => some fn_558
  | 559 => some fn_559
  | 1240 => some fn_1240
  | 1241 => some fn_1241
  | 1242 => some fn_1242
  | 1243 => some fn_1243
  | 1244 => some fn_1244
  | 1245 => some fn_1245
  | _ => none
def progGlob : Nat → D
  | _ => .non
def prog : Prog := { fn := progFn, glob := progGlob }
end Pz.K15
end
section
set_option Elab.async false
set_option linter.all false
set_option maxRecDepth 100000
set_option maxHeartbeats 0
namespace Pz.K15
open Pz PySem PySem.Spec PyProof.Rows L2
def fi_1 : Fi := ⟨1, 1, [], ⟨[0], 0⟩⟩
abbrev st_1 : Stmt := PySem.Challenge.pw_puzzlebox_k15_whole_pieces_turned.main.body.getD 6 (.Pass ⟨0, 0, 0, 0⟩)
def df_1 : DfI := ⟨"is_whole", defArgs st_1, defBody st_1, defScope st_1, fi_1, fn_1, [("value" : Str)], [("value" : Str)], []⟩
def fi_2 : Fi := ⟨2, 1, [], ⟨[0], 0⟩⟩
abbrev st_2 : Stmt := PySem.Challenge.pw_puzzlebox_k15_whole_pieces_turned.main.body.getD 7 (.Pass ⟨0, 0, 0, 0⟩)
def df_2 : DfI := ⟨"is_count", defArgs st_2, defBody st_2, defScope st_2, fi_2, fn_2, [("value" : Str)], [("value" : Str)], []⟩
def fi_7 : Fi := ⟨7, 1, [], ⟨[0], 0⟩⟩
abbrev st_7 : Stmt := PySem.Challenge.pw_puzzlebox_k15_whole_pieces_turned.main.body.getD 8 (.Pass ⟨0, 0, 0, 0⟩)
def df_7 : DfI := ⟨"check_number", defArgs st_7, defBody st_7, defScope st_7, fi_7, fn_7, [("value" : Str)], [("value" : Str)], []⟩
def fi_8 : Fi := ⟨8, 1, [], ⟨[0], 0⟩⟩
abbrev st_8 : Stmt := PySem.Challenge.pw_puzzlebox_k15_whole_pieces_turned.main.body.getD 10 (.Pass ⟨0, 0, 0, 0⟩)
def df_8 : DfI := ⟨"is_shape", defArgs st_8, defBody st_8, defScope st_8, fi_8, fn_8, [("value" : Str)], [("value" : Str)], []⟩
def fi_552 : Fi := ⟨552, 1, [], ⟨[0], 0⟩⟩
abbrev st_552 : Stmt := PySem.Challenge.pw_puzzlebox_k15_whole_pieces_turned.main.body.getD 11 (.Pass ⟨0, 0, 0, 0⟩)
def df_552 : DfI := ⟨"check_shape", defArgs st_552, defBody st_552, defScope st_552, fi_552, fn_552, [("shape" : Str)], [("shape" : Str)], []⟩
def fi_9 : Fi := ⟨9, 2, [], ⟨[0, 0], 0⟩⟩
abbrev st_9 : Stmt := PySem.Challenge.pw_puzzlebox_k15_whole_pieces_turned.main.body.getD 12 (.Pass ⟨0, 0, 0, 0⟩)
def df_9 : DfI := ⟨"fits", defArgs st_9, defBody st_9, defScope st_9, fi_9, fn_9, [("one" : Str), ("other" : Str)], [("one" : Str), ("other" : Str)], []⟩
def fi_553 : Fi := ⟨553, 2, [], ⟨[0, 0], 0⟩⟩
abbrev st_553 : Stmt := PySem.Challenge.pw_puzzlebox_k15_whole_pieces_turned.main.body.getD 13 (.Pass ⟨0, 0, 0, 0⟩)
def df_553 : DfI := ⟨"do_fit", defArgs st_553, defBody st_553, defScope st_553, fi_553, fn_553, [("one" : Str), ("other" : Str)], [("one" : Str), ("other" : Str)], []⟩
def fi_10 : Fi := ⟨10, 1, [], ⟨[0], 0⟩⟩
abbrev st_10 : Stmt := PySem.Challenge.pw_puzzlebox_k15_whole_pieces_turned.main.body.getD 14 (.Pass ⟨0, 0, 0, 0⟩)
def df_10 : DfI := ⟨"is_piece", defArgs st_10, defBody st_10, defScope st_10, fi_10, fn_10, [("value" : Str), ("shape" : Str)], [("value" : Str)], []⟩
def fi_193 : Fi := ⟨193, 1, [], ⟨[0], 0⟩⟩
abbrev st_193 : Stmt := PySem.Challenge.pw_puzzlebox_k15_whole_pieces_turned.main.body.getD 15 (.Pass ⟨0, 0, 0, 0⟩)
def df_193 : DfI := ⟨"check_piece", defArgs st_193, defBody st_193, defScope st_193, fi_193, fn_193, [("piece" : Str)], [("piece" : Str)], []⟩
def fi_11 : Fi := ⟨11, 2, [], ⟨[0, 0], 0⟩⟩
abbrev st_11 : Stmt := PySem.Challenge.pw_puzzlebox_k15_whole_pieces_turned.main.body.getD 16 (.Pass ⟨0, 0, 0, 0⟩)
def df_11 : DfI := ⟨"turned_by", defArgs st_11, defBody st_11, defScope st_11, fi_11, fn_11, [("items" : Str), ("times" : Str), ("at" : Str)], [("items" : Str), ("times" : Str)], []⟩
def fi_554 : Fi := ⟨554, 2, [], ⟨[0, 0], 0⟩⟩
abbrev st_554 : Stmt := PySem.Challenge.pw_puzzlebox_k15_whole_pieces_turned.main.body.getD 17 (.Pass ⟨0, 0, 0, 0⟩)
def df_554 : DfI := ⟨"turned", defArgs st_554, defBody st_554, defScope st_554, fi_554, fn_554, [("piece" : Str), ("times" : Str)], [("piece" : Str), ("times" : Str)], []⟩
def fi_12 : Fi := ⟨12, 1, [], ⟨[0], 1⟩⟩
abbrev st_12 : Stmt := PySem.Challenge.pw_puzzlebox_k15_whole_pieces_turned.main.body.getD 18 (.Pass ⟨0, 0, 0, 0⟩)
def df_12 : DfI := ⟨"turnings_in", defArgs st_12, defBody st_12, defScope st_12, fi_12, fn_12, [("items" : Str), ("found" : Str), ("times" : Str)], [("items" : Str)], [1]⟩
def fi_555 : Fi := ⟨555, 1, [], ⟨[0], 1⟩⟩
abbrev st_555 : Stmt := PySem.Challenge.pw_puzzlebox_k15_whole_pieces_turned.main.body.getD 19 (.Pass ⟨0, 0, 0, 0⟩)
def df_555 : DfI := ⟨"turnings", defArgs st_555, defBody st_555, defScope st_555, fi_555, fn_555, [("piece" : Str)], [("piece" : Str)], []⟩
def fi_13 : Fi := ⟨13, 2, [], ⟨[0, 0], 0⟩⟩
abbrev st_13 : Stmt := PySem.Challenge.pw_puzzlebox_k15_whole_pieces_turned.main.body.getD 20 (.Pass ⟨0, 0, 0, 0⟩)
def df_13 : DfI := ⟨"turns_between", defArgs st_13, defBody st_13, defScope st_13, fi_13, fn_13, [("one" : Str), ("other" : Str), ("rows" : Str)], [("one" : Str), ("other" : Str)], []⟩
def fi_556 : Fi := ⟨556, 2, [], ⟨[0, 0], 0⟩⟩
abbrev st_556 : Stmt := PySem.Challenge.pw_puzzlebox_k15_whole_pieces_turned.main.body.getD 21 (.Pass ⟨0, 0, 0, 0⟩)
def df_556 : DfI := ⟨"turns_to", defArgs st_556, defBody st_556, defScope st_556, fi_556, fn_556, [("one" : Str), ("other" : Str)], [("one" : Str), ("other" : Str)], []⟩
def fi_14 : Fi := ⟨14, 1, [], ⟨[0], 0⟩⟩
abbrev st_14 : Stmt := PySem.Challenge.pw_puzzlebox_k15_whole_pieces_turned.main.body.getD 22 (.Pass ⟨0, 0, 0, 0⟩)
def df_14 : DfI := ⟨"first_turned", defArgs st_14, defBody st_14, defScope st_14, fi_14, fn_14, [("items" : Str)], [("items" : Str)], []⟩
def fi_557 : Fi := ⟨557, 1, [], ⟨[0], 0⟩⟩
abbrev st_557 : Stmt := PySem.Challenge.pw_puzzlebox_k15_whole_pieces_turned.main.body.getD 23 (.Pass ⟨0, 0, 0, 0⟩)
def df_557 : DfI := ⟨"least_turned", defArgs st_557, defBody st_557, defScope st_557, fi_557, fn_557, [("piece" : Str)], [("piece" : Str)], []⟩
def fi_161 : Fi := ⟨161, 2, [], ⟨[0, 0], 0⟩⟩
abbrev st_161 : Stmt := PySem.Challenge.pw_puzzlebox_k15_whole_pieces_turned.main.body.getD 25 (.Pass ⟨0, 0, 0, 0⟩)
def df_161 : DfI := ⟨"_law_hash", defArgs st_161, defBody st_161, defScope st_161, fi_161, fn_161, [("seed" : Str), ("index" : Str), ("mixed" : Str)], [("seed" : Str), ("index" : Str)], []⟩
def fi_162 : Fi := ⟨162, 2, [0], ⟨[1, 0], 0⟩⟩
abbrev st_162 : Stmt := PySem.Challenge.pw_puzzlebox_k15_whole_pieces_turned.main.body.getD 26 (.Pass ⟨0, 0, 0, 0⟩)
def df_162 : DfI := ⟨"_law_random", defArgs st_162, defBody st_162, defScope st_162, fi_162, fn_162, [("generator" : Str), ("bound" : Str), ("drawn" : Str), ("turn" : Str)], [("generator" : Str), ("bound" : Str)], [0]⟩
def fi_163 : Fi := ⟨163, 2, [], ⟨[0, 0], 0⟩⟩
abbrev st_163 : Stmt := PySem.Challenge.pw_puzzlebox_k15_whole_pieces_turned.main.body.getD 27 (.Pass ⟨0, 0, 0, 0⟩)
def df_163 : DfI := ⟨"_law_cell", defArgs st_163, defBody st_163, defScope st_163, fi_163, fn_163, [("script" : Str), ("index" : Str)], [("script" : Str), ("index" : Str)], []⟩
def fi_164 : Fi := ⟨164, 2, [], ⟨[0, 0], 1⟩⟩
abbrev st_164 : Stmt := PySem.Challenge.pw_puzzlebox_k15_whole_pieces_turned.main.body.getD 28 (.Pass ⟨0, 0, 0, 0⟩)
def df_164 : DfI := ⟨"_law_generator", defArgs st_164, defBody st_164, defScope st_164, fi_164, fn_164, [("script" : Str), ("index" : Str), ("seed" : Str)], [("script" : Str), ("index" : Str)], []⟩
def fi_345 : Fi := ⟨345, 2, [], ⟨[0, 0], 0⟩⟩
abbrev st_345 : Stmt := PySem.Challenge.pw_puzzlebox_k15_whole_pieces_turned.main.body.getD 29 (.Pass ⟨0, 0, 0, 0⟩)
def df_345 : DfI := ⟨"_law_same", defArgs st_345, defBody st_345, defScope st_345, fi_345, fn_345, [("told" : Str), ("due" : Str), ("is_like" : Str), ("one" : Str), ("other" : Str)], [("told" : Str), ("due" : Str)], []⟩
def fi_165 : Fi := ⟨165, 2, [0], ⟨[1, 0], 0⟩⟩
abbrev st_165 : Stmt := PySem.Challenge.pw_puzzlebox_k15_whole_pieces_turned.main.body.getD 30 (.Pass ⟨0, 0, 0, 0⟩)
def df_165 : DfI := ⟨"_law_pick", defArgs st_165, defBody st_165, defScope st_165, fi_165, fn_165, [("generator" : Str), ("things" : Str)], [("generator" : Str), ("things" : Str)], [0]⟩
def fi_347 : Fi := ⟨347, 2, [], ⟨[0, 0], 0⟩⟩
abbrev st_347 : Stmt := PySem.Challenge.pw_puzzlebox_k15_whole_pieces_turned.main.body.getD 32 (.Pass ⟨0, 0, 0, 0⟩)
def df_347 : DfI := ⟨"_law_turned", defArgs st_347, defBody st_347, defScope st_347, fi_347, fn_347, [("piece" : Str), ("times" : Str), ("turn" : Str)], [("piece" : Str), ("times" : Str)], []⟩
def fi_348 : Fi := ⟨348, 1, [], ⟨[0], 1⟩⟩
abbrev st_348 : Stmt := PySem.Challenge.pw_puzzlebox_k15_whole_pieces_turned.main.body.getD 33 (.Pass ⟨0, 0, 0, 0⟩)
def df_348 : DfI := ⟨"_law_turnings", defArgs st_348, defBody st_348, defScope st_348, fi_348, fn_348, [("piece" : Str), ("found" : Str), ("times" : Str)], [("piece" : Str)], [1]⟩
def fi_349 : Fi := ⟨349, 2, [0], ⟨[1, 0], 0⟩⟩
abbrev st_349 : Stmt := PySem.Challenge.pw_puzzlebox_k15_whole_pieces_turned.main.body.getD 34 (.Pass ⟨0, 0, 0, 0⟩)
def df_349 : DfI := ⟨"_law_shape", defArgs st_349, defBody st_349, defScope st_349, fi_349, fn_349, [("generator" : Str), ("kinds" : Str)], [("generator" : Str), ("kinds" : Str)], [0]⟩
def fi_353 : Fi := ⟨353, 2, [0], ⟨[1, 0], 0⟩⟩
abbrev st_353 : Stmt := PySem.Challenge.pw_puzzlebox_k15_whole_pieces_turned.main.body.getD 35 (.Pass ⟨0, 0, 0, 0⟩)
def df_353 : DfI := ⟨"_law_piece", defArgs st_353, defBody st_353, defScope st_353, fi_353, fn_353, [("generator" : Str), ("kinds" : Str), ("side" : Str)], [("generator" : Str), ("kinds" : Str)], [0]⟩
def fi_252 : Fi := ⟨252, 1, [], ⟨[0], 0⟩⟩
abbrev st_252 : Stmt := PySem.Challenge.pw_puzzlebox_k15_whole_pieces_turned.main.body.getD 36 (.Pass ⟨0, 0, 0, 0⟩)
def df_252 : DfI := ⟨"_law_is_whole", defArgs st_252, defBody st_252, defScope st_252, fi_252, fn_252, [("value" : Str)], [("value" : Str)], []⟩
def fi_558 : Fi := ⟨558, 1, [0], ⟨[1], 0⟩⟩
abbrev st_558 : Stmt := PySem.Challenge.pw_puzzlebox_k15_whole_pieces_turned.main.body.getD 37 (.Pass ⟨0, 0, 0, 0⟩)
def df_558 : DfI := ⟨"_law_right", defArgs st_558, defBody st_558, defScope st_558, fi_558, fn_558, [("generator" : Str), ("piece" : Str), ("value" : Str), ("odd" : Str), ("at" : Str), ("one" : Str), ("other" : Str), ("fits_v" : Str), ("least" : Str), ("due" : Str), ("times" : Str), ("late" : Str), ("many" : Str), ("told" : Str)], [("generator" : Str)], [0, 13]⟩
def fi_559 : Fi := ⟨559, 1, [], ⟨[0], 0⟩⟩
abbrev st_559 : Stmt := PySem.Challenge.pw_puzzlebox_k15_whole_pieces_turned.main.body.getD 38 (.Pass ⟨0, 0, 0, 0⟩)
def df_559 : DfI := ⟨"law", defArgs st_559, defBody st_559, defScope st_559, fi_559, fn_559, [("script" : Str), ("generator" : Str), ("turn" : Str), ("index" : Str)], [("script" : Str)], [1]⟩
def fi_1240 : Fi := ⟨1240, 1, [], ⟨[0], 0⟩⟩
abbrev st_1240 : Stmt := PySem.Challenge.pw_puzzlebox_k15_whole_pieces_turned.main.body.getD 31 (.Pass ⟨0, 0, 0, 0⟩)
def df_1240 : DfI := ⟨"_law_marked", defArgs st_1240, defBody st_1240, defScope st_1240, fi_1240, fn_1240, [("told" : Str), ("item" : Str), ("kept" : Str)], [("told" : Str)], [0]⟩
def fi_1241 : Fi := ⟨1241, 1, [0], ⟨[1], 0⟩⟩
abbrev st_1241 : Stmt := PySem.Challenge.pw_puzzlebox_k15_whole_pieces_turned.main.body.getD 31 (.Pass ⟨0, 0, 0, 0⟩)
def df_1241 : DfI := ⟨"_law_marked", defArgs st_1241, defBody st_1241, defScope st_1241, fi_1241, fn_1241, [("told" : Str), ("item" : Str), ("kept" : Str)], [("told" : Str)], [0]⟩
def fi_1242 : Fi := ⟨1242, 1, [0], ⟨[2], 0⟩⟩
abbrev st_1242 : Stmt := PySem.Challenge.pw_puzzlebox_k15_whole_pieces_turned.main.body.getD 31 (.Pass ⟨0, 0, 0, 0⟩)
def df_1242 : DfI := ⟨"_law_marked", defArgs st_1242, defBody st_1242, defScope st_1242, fi_1242, fn_1242, [("told" : Str), ("item" : Str), ("kept" : Str)], [("told" : Str)], [0]⟩
def fi_1243 : Fi := ⟨1243, 1, [0], ⟨[3], 0⟩⟩
abbrev st_1243 : Stmt := PySem.Challenge.pw_puzzlebox_k15_whole_pieces_turned.main.body.getD 31 (.Pass ⟨0, 0, 0, 0⟩)
def df_1243 : DfI := ⟨"_law_marked", defArgs st_1243, defBody st_1243, defScope st_1243, fi_1243, fn_1243, [("told" : Str), ("item" : Str), ("kept" : Str)], [("told" : Str)], [0]⟩
def fi_1244 : Fi := ⟨1244, 1, [0], ⟨[4], 0⟩⟩
abbrev st_1244 : Stmt := PySem.Challenge.pw_puzzlebox_k15_whole_pieces_turned.main.body.getD 31 (.Pass ⟨0, 0, 0, 0⟩)
def df_1244 : DfI := ⟨"_law_marked", defArgs st_1244, defBody st_1244, defScope st_1244, fi_1244, fn_1244, [("told" : Str), ("item" : Str), ("kept" : Str)], [("told" : Str)], [0]⟩
def fi_1245 : Fi := ⟨1245, 1, [0], ⟨[5], 0⟩⟩
abbrev st_1245 : Stmt := PySem.Challenge.pw_puzzlebox_k15_whole_pieces_turned.main.body.getD 31 (.Pass ⟨0, 0, 0, 0⟩)
def df_1245 : DfI := ⟨"_law_marked", defArgs st_1245, defBody st_1245, defScope st_1245, fi_1245, fn_1245, [("told" : Str), ("item" : Str), ("kept" : Str)], [("told" : Str)], [0]⟩
def fns : List (Str × Fi) := [(("is_whole" : Str), fi_1), (("is_count" : Str), fi_2), (("check_number" : Str), fi_7), (("is_shape" : Str), fi_8), (("check_shape" : Str), fi_552), (("fits" : Str), fi_9), (("do_fit" : Str), fi_553), (("is_piece" : Str), fi_10), (("check_piece" : Str), fi_193), (("turned_by" : Str), fi_11), (("turned" : Str), fi_554), (("turnings_in" : Str), fi_12), (("turnings" : Str), fi_555), (("turns_between" : Str), fi_13), (("turns_to" : Str), fi_556), (("first_turned" : Str), fi_14), (("least_turned" : Str), fi_557), (("_law_hash" : Str), fi_161), (("_law_random" : Str), fi_162), (("_law_cell" : Str), fi_163), (("_law_generator" : Str), fi_164), (("_law_same" : Str), fi_345), (("_law_pick" : Str), fi_165), (("_law_turned" : Str), fi_347), (("_law_turnings" : Str), fi_348), (("_law_shape" : Str), fi_349), (("_law_piece" : Str), fi_353), (("_law_is_whole" : Str), fi_252), (("_law_right" : Str), fi_558), (("law" : Str), fi_559), (("_law_marked" : Str), fi_1240), (("_law_marked" : Str), fi_1241), (("_law_marked" : Str), fi_1242), (("_law_marked" : Str), fi_1243), (("_law_marked" : Str), fi_1244), (("_law_marked" : Str), fi_1245)]
def bl : List Str := [("len" : Str), ("int" : Str), ("abs" : Str), ("repr" : Str), ("str" : Str), ("sum" : Str), ("min" : Str), ("max" : Str), ("list" : Str), ("tuple" : Str), ("dict" : Str), ("set" : Str), ("sorted" : Str), ("all" : Str), ("any" : Str), ("range" : Str), ("enumerate" : Str), ("zip" : Str), ("reversed" : Str), ("isinstance" : Str), ("bool" : Str)]
def kwl : KwL := [("turnings", 0, [("piece" : Str)], [0]), ("least_turned", 0, [("piece" : Str)], [0]), ("turned", 0, [("times" : Str), ("piece" : Str)], [1, 0]), ("turns_to", 0, [("other" : Str), ("one" : Str)], [1, 0]), ("is_shape", 0, [("value" : Str)], [0]), ("is_piece", 0, [("value" : Str)], [0]), ("do_fit", 0, [("other" : Str), ("one" : Str)], [1, 0])]
def gl : List (Str × Nat × D) := []
def ex : List (Str × Nat) := [("PuzzleError", 0), ("InvalidNumber", 9), ("InvalidShape", 22), ("InvalidPiece", 14)]
def tb : Tb := ⟨fns, bl, kwl, gl, ex⟩
def ds0 : List DfI := [df_1, df_2, df_7, df_8, df_552, df_9, df_553, df_10, df_193, df_11, df_554, df_12, df_555, df_13, df_556, df_14, df_557, df_161, df_162, df_163, df_164, df_345, df_165, df_347, df_348, df_349, df_353, df_252, df_558, df_559]
def ds : List DfI := [df_1, df_2, df_7, df_8, df_552, df_9, df_553, df_10, df_193, df_11, df_554, df_12, df_555, df_13, df_556, df_14, df_557, df_161, df_162, df_163, df_164, df_345, df_165, df_347, df_348, df_349, df_353, df_252, df_558, df_559, df_1240, df_1241, df_1242, df_1243, df_1244, df_1245]
theorem bd_1 : BindOk df_1 := fun _ _ _ _ _ _ us hl => match us, hl with | [_], _ => rfl
theorem bd_2 : BindOk df_2 := fun _ _ _ _ _ _ us hl => match us, hl with | [_], _ => rfl
theorem bd_7 : BindOk df_7 := fun _ _ _ _ _ _ us hl => match us, hl with | [_], _ => rfl
theorem bd_8 : BindOk df_8 := fun _ _ _ _ _ _ us hl => match us, hl with | [_], _ => rfl
theorem bd_552 : BindOk df_552 := fun _ _ _ _ _ _ us hl => match us, hl with | [_], _ => rfl
theorem bd_9 : BindOk df_9 := fun _ _ _ _ _ _ us hl => match us, hl with | [_, _], _ => rfl
theorem bd_553 : BindOk df_553 := fun _ _ _ _ _ _ us hl => match us, hl with | [_, _], _ => rfl
theorem bd_10 : BindOk df_10 := fun _ _ _ _ _ _ us hl => match us, hl with | [_], _ => rfl
theorem bd_193 : BindOk df_193 := fun _ _ _ _ _ _ us hl => match us, hl with | [_], _ => rfl
theorem bd_11 : BindOk df_11 := fun _ _ _ _ _ _ us hl => match us, hl with | [_, _], _ => rfl
theorem bd_554 : BindOk df_554 := fun _ _ _ _ _ _ us hl => match us, hl with | [_, _], _ => rfl
theorem bd_12 : BindOk df_12 := fun _ _ _ _ _ _ us hl => match us, hl with | [_], _ => rfl
theorem bd_555 : BindOk df_555 := fun _ _ _ _ _ _ us hl => match us, hl with | [_], _ => rfl
theorem bd_13 : BindOk df_13 := fun _ _ _ _ _ _ us hl => match us, hl with | [_, _], _ => rfl
theorem bd_556 : BindOk df_556 := fun _ _ _ _ _ _ us hl => match us, hl with | [_, _], _ => rfl
theorem bd_14 : BindOk df_14 := fun _ _ _ _ _ _ us hl => match us, hl with | [_], _ => rfl
theorem bd_557 : BindOk df_557 := fun _ _ _ _ _ _ us hl => match us, hl with | [_], _ => rfl
theorem bd_161 : BindOk df_161 := fun _ _ _ _ _ _ us hl => match us, hl with | [_, _], _ => rfl
theorem bd_162 : BindOk df_162 := fun _ _ _ _ _ _ us hl => match us, hl with | [_, _], _ => rfl
theorem bd_163 : BindOk df_163 := fun _ _ _ _ _ _ us hl => match us, hl with | [_, _], _ => rfl
theorem bd_164 : BindOk df_164 := fun _ _ _ _ _ _ us hl => match us, hl with | [_, _], _ => rfl
theorem bd_345 : BindOk df_345 := fun _ _ _ _ _ _ us hl => match us, hl with | [_, _], _ => rfl
theorem bd_165 : BindOk df_165 := fun _ _ _ _ _ _ us hl => match us, hl with | [_, _], _ => rfl
theorem bd_347 : BindOk df_347 := fun _ _ _ _ _ _ us hl => match us, hl with | [_, _], _ => rfl
theorem bd_348 : BindOk df_348 := fun _ _ _ _ _ _ us hl => match us, hl with | [_], _ => rfl
theorem bd_349 : BindOk df_349 := fun _ _ _ _ _ _ us hl => match us, hl with | [_, _], _ => rfl
theorem bd_353 : BindOk df_353 := fun _ _ _ _ _ _ us hl => match us, hl with | [_, _], _ => rfl
theorem bd_252 : BindOk df_252 := fun _ _ _ _ _ _ us hl => match us, hl with | [_], _ => rfl
theorem bd_558 : BindOk df_558 := fun _ _ _ _ _ _ us hl => match us, hl with | [_], _ => rfl
theorem bd_559 : BindOk df_559 := fun _ _ _ _ _ _ us hl => match us, hl with | [_], _ => rfl
theorem bd_1240 : BindOk df_1240 := fun _ _ _ _ _ _ us hl => match us, hl with | [_], _ => rfl
theorem bd_1241 : BindOk df_1241 := fun _ _ _ _ _ _ us hl => match us, hl with | [_], _ => rfl
theorem bd_1242 : BindOk df_1242 := fun _ _ _ _ _ _ us hl => match us, hl with | [_], _ => rfl
theorem bd_1243 : BindOk df_1243 := fun _ _ _ _ _ _ us hl => match us, hl with | [_], _ => rfl
theorem bd_1244 : BindOk df_1244 := fun _ _ _ _ _ _ us hl => match us, hl with | [_], _ => rfl
theorem bd_1245 : BindOk df_1245 := fun _ _ _ _ _ _ us hl => match us, hl with | [_], _ => rfl
theorem kw_0 : KwOk df_555 0 [("piece" : Str)] [0] := fun _ _ _ _ _ _ us ws h1 h2 => match us, ws, h1, h2 with | [], [_], _, _ => rfl
theorem kw_1 : KwOk df_557 0 [("piece" : Str)] [0] := fun _ _ _ _ _ _ us ws h1 h2 => match us, ws, h1, h2 with | [], [_], _, _ => rfl
theorem kw_2 : KwOk df_554 0 [("times" : Str), ("piece" : Str)] [1, 0] := fun _ _ _ _ _ _ us ws h1 h2 => match us, ws, h1, h2 with | [], [_, _], _, _ => rfl
theorem kw_3 : KwOk df_556 0 [("other" : Str), ("one" : Str)] [1, 0] := fun _ _ _ _ _ _ us ws h1 h2 => match us, ws, h1, h2 with | [], [_, _], _, _ => rfl
theorem kw_4 : KwOk df_8 0 [("value" : Str)] [0] := fun _ _ _ _ _ _ us ws h1 h2 => match us, ws, h1, h2 with | [], [_], _, _ => rfl
theorem kw_5 : KwOk df_10 0 [("value" : Str)] [0] := fun _ _ _ _ _ _ us ws h1 h2 => match us, ws, h1, h2 with | [], [_], _, _ => rfl
theorem kw_6 : KwOk df_553 0 [("other" : Str), ("one" : Str)] [1, 0] := fun _ _ _ _ _ _ us ws h1 h2 => match us, ws, h1, h2 with | [], [_, _], _, _ => rfl
theorem chk_1 : DfI.ok df_1 tb = true := by decide +kernel
theorem chk_2 : DfI.ok df_2 tb = true := by decide +kernel
theorem chk_7 : DfI.ok df_7 tb = true := by decide +kernel
theorem chk_8 : DfI.ok df_8 tb = true := by decide +kernel
theorem chk_552 : DfI.ok df_552 tb = true := by decide +kernel
theorem chk_9 : DfI.ok df_9 tb = true := by decide +kernel
theorem chk_553 : DfI.ok df_553 tb = true := by decide +kernel
theorem chk_10 : DfI.ok df_10 tb = true := by decide +kernel
theorem chk_193 : DfI.ok df_193 tb = true := by decide +kernel
theorem chk_11 : DfI.ok df_11 tb = true := by decide +kernel
theorem chk_554 : DfI.ok df_554 tb = true := by decide +kernel
theorem chk_12 : DfI.ok df_12 tb = true := by decide +kernel
theorem chk_555 : DfI.ok df_555 tb = true := by decide +kernel
theorem chk_13 : DfI.ok df_13 tb = true := by decide +kernel
theorem chk_556 : DfI.ok df_556 tb = true := by decide +kernel
theorem chk_14 : DfI.ok df_14 tb = true := by decide +kernel
theorem chk_557 : DfI.ok df_557 tb = true := by decide +kernel
theorem chk_161 : DfI.ok df_161 tb = true := by decide +kernel
theorem chk_162 : DfI.ok df_162 tb = true := by decide +kernel
theorem chk_163 : DfI.ok df_163 tb = true := by decide +kernel
theorem chk_164 : DfI.ok df_164 tb = true := by decide +kernel
theorem chk_345 : DfI.ok df_345 tb = true := by decide +kernel
theorem chk_165 : DfI.ok df_165 tb = true := by decide +kernel
theorem chk_347 : DfI.ok df_347 tb = true := by decide +kernel
theorem chk_348 : DfI.ok df_348 tb = true := by decide +kernel
theorem chk_349 : DfI.ok df_349 tb = true := by decide +kernel
theorem chk_353 : DfI.ok df_353 tb = true := by decide +kernel
theorem chk_252 : DfI.ok df_252 tb = true := by decide +kernel
theorem chk_558 : DfI.ok df_558 tb = true := by decide +kernel
theorem chk_559 : DfI.ok df_559 tb = true := by decide +kernel
theorem chk_1240 : DfI.ok df_1240 tb = true := by decide +kernel
theorem chk_1241 : DfI.ok df_1241 tb = true := by decide +kernel
theorem chk_1242 : DfI.ok df_1242 tb = true := by decide +kernel
theorem chk_1243 : DfI.ok df_1243 tb = true := by decide +kernel
theorem chk_1244 : DfI.ok df_1244 tb = true := by decide +kernel
theorem chk_1245 : DfI.ok df_1245 tb = true := by decide +kernel
theorem xinj : ∀ d ∈ ds0, ∀ d2 ∈ ds0, d.x = d2.x → d = d2 := by
  intro d hd d2 hd2
  simp only [ds0, List.mem_cons, List.not_mem_nil, or_false] at hd hd2
  have nd : (ds0.map (·.x)).Nodup := by decide +kernel
  intro e
  obtain ⟨i, hi, e1⟩ := List.getElem_of_mem (show d ∈ ds0 by simpa [ds0] using hd)
  obtain ⟨j, hj, e2⟩ := List.getElem_of_mem (show d2 ∈ ds0 by simpa [ds0] using hd2)
  have : i = j := by
    refine (List.getElem_inj (xs := ds0.map (·.x)) (h₀ := by simpa using hi) (h₁ := by simpa using hj) nd).mp ?_
    rw [List.getElem_map, List.getElem_map, e1, e2, e]
  subst this
  rw [← e1, ← e2]
theorem tbOk : TbOk ds tb prog where
  bind := by
    intro d hd
    simp only [ds, List.mem_cons, List.not_mem_nil, or_false] at hd
    rcases hd with rfl | rfl | rfl | rfl | rfl | rfl | rfl | rfl | rfl | rfl | rfl | rfl | rfl | rfl | rfl | rfl | rfl | rfl | rfl | rfl | rfl | rfl | rfl | rfl | rfl | rfl | rfl | rfl | rfl | rfl | rfl | rfl | rfl | rfl | rfl | rfl
    · exact bd_1
    · exact bd_2
    · exact bd_7
    · exact bd_8
    · exact bd_552
    · exact bd_9
    · exact bd_553
    · exact bd_10
    · exact bd_193
    · exact bd_11
    · exact bd_554
    · exact bd_12
    · exact bd_555
    · exact bd_13
    · exact bd_556
    · exact bd_14
    · exact bd_557
    · exact bd_161
    · exact bd_162
    · exact bd_163
    · exact bd_164
    · exact bd_345
    · exact bd_165
    · exact bd_347
    · exact bd_348
    · exact bd_349
    · exact bd_353
    · exact bd_252
    · exact bd_558
    · exact bd_559
    · exact bd_1240
    · exact bd_1241
    · exact bd_1242
    · exact bd_1243
    · exact bd_1244
    · exact bd_1245
  kw := by
    intro d hd q hq e
    have key : ∀ q ∈ kwl, ∃ d ∈ ds0, q.1 = d.x ∧ KwOk d q.2.1 q.2.2.1 q.2.2.2 := by
      intro q hq
      simp only [kwl, List.mem_cons, List.not_mem_nil, or_false] at hq
      rcases hq with rfl | rfl | rfl | rfl | rfl | rfl | rfl
      · exact ⟨df_555, by simp [ds0], rfl, kw_0⟩
      · exact ⟨df_557, by simp [ds0], rfl, kw_1⟩
      · exact ⟨df_554, by simp [ds0], rfl, kw_2⟩
      · exact ⟨df_556, by simp [ds0], rfl, kw_3⟩
      · exact ⟨df_8, by simp [ds0], rfl, kw_4⟩
      · exact ⟨df_10, by simp [ds0], rfl, kw_5⟩
      · exact ⟨df_553, by simp [ds0], rfl, kw_6⟩
    obtain ⟨d2, h1, h2, h3⟩ := key q hq
    have : d = d2 := xinj d (by
      have nm : ∀ q ∈ kwl, q.1 ≠ ("_law_marked" : Str) := by decide +kernel
      have nq := nm q hq
      simp only [ds, List.mem_cons, List.not_mem_nil, or_false] at hd
      simp only [ds0, List.mem_cons, List.not_mem_nil, or_false]
      rcases hd with rfl | rfl | rfl | rfl | rfl | rfl | rfl | rfl | rfl | rfl | rfl | rfl | rfl | rfl | rfl | rfl | rfl | rfl | rfl | rfl | rfl | rfl | rfl | rfl | rfl | rfl | rfl | rfl | rfl | rfl | rfl | rfl | rfl | rfl | rfl | rfl
      · simp
      · simp
      · simp
      · simp
      · simp
      · simp
      · simp
      · simp
      · simp
      · simp
      · simp
      · simp
      · simp
      · simp
      · simp
      · simp
      · simp
      · simp
      · simp
      · simp
      · simp
      · simp
      · simp
      · simp
      · simp
      · simp
      · simp
      · simp
      · simp
      · simp
      · exact absurd e nq
      · exact absurd e nq
      · exact absurd e nq
      · exact absurd e nq
      · exact absurd e nq
      · exact absurd e nq
      ) d2 h1 (by rw [← e, h2])
    rw [this]; exact h3
  chk := by
    intro d hd
    simp only [ds, List.mem_cons, List.not_mem_nil, or_false] at hd
    rcases hd with rfl | rfl | rfl | rfl | rfl | rfl | rfl | rfl | rfl | rfl | rfl | rfl | rfl | rfl | rfl | rfl | rfl | rfl | rfl | rfl | rfl | rfl | rfl | rfl | rfl | rfl | rfl | rfl | rfl | rfl | rfl | rfl | rfl | rfl | rfl | rfl
    · exact chk_1
    · exact chk_2
    · exact chk_7
    · exact chk_8
    · exact chk_552
    · exact chk_9
    · exact chk_553
    · exact chk_10
    · exact chk_193
    · exact chk_11
    · exact chk_554
    · exact chk_12
    · exact chk_555
    · exact chk_13
    · exact chk_556
    · exact chk_14
    · exact chk_557
    · exact chk_161
    · exact chk_162
    · exact chk_163
    · exact chk_164
    · exact chk_345
    · exact chk_165
    · exact chk_347
    · exact chk_348
    · exact chk_349
    · exact chk_353
    · exact chk_252
    · exact chk_558
    · exact chk_559
    · exact chk_1240
    · exact chk_1241
    · exact chk_1242
    · exact chk_1243
    · exact chk_1244
    · exact chk_1245
  fn := by
    intro d hd
    simp only [ds, List.mem_cons, List.not_mem_nil, or_false] at hd
    rcases hd with rfl | rfl | rfl | rfl | rfl | rfl | rfl | rfl | rfl | rfl | rfl | rfl | rfl | rfl | rfl | rfl | rfl | rfl | rfl | rfl | rfl | rfl | rfl | rfl | rfl | rfl | rfl | rfl | rfl | rfl | rfl | rfl | rfl | rfl | rfl | rfl <;> rfl
  fns := by
    intro x fi h
    have := h
    have e : fns = ds.map fun d => (d.x, d.fi) := rfl
    rw [show tb.fns = fns from rfl, e] at this
    obtain ⟨d, hd, e2⟩ := List.mem_map.mp this
    exact ⟨d, hd, congrArg Prod.fst e2, congrArg Prod.snd e2⟩
  gl := by
    intro q hq
    simp only [tb, gl, List.mem_cons, List.not_mem_nil, or_false] at hq
  nd := by decide +kernel
  ndx := by decide +kernel
end Pz.K15
end
section
set_option Elab.async false
set_option linter.all false
/-! When the evaluator's repr tells: a bound of a text's size. -/
namespace Pz
open PySem

mutual
/-- a bound of the size of what is shown -/
def shB : D → Nat
  | .non => 4
  | .bl _ => 5
  | .int _ => 1921
  | .str s => 10 * s.length + 2
  | .lst l => shL l + 2
  | .tup l => shL l + 3
  | .dic ks vs => shL ks + shL vs + 2
  | .set _ | .fn _ | .exc _ _ => 4
def shL : List D → Nat
  | [] => 0
  | x :: l => shB x + 2 + shL l
end
mutual
/-- no sign, no int too great; no set, no function -/
def smD : D → Bool
  | .non | .bl _ => true
  | .int i => decide (i.natAbs.log2 < 1920)
  | .str s => s.all fun c => decide (c < 4294967296)
  | .lst l => smL l
  | .tup l => smL l
  | .dic ks vs => smL ks && smL vs && ks.length == vs.length
  | .set _ | .fn _ | .exc _ _ => false
def smL : List D → Bool
  | [] => true
  | x :: l => smD x && smL l
end
theorem shAll_eq : ∀ l : List PyData, PyData.shownAll l = l.map PyData.shown
  | [] => rfl
  | x :: l => by rw [PyData.shownAll, List.map_cons, shAll_eq l]
theorem join_le (ts : List Str) : (Str.join ", " ts).length ≤ (ts.map fun t => t.length + 2).sum := by
  have h := StrLaws.join_length_le ", " ts
  have e : ∀ ts : List Str, (ts.map (·.length)).sum + ts.length * 2 = (ts.map fun t => t.length + 2).sum := fun ts => by
    induction ts with
    | nil => rfl
    | cons t ts ih => simp only [List.map_cons, List.sum_cons, List.length_cons]; omega
  rw [← e]
  exact h
theorem kv_eq : ∀ (a b : List PyData), (PyData.shownKv (a.zip b)).map (fun t => t.length + 2) = (a.zip b).map fun p => p.1.shown.length + p.2.shown.length + 4
  | [], _ => rfl
  | _ :: _, [] => rfl
  | x :: a, y :: b => by
    rw [List.zip_cons_cons, PyData.shownKv, List.map_cons, List.map_cons, kv_eq a b, strLen_append, strLen_append]
    congr 1
    show x.shown.length + 2 + y.shown.length + 2 = x.shown.length + y.shown.length + 4
    omega
mutual
theorem shown_le : ∀ d : D, smD d = true → (toPy d).shown.length ≤ shB d
  | .non, _ => by decide
  | .bl b, _ => by cases b <;> decide
  | .int i, h => PyProof.Rows.int_text_len_1921 (of_decide_eq_true h)
  | .str s, h => by
    have := StrLaws.reprText_len ⟨s.toArray⟩ (fun c hc => by
      have := List.all_eq_true.mp h c (by simpa using hc)
      simpa using this)
    have e : (⟨s.toArray⟩ : Str).length = s.length := by simp [Str.length]
    rw [e] at this
    exact this
  | .lst l, h => by
    have := shown_leL l h
    show (PyData.list (toPyL l)).shown.length ≤ _
    rw [PyData.shown_list, strLen_append, strLen_append, shAll_eq]
    have j := join_le ((toPyL l).map PyData.shown)
    show 1 + _ + 1 ≤ shL l + 2
    omega
  | .tup l, h => by
    have := shown_leL l h
    show (PyData.tuple (toPyL l)).shown.length ≤ _
    rw [PyData.shown_tuple, strLen_append, strLen_append, shAll_eq]
    have j := join_le ((toPyL l).map PyData.shown)
    have k : ((if (toPyL l).length == 1 then ",)" else ")" : String) : Str).length ≤ 2 := by split <;> decide
    show 1 + _ + _ ≤ shL l + 3
    omega
  | .dic ks vs, h => by
    replace h : (smL ks && smL vs && ks.length == vs.length) = true := h
    simp only [Bool.and_eq_true, beq_iff_eq] at h
    have h1 := shown_leL ks h.1.1
    have h2 := shown_leL vs h.1.2
    show (PyData.dict ((toPyL ks).zip (toPyL vs))).shown.length ≤ _
    rw [PyData.shown_dict, strLen_append, strLen_append]
    have j := join_le (PyData.shownKv ((toPyL ks).zip (toPyL vs)))
    rw [kv_eq] at j
    have k : ∀ a b : List PyData, ((a.zip b).map fun p => p.1.shown.length + p.2.shown.length + 4).sum ≤ ((a.map PyData.shown).map fun t => t.length + 2).sum + ((b.map PyData.shown).map fun t => t.length + 2).sum := fun a => by
      induction a with
      | nil => intro b; simp
      | cons x a ih =>
        intro b
        cases b with
        | nil => simp
        | cons y b =>
          have := ih b
          simp only [List.zip_cons_cons, List.map_cons, List.sum_cons]
          omega
    have k' := k (toPyL ks) (toPyL vs)
    show 1 + _ + 1 ≤ shL ks + shL vs + 2
    omega
  | .set _, h => by cases h
  | .fn _, h => by cases h
  | .exc _ _, h => by cases h
theorem shown_leL : ∀ l : List D, smL l = true → (((toPyL l).map PyData.shown).map fun t => t.length + 2).sum ≤ shL l
  | [], _ => Nat.zero_le _
  | d :: l, h => by
    replace h : (smD d && smL l) = true := h
    rw [Bool.and_eq_true] at h
    have h1 := shown_le d h.1
    have h2 := shown_leL l h.2
    show (toPy d).shown.length + 2 + _ ≤ shB d + 2 + shL l
    exact Nat.add_le_add (Nat.add_le_add_right h1 2) h2
end
mutual
theorem showable_sm : ∀ d : D, smD d = true → (toPy d).showable = true
  | .non, _ => rfl
  | .bl _, _ => rfl
  | .int _, h => h
  | .str _, _ => rfl
  | .lst l, h => showable_smL l h
  | .tup l, h => showable_smL l h
  | .dic ks vs, h => by
    replace h : (smL ks && smL vs && ks.length == vs.length) = true := h
    simp only [Bool.and_eq_true, beq_iff_eq] at h
    have h1 := showable_smL ks h.1.1
    have h2 := showable_smL vs h.1.2
    show PyData.showableKv ((toPyL ks).zip (toPyL vs)) = true
    have k : ∀ a b : List PyData, PyData.showableAll a = true → PyData.showableAll b = true → PyData.showableKv (a.zip b) = true := fun a => by
      induction a with
      | nil => intro b _ _; simp [PyData.showableKv]
      | cons x a ih =>
        intro b h1 h2
        cases b with
        | nil => simp [PyData.showableKv]
        | cons y b =>
          replace h1 : (PyData.showable x && PyData.showableAll a) = true := h1
          replace h2 : (PyData.showable y && PyData.showableAll b) = true := h2
          rw [Bool.and_eq_true] at h1 h2
          show (PyData.showable x && PyData.showable y && PyData.showableKv (a.zip b)) = true
          rw [h1.1, h2.1, ih b h1.2 h2.2]; rfl
    exact k _ _ h1 h2
  | .set _, h => by cases h
  | .fn _, h => by cases h
  | .exc _ _, h => by cases h
theorem showable_smL : ∀ l : List D, smL l = true → PyData.showableAll (toPyL l) = true
  | [], _ => rfl
  | d :: l, h => by
    replace h : (smD d && smL l) = true := h
    rw [Bool.and_eq_true] at h
    show (PyData.showable (toPy d) && PyData.showableAll (toPyL l)) = true
    rw [showable_sm d h.1, showable_smL l h.2]; rfl
end
mutual
theorem depth_le : ∀ d : D, (toPy d).depth ≤ depthD d
  | .non => Nat.le_refl _
  | .bl _ => Nat.le_refl _
  | .int _ => Nat.le_refl _
  | .str _ => Nat.le_refl _
  | .lst l => Nat.succ_le_succ (depth_leL l)
  | .tup l => Nat.succ_le_succ (depth_leL l)
  | .dic ks vs => by
    have h1 := depth_leL ks
    have h2 := depth_leL vs
    have k : ∀ a b : List PyData, PyData.depthKv (a.zip b) ≤ max (PyData.depthAll a) (PyData.depthAll b) := fun a => by
      induction a with
      | nil => intro b; exact Nat.zero_le _
      | cons x a ih =>
        intro b
        cases b with
        | nil => exact Nat.zero_le _
        | cons y b =>
          have := ih b
          show max (max (PyData.depth x) (PyData.depth y)) (PyData.depthKv (a.zip b)) ≤ max (max (PyData.depth x) (PyData.depthAll a)) (max (PyData.depth y) (PyData.depthAll b))
          omega
    have := k (toPyL ks) (toPyL vs)
    show PyData.depthKv _ + 1 ≤ max (depthL ks) (depthL vs) + 1
    omega
  | .set _ => Nat.zero_le _
  | .fn _ => Nat.zero_le _
  | .exc _ _ => Nat.zero_le _
theorem depth_leL : ∀ l : List D, PyData.depthAll (toPyL l) ≤ depthL l
  | [] => Nat.le_refl _
  | d :: l => by
    have h1 := depth_le d
    have h2 := depth_leL l
    show max _ _ ≤ max _ _
    omega
end
/-- the evaluator tells its repr -/
def repOk (d : D) : Bool := (okD 60 d || noLst d) && smD d && decide (depthD d ≤ 60) && decide (shB d ≤ lim)
theorem repr_ok {d : D} (h : repOk d = true) : ∃ s, reprD d = some (.str s) := by
  unfold repOk at h
  simp only [Bool.and_eq_true, decide_eq_true_eq] at h
  obtain ⟨⟨⟨h1, h2⟩, h3⟩, h4⟩ := h
  refine ⟨(toPy d).shown.cps.toList, if_pos ?_⟩
  simp only [Bool.and_eq_true, decide_eq_true_eq]
  exact ⟨⟨⟨h1, showable_sm d h2⟩, Nat.le_trans (depth_le d) h3⟩, Nat.le_trans (shown_le d h2) h4⟩
end Pz
end
section
set_option Elab.async false
set_option linter.all false
set_option autoImplicit true
/-! The evaluator's equations, for simp. -/
namespace Pz
@[simp] theorem evP_v {C : Cfg} : evP C (.v i) ρ = (optR (gt ρ i)).bind fun _ => .ok (i, [], ρ) := id rfl
@[simp] theorem evP_idx {C : Cfg} : evP C (.idx a k) ρ = (evP C a ρ).bind fun p => (evE C k p.2.2).bind fun q => .ok (p.1, p.2.1 ++ [q.1], q.2) := id rfl
@[simp] theorem evG_v {C : Cfg} : evG C (.v i) d ρ = .ok (st ρ i d) := id rfl
@[simp] theorem evG_tup {C : Cfg} : evG C (.tup as) d ρ = (optR (itemsT (lenT as) d)).bind fun l => evGs C as l ρ := id rfl
@[simp] theorem evG_idx {C : Cfg} : evG C (.idx a k) d ρ = (evP C a ρ).bind fun p => (evE C k p.2.2).bind fun q =>
      (optR (gt q.2 p.1)).bind fun o => (optR (updAt (setItemD q.1 d) p.2.1 o)).bind fun o' => .ok (st q.2 p.1 o') := id rfl
@[simp] theorem evGs_nil {C : Cfg} : evGs C (.nil) l ρ = if l.isEmpty then .ok ρ else bad := id rfl
@[simp] theorem evGs_cons {C : Cfg} : evGs C (.cons a b) l ρ = (match l with
    | x :: l => (evG C a x ρ).bind fun ρ' => evGs C b l ρ'
    | [] => bad) := id rfl
@[simp] theorem evA_nil {C : Cfg} : evA C (.nil) ρ = .ok ([], ρ) := id rfl
@[simp] theorem evA_cons {C : Cfg} : evA C (.cons a b) ρ = (evE C a ρ).bind fun p => (evA C b p.2).bind fun q => .ok (p.1 :: q.1, q.2) := id rfl
@[simp] theorem evI_rng {C : Cfg} : evI C (.rng as) ρ = (evA C as ρ).bind fun p => (optR (rngD p.1)).bind fun l => .ok (l, p.2) := id rfl
@[simp] theorem evI_enum {C : Cfg} : evI C (.enum a) ρ = (evE C a ρ).bind fun p => (optR (lstO p.1)).bind fun l => .ok (enumD 0 l, p.2) := id rfl
@[simp] theorem evI_zip {C : Cfg} : evI C (.zip a b) ρ = (evE C a ρ).bind fun p => (evE C b p.2).bind fun q => (optR (zipO p.1 q.1)).bind fun l => .ok (l, q.2) := id rfl
@[simp] theorem evI_items {C : Cfg} : evI C (.items a) ρ = (evE C a ρ).bind fun p => (optR (pairsOf p.1)).bind fun l => .ok (l, p.2) := id rfl
@[simp] theorem evI_vals {C : Cfg} : evI C (.vals a) ρ = (evE C a ρ).bind fun p => (optR (valsOf p.1)).bind fun l => .ok (l, p.2) := id rfl
@[simp] theorem evI_rvd {C : Cfg} : evI C (.rvd a) ρ = (evI C a ρ).bind fun p => .ok (p.1.reverse, p.2) := id rfl
@[simp] theorem evI_wlk {C : Cfg} : evI C (.wlk a) ρ = (evE C a ρ).bind fun p => (optR (itemsD p.1)).bind fun l => .ok (l, p.2) := id rfl
@[simp] theorem evE_v {C : Cfg} : evE C (.v i) ρ = (optR (gt ρ i)).bind fun d => .ok (d, ρ) := id rfl
@[simp] theorem evE_non {C : Cfg} : evE C (.non) ρ = .ok (.non, ρ) := id rfl
@[simp] theorem evE_tt {C : Cfg} : evE C (.tt) ρ = .ok (.bl true, ρ) := id rfl
@[simp] theorem evE_ff {C : Cfg} : evE C (.ff) ρ = .ok (.bl false, ρ) := id rfl
@[simp] theorem evE_int {C : Cfg} : evE C (.int i) ρ = .ok (.int i, ρ) := id rfl
@[simp] theorem evE_str {C : Cfg} : evE C (.str s) ρ = .ok (.str s, ρ) := id rfl
@[simp] theorem evE_glob {C : Cfg} : evE C (.glob g) ρ = .ok (C.glob g, ρ) := id rfl
@[simp] theorem evE_fnv {C : Cfg} : evE C (.fnv f) ρ = .ok (.fn f, ρ) := id rfl
@[simp] theorem evE_atm {C : Cfg} : evE C (.atm a) ρ = (evE C a ρ).bind fun p => (optR (atomD p.1)).bind fun d => .ok (d, p.2) := id rfl
@[simp] theorem evE_bin {C : Cfg} : evE C (.bin op a b) ρ = (evE C a ρ).bind fun p => (evE C b p.2).bind fun q => (optR (binD op p.1 q.1)).bind fun d => .ok (d, q.2) := id rfl
@[simp] theorem evE_neg {C : Cfg} : evE C (.neg a) ρ = (evE C a ρ).bind fun p => (optR (negD p.1)).bind fun d => .ok (d, p.2) := id rfl
@[simp] theorem evE_not {C : Cfg} : evE C (.not a) ρ = (evE C a ρ).bind fun p => (optR (truO p.1)).bind fun b => .ok (.bl (!b), p.2) := id rfl
@[simp] theorem evE_and {C : Cfg} : evE C (.and a b) ρ = (evE C a ρ).bind fun p => (optR (truO p.1)).bind fun t => if t then evE C b p.2 else .ok p := id rfl
@[simp] theorem evE_or {C : Cfg} : evE C (.or a b) ρ = (evE C a ρ).bind fun p => (optR (truO p.1)).bind fun t => if t then .ok p else evE C b p.2 := id rfl
@[simp] theorem evE_cmp {C : Cfg} : evE C (.cmp op a b) ρ = (evE C a ρ).bind fun p => (evE C b p.2).bind fun q => (optR (cmpB op p.1 q.1)).bind fun d => .ok (.bl d, q.2) := id rfl
@[simp] theorem evE_chain {C : Cfg} : evE C (.chain o1 o2 a b c) ρ = (evE C a ρ).bind fun p => (evE C b p.2).bind fun q => (optR (cmpB o1 p.1 q.1)).bind fun d =>
      if d then (evE C c q.2).bind fun r => (optR (cmpB o2 q.1 r.1)).bind fun d' => .ok (.bl d', r.2) else .ok (.bl false, q.2) := id rfl
@[simp] theorem evE_ite {C : Cfg} : evE C (.ite c a b) ρ = (evE C c ρ).bind fun p => (optR (truO p.1)).bind fun t => if t then evE C a p.2 else evE C b p.2 := id rfl
@[simp] theorem evE_isi {C : Cfg} : evE C (.isi a ts) ρ = (evE C a ρ).bind fun p => (optR (isTs p.1 ts)).bind fun b => .ok (.bl b, p.2) := id rfl
@[simp] theorem evE_call {C : Cfg} : evE C (.call f as io) ρ = (evA C as ρ).bind fun p => (optR (lend p.2 p.1 io)).bind fun ds => (C.call f ds).bind fun r => .ok (r.1, setIO p.2 io r.2) := id rfl
@[simp] theorem evE_callk {C : Cfg} : evE C (.callk f as pm io) ρ = (evA C as ρ).bind fun p => (optR (permD p.1 pm)).bind fun as' => (optR (lend p.2 as' io)).bind fun ds => (C.call f ds).bind fun r => .ok (r.1, setIO p.2 io r.2) := id rfl
@[simp] theorem evE_callv {C : Cfg} : evE C (.callv i as) ρ = (optR ((gt ρ i).bind fnO)).bind fun f => (evA C as ρ).bind fun p => (C.call f p.1).bind fun r => .ok (r.1, p.2) := id rfl
@[simp] theorem evE_bi {C : Cfg} : evE C (.bi b as) ρ = (evA C as ρ).bind fun p => (optR (biD b p.1)).bind fun d => .ok (d, p.2) := id rfl
@[simp] theorem evE_biw {C : Cfg} : evE C (.biw b it) ρ = (evI C it ρ).bind fun p => (optR (biD b [.lst p.1])).bind fun d => .ok (d, p.2) := id rfl
@[simp] theorem evE_me {C : Cfg} : evE C (.me m o as) ρ = (evE C o ρ).bind fun p => (optR (meOk m p.1)).bind fun _ => (evA C as p.2).bind fun q => (optR (meD m p.1 q.1)).bind fun d => .ok (d, q.2) := id rfl
@[simp] theorem evE_pop {C : Cfg} : evE C (.pop i a) ρ = (optR ((gt ρ i).bind lstD)).bind fun _ => (evE C a ρ).bind fun q => (optR ((gt q.2 i).bind lstD)).bind fun o => (optR (popL o q.1)).bind fun r => .ok (r.1, st q.2 i r.2) := id rfl
@[simp] theorem evE_idx {C : Cfg} : evE C (.idx a k) ρ = (evE C a ρ).bind fun p => (evE C k p.2).bind fun q => (optR (getD p.1 q.1)).bind fun d => .ok (d, q.2) := id rfl
@[simp] theorem evE_slc {C : Cfg} : evE C (.slc a lo hi) ρ = (evE C a ρ).bind fun p => (partR (isNonT lo) (evE C lo) p.2).bind fun q => (partR (isNonT hi) (evE C hi) q.2).bind fun r => (optR (slcV q.1 r.1 p.1)).bind fun d => .ok (d, r.2) := id rfl
@[simp] theorem evE_rev {C : Cfg} : evE C (.rev a) ρ = (evE C a ρ).bind fun p => (optR (revD p.1)).bind fun d => .ok (d, p.2) := id rfl
@[simp] theorem evE_tup {C : Cfg} : evE C (.tup as) ρ = (evA C as ρ).bind fun p => .ok (.tup p.1, p.2) := id rfl
@[simp] theorem evE_lst {C : Cfg} : evE C (.lst z1 as) ρ = (evA C as ρ).bind fun p => .ok (.lst p.1, p.2) := id rfl
@[simp] theorem evE_dct {C : Cfg} : evE C (.dct ks vs) ρ = (evA C vs ρ).bind fun p => .ok (.dic (keysT ks) p.1, p.2) := id rfl
@[simp] theorem evE_lc {C : Cfg} : evE C (.lc e tg it c own) ρ = (evI C it ρ).bind fun p =>
      (nox (compR (fun x ρ acc => (evG C tg x (unset ρ own)).bind fun ρ1 => (evC C c ρ1).bind fun t => if t.1 then (evE C e t.2).bind (push acc) else .ok (acc, t.2)) p.1 p.2 [])).bind fun r =>
      .ok (.lst r.1, back p.2 r.2 own) := id rfl
@[simp] theorem evE_lc2 {C : Cfg} : evE C (.lc2 e tg it c tg2 it2 c2 own own2) ρ = (evI C it ρ).bind fun p =>
      (nox (compR (fun x ρ acc => (evG C tg x (unset ρ own)).bind fun ρ1 => (evC C c ρ1).bind fun t => if t.1 then (evI C it2 t.2).bind fun p2 =>
        compR (fun x ρ acc => (evG C tg2 x (unset ρ own2)).bind fun ρ1 => (evC C c2 ρ1).bind fun t => if t.1 then (evE C e t.2).bind (push acc) else .ok (acc, t.2)) p2.1 p2.2 acc else .ok (acc, t.2)) p.1 p.2 [])).bind fun r =>
      .ok (.lst r.1, back p.2 r.2 own) := id rfl
@[simp] theorem evE_dc {C : Cfg} : evE C (.dc k e tg it c own) ρ = (evI C it ρ).bind fun p =>
      (compR (fun x ρ acc => (evG C tg x (unset ρ own)).bind fun ρ1 => (evC C c ρ1).bind fun t => if t.1 then (evE C k t.2).bind fun q1 => (evE C e q1.2).bind fun q => (optR (putD acc q1.1 q.1)).bind fun d => .ok (d, q.2) else .ok (acc, t.2)) p.1 p.2 (D.dic [] [])).bind fun r =>
      .ok (r.1, back p.2 r.2 own) := id rfl
@[simp] theorem evE_dc2 {C : Cfg} : evE C (.dc2 k e tg it c tg2 it2 c2 own own2) ρ = (evI C it ρ).bind fun p =>
      (compR (fun x ρ acc => (evG C tg x (unset ρ own)).bind fun ρ1 => (evC C c ρ1).bind fun t => if t.1 then (evI C it2 t.2).bind fun p2 =>
        compR (fun x ρ acc => (evG C tg2 x (unset ρ own2)).bind fun ρ1 => (evC C c2 ρ1).bind fun t => if t.1 then (evE C k t.2).bind fun q1 => (evE C e q1.2).bind fun q => (optR (putD acc q1.1 q.1)).bind fun d => .ok (d, q.2) else .ok (acc, t.2)) p2.1 p2.2 acc else .ok (acc, t.2)) p.1 p.2 (D.dic [] [])).bind fun r =>
      .ok (r.1, back p.2 r.2 own) := id rfl
@[simp] theorem evE_tupo {C : Cfg} : evE C (.tupo z1 as) ρ = (evA C as ρ).bind fun p => .ok (.tup p.1, p.2) := id rfl
@[simp] theorem evE_lcw {C : Cfg} : evE C (.lcw e j i) ρ = (optR ((gt ρ i).bind ownI)).bind fun p => (nox (lcwR (evE C e) j i p.2 ((ρ.set i none).set j none) [] [])).bind fun r => .ok (.lst r.2.1, st (backO ρ r.2.2 j) i (mkO p.1 r.1)) := id rfl
@[simp] theorem evE_attr {C : Cfg} : evE C (.attr a n) ρ = (evE C a ρ).bind fun p => (optR (attrD n p.1)).bind fun d => .ok (d, p.2) := id rfl
@[simp] theorem evC_nil {C : Cfg} : evC C (.nil) ρ = .ok (true, ρ) := id rfl
@[simp] theorem evC_cons {C : Cfg} : evC C (.cons a z2) ρ = (evE C a ρ).bind fun p => (optR (truO p.1)).bind fun t => .ok (t, p.2) := id rfl
@[simp] theorem evS_asg {C : Cfg} : evS C (.asg tg e) ρ = (evE C e ρ).bind fun p => (evG C tg p.1 p.2).bind fun ρ' => .ok (.nx ρ') := id rfl
@[simp] theorem evS_mov {C : Cfg} : evS C (.mov j i) ρ = (optR (gt ρ i)).bind fun d => .ok (.nx (st (ρ.set i none) j d)) := id rfl
@[simp] theorem evS_par {C : Cfg} : evS C (.par tgs es) ρ = (evA C es ρ).bind fun p => (optR (itemsT (lenT tgs) (.tup p.1))).bind fun l => (evGs C tgs l p.2).bind fun ρ' => .ok (.nx ρ') := id rfl
@[simp] theorem evS_aug {C : Cfg} : evS C (.aug i e) ρ = (optR (gt ρ i)).bind fun x => (evE C e ρ).bind fun p => (optR (binD .add x p.1)).bind fun d => .ok (.nx (st p.2 i d)) := id rfl
@[simp] theorem evS_app {C : Cfg} : evS C (.app o e) ρ = (evP C o ρ).bind fun p => (optR ((gt p.2.2 p.1).bind (updAt lstD p.2.1))).bind fun _ => (evE C e p.2.2).bind fun q => (optR (gt q.2 p.1)).bind fun x => (optR (updAt (appD q.1) p.2.1 x)).bind fun x' => .ok (.nx (st q.2 p.1 x')) := id rfl
@[simp] theorem evS_ins {C : Cfg} : evS C (.ins o k e) ρ = (evP C o ρ).bind fun p => (evE C k p.2.2).bind fun r => (evE C e r.2).bind fun q => (optR (gt q.2 p.1)).bind fun x => (optR (updAt (insD' r.1 q.1) p.2.1 x)).bind fun x' => .ok (.nx (st q.2 p.1 x')) := id rfl
@[simp] theorem evS_exp {C : Cfg} : evS C (.exp e) ρ = (evE C e ρ).bind fun p => .ok (.nx p.2) := id rfl
@[simp] theorem evS_sif {C : Cfg} : evS C (.sif c a b) ρ = (evE C c ρ).bind fun p => (optR (truO p.1)).bind fun t => if t then evB C a p.2 else evB C b p.2 := id rfl
@[simp] theorem evS_whl {C : Cfg} : evS C (.whl c b m) ρ = whlR (fun ρ => (evE C c ρ).bind fun p => (optR (truO p.1)).bind fun t => .ok (t, p.2)) (fun ρ => (evB C b ρ).map (maskFl m)) C.fuel ρ := id rfl
@[simp] theorem evS_for {C : Cfg} : evS C (.for tg it b m) ρ = (evI C it ρ).bind fun p => forR (fun x ρ => (evG C tg x ρ).bind fun ρ' => (evB C b ρ').map (maskFl m)) p.1 p.2 := id rfl
@[simp] theorem evS_ret {C : Cfg} : evS C (.ret e) ρ = (evE C e ρ).bind fun p => .ok (.rt p.1 p.2) := id rfl
@[simp] theorem evS_retv {C : Cfg} : evS C (.retv i) ρ = (optR (gt ρ i)).bind fun d => .ok (.rt d (ρ.set i none)) := id rfl
@[simp] theorem evS_retn {C : Cfg} : evS C (.retn) ρ = .ok (.rt .non ρ) := id rfl
@[simp] theorem evS_rai {C : Cfg} : evS C (.rai k (.cons a .nil)) ρ = (evE C a ρ).bind fun p => .error (.exc k [p.1]) := id rfl
@[simp] theorem evS_try {C : Cfg} : evS C (.try b c i h m) ρ = (match evB C b ρ with
    | .ok r => .ok r
    | .error .stuck => bad
    | .error (.exc c' fs) => if c == 0 || c == c' then (evB C h (st (unset ρ m) i (.exc c' fs))).map (sufFl i) else .error (.exc c' fs)) := id rfl
@[simp] theorem evS_pas {C : Cfg} : evS C (.pas) ρ = .ok (.nx ρ) := id rfl
@[simp] theorem evS_brk {C : Cfg} : evS C (.brk) ρ = .ok (.bk ρ) := id rfl
@[simp] theorem evS_cnt {C : Cfg} : evS C (.cnt) ρ = .ok (.ct ρ) := id rfl
@[simp] theorem evS_frz {C : Cfg} : evS C (.frz z1 z2) ρ = .ok (.nx ρ) := id rfl
@[simp] theorem evS_mask {C : Cfg} : evS C (.mask l) ρ = .ok (.nx (unset ρ l)) := id rfl
@[simp] theorem evB_nil {C : Cfg} : evB C (.nil) ρ = .ok (.nx ρ) := id rfl
@[simp] theorem evB_cons {C : Cfg} : evB C (.cons a b) ρ = (evS C a ρ).bind fun r => (match r with
    | .nx ρ' => evB C b ρ'
    | r => .ok r) := id rfl
end Pz
namespace Pz
section
variable {α β : Type}
/-- m ends well, with Q -/
structure Ok {α : Type} (m : R α) (Q : α → Prop) : Prop where
  ex : ∃ a, m = .ok a ∧ Q a
@[simp] theorem ok_ok (a : α) (Q : α → Prop) : Ok (.ok a) Q = Q a := propext ⟨fun h => (by obtain ⟨_, e, h⟩ := h; cases e; exact h), fun h => ⟨a, rfl, h⟩⟩
@[simp] theorem ok_err (e : Ex) (Q : α → Prop) : Ok (.error e) Q = False := propext ⟨fun h => (by obtain ⟨_, e, _⟩ := h; cases e), fun h => False.elim h⟩
@[simp] theorem ok_bind (m : R α) (f : α → R β) (Q : β → Prop) : Ok (m.bind f) Q = Ok m fun a => Ok (f a) Q := by
  cases m with
  | ok a => rw [ok_ok]; rfl
  | error e => rw [ok_err]; exact ok_err e Q
@[simp] theorem bind_okk (a : α) (f : α → R β) : (Except.ok a : R α).bind f = f a := id rfl
@[simp] theorem map_okk (a : α) (f : α → β) : (Except.ok a : R α).map f = .ok (f a) := id rfl
@[simp] theorem optR_some (a : α) : optR (some a) = .ok a := id rfl
@[simp] theorem ok_map {f : α → β} {m : R α} {Q : β → Prop} : Ok (m.map f) Q = Ok m fun a => Q (f a) := by
  cases m with
  | ok a => rw [ok_ok]; exact ok_ok _ _
  | error e => rw [ok_err]; exact ok_err _ _
@[simp] theorem nox_ok {α : Type} (m : R α) (Q : α → Prop) : Ok (nox m) Q = Ok m Q := by
  cases m with
  | ok a => rfl
  | error e => rw [ok_err]; exact ok_err _ _
@[simp] theorem bind_errr {α β : Type} (e : Ex) (f : α → R β) : (Except.error e : R α).bind f = .error e := id rfl
@[simp] theorem map_errr {α β : Type} (e : Ex) (f : α → β) : (Except.error e : R α).map f = .error e := id rfl
@[simp] theorem sufFl_nx (i : Nat) (ρ : Env) : sufFl i (.nx ρ) = .nx (ρ.set i none) := id rfl
@[simp] theorem isTs_cls (d : D) (j : Nat) : isTs d [.cls j] = isCls j d := id rfl
@[simp] theorem isCls_exc (j k : Nat) (fs : List D) : isCls j (.exc k fs) = some (j == 0 || j == k) := id rfl
@[simp] theorem isCls_non (j : Nat) : isCls j .non = some false := id rfl
@[simp] theorem attrD_exc (k : Nat) (d : D) : attrD 0 (.exc k [d]) = some d := id rfl
@[simp] theorem isNon_exc (k : Nat) (fs : List D) : cmpB .is (.exc k fs) .non = some false := id rfl
@[simp] theorem isNon_non : cmpB .is .non .non = some true := id rfl
@[simp] theorem isnotNon_exc (k : Nat) (fs : List D) : cmpB .isnot (.exc k fs) .non = some true := id rfl
@[simp] theorem isnotNon_non : cmpB .isnot .non .non = some false := id rfl
@[simp] theorem gt_0 (d : D) (ρ : Env) : gt (some d :: ρ) 0 = some d := id rfl
@[simp] theorem gt_s (o : Option D) (ρ : Env) (i : Nat) : gt (o :: ρ) (i + 1) = gt ρ i := id rfl
@[simp] theorem st_0 (o : Option D) (d : D) (ρ : Env) : st (o :: ρ) 0 d = some d :: ρ := id rfl
@[simp] theorem st_s (o : Option D) (d : D) (ρ : Env) (i : Nat) : st (o :: ρ) (i + 1) d = o :: st ρ i d := id rfl
@[simp] theorem unset_nil (ρ : Env) : unset ρ [] = ρ := id rfl
@[simp] theorem unset_cons (ρ : Env) (i : Nat) (l : List Nat) : unset ρ (i :: l) = unset (ρ.set i none) l := id rfl
@[simp] theorem lend_nil (ρ : Env) (as : List D) : lend ρ as [] = some as := id rfl
@[simp] theorem lend_cons (ρ : Env) (as : List D) (j i : Nat) (l : List (Nat × Nat)) : lend ρ as ((j, i) :: l) = (gt ρ i).bind fun d => lend ρ (as.set j d) l := id rfl
@[simp] theorem setIO_nil (ρ : Env) (os : List D) : setIO ρ [] os = ρ := by cases os <;> rfl
@[simp] theorem setIO_cons (ρ : Env) (j i : Nat) (l : List (Nat × Nat)) (d : D) (ds : List D) : setIO ρ ((j, i) :: l) (d :: ds) = setIO (st ρ i d) l ds := id rfl
@[simp] theorem meOk_bitlen (d : D) : meOk .bitlen d = some () := id rfl
@[simp] theorem meOk_join (d : D) : meOk .join d = some () := id rfl
@[simp] theorem meOk_index (d : D) : meOk .index d = some () := id rfl
@[simp] theorem meOk_get (ks vs : List D) : meOk .get (.dic ks vs) = some () := id rfl
@[simp] theorem meOk_get2 (ks vs : List D) : meOk .get2 (.dic ks vs) = some () := id rfl
@[simp] theorem truO_bl (b : Bool) : truO (.bl b) = some b := id rfl
@[simp] theorem maskFl_nx (m : List Nat) (ρ : Env) : maskFl m (.nx ρ) = .nx (unset ρ m) := id rfl
@[simp] theorem maskFl_rt (m : List Nat) (d : D) (ρ : Env) : maskFl m (.rt d ρ) = .rt d ρ := id rfl
@[simp] theorem maskFl_bk (m : List Nat) (ρ : Env) : maskFl m (.bk ρ) = .bk (unset ρ m) := id rfl
@[simp] theorem maskFl_ct (m : List Nat) (ρ : Env) : maskFl m (.ct ρ) = .ct (unset ρ m) := id rfl
@[simp] theorem outs_nil (ρ : Env) : outs ρ [] = some [] := id rfl
@[simp] theorem outs_cons (ρ : Env) (i : Nat) (l : List Nat) : outs ρ (i :: l) = (gt ρ i).bind fun d => (outs ρ l).map (d :: ·) := id rfl
@[simp] theorem endFn_nx (f : Fn) (ρ : Env) : endFn f (.nx ρ) = (optR (outs ρ f.io)).bind fun o => .ok (.non, o) := id rfl
@[simp] theorem endFn_rt (f : Fn) (d : D) (ρ : Env) : endFn f (.rt d ρ) = (optR (outs ρ f.io)).bind fun o => .ok (d, o) := id rfl
@[simp] theorem isNonT_non : isNonT .non = true := id rfl
@[simp] theorem partR_tt (f : Env → R (D × Env)) (ρ : Env) : partR true f ρ = .ok (none, ρ) := id rfl
@[simp] theorem partR_ff (f : Env → R (D × Env)) (ρ : Env) : partR false f ρ = (f ρ).bind fun p => (optR (intO p.1)).bind fun i => .ok (some i, p.2) := id rfl
@[simp] theorem intO_int (i : Int) : intO (.int i) = some i := id rfl
@[simp] theorem back_nil (ρ ρ' : Env) : back ρ ρ' [] = ρ' := id rfl
@[simp] theorem ownI_lst (l : List D) : ownI (.lst l) = some (false, l) := id rfl
@[simp] theorem ownI_tup (l : List D) : ownI (.tup l) = some (true, l) := id rfl
@[simp] theorem mkO_ff (l : List D) : mkO false l = .lst l := id rfl
@[simp] theorem mkO_tt (l : List D) : mkO true l = .tup l := id rfl
@[simp] theorem backO_eq (ρ ρ' : Env) (j : Nat) : backO ρ ρ' j = ρ'.set j ((ρ[j]?).getD none) := id rfl
@[simp] theorem itemsD_lst (l : List D) : itemsD (.lst l) = some l := id rfl
@[simp] theorem itemsD_tup (l : List D) : itemsD (.tup l) = some l := id rfl
@[simp] theorem itemsD_str (s : List Nat) : itemsD (.str s) = some (s.map fun c => .str [c]) := id rfl
@[simp] theorem lenD_lst (l : List D) : lenD (.lst l) = some (.int l.length) := id rfl
@[simp] theorem lenD_tup (l : List D) : lenD (.tup l) = some (.int l.length) := id rfl
@[simp] theorem cmpB_lt (i j : Int) : cmpB .lt (.int i) (.int j) = some (decide (i < j)) := id rfl
@[simp] theorem cmpB_gt (i j : Int) : cmpB .gt (.int i) (.int j) = some (decide (j < i)) := id rfl
@[simp] theorem cmpB_le (i j : Int) : cmpB .le (.int i) (.int j) = some (decide (i ≤ j)) := id rfl
@[simp] theorem cmpB_ge (i j : Int) : cmpB .ge (.int i) (.int j) = some (decide (j ≤ i)) := id rfl
@[simp] theorem binD_sub (i j : Int) : binD .sub (.int i) (.int j) = some (.int (i - j)) := id rfl
@[simp] theorem binD_add (i j : Int) : binD .add (.int i) (.int j) = some (.int (i + j)) := id rfl
@[simp] theorem bi_len (d : D) : biD .len [d] = lenD d := id rfl
@[simp] theorem bi_int (i : Int) : biD .int [.int i] = some (.int i) := id rfl
@[simp] theorem bi_repr (d : D) : biD .repr [d] = reprD d := id rfl
@[simp] theorem runFn_eq (C : Cfg) (f : Fn) (as : List D) : runFn C f as = if as.length = f.np then (evB C f.body (initE f as)).bind (endFn f) else bad := id rfl
theorem run_succ (P : Prog) (n f : Nat) (as : List D) : run P (n + 1) f as = (optR (P.fn f)).bind fun F => runFn { call := run P n, glob := P.glob, fuel := FUEL } F as := id rfl
end
end Pz
end
section
set_option Elab.async false
set_option linter.all false
/-! What the evaluator's runs come to: rules for proofs about them. -/
namespace Pz

section
variable {α β : Type}
theorem Ok.mono {m : R α} {Q Q' : α → Prop} (h : Ok m Q) (i : ∀ a, Q a → Q' a) : Ok m Q' := by
  obtain ⟨a, e, h⟩ := h
  exact ⟨a, e, i a h⟩
theorem Ok.of_eq {m : R α} {a : α} {Q : α → Prop} (e : m = .ok a) (h : Q a) : Ok m Q := ⟨a, e, h⟩
theorem Ok.eq {m : R α} {a : α} (h : Ok m fun x => x = a) : m = .ok a := by
  obtain ⟨x, e, rfl⟩ := h
  exact e
theorem eq_ok {m : R α} {a : α} (h : m = .ok a) : Ok m fun x => x = a := ⟨a, h, rfl⟩
end
/-- a walk with an invariant -/
theorem forR_inv {f : D → Env → R Fl} {Q : Fl → Prop} : ∀ (l : List D) (I : List D → Env → Prop) (ρ : Env), I l ρ → (∀ x r ρ, (∃ p, l = p ++ x :: r) → I (x :: r) ρ → Ok (f x ρ) fun fl => match fl with
    | .nx ρ' => I r ρ'
    | .ct ρ' => I r ρ'
    | .bk ρ' => Q (.nx ρ')
    | .rt d ρ' => Q (.rt d ρ')) → (∀ ρ, I [] ρ → Q (.nx ρ)) → Ok (forR f l ρ) Q
  | [], I, ρ, h, _, e => .of_eq rfl (e ρ h)
  | x :: l, I, ρ, h, s, e => by
    show Ok ((f x ρ).bind _) Q
    rw [ok_bind]
    refine (s x l ρ ⟨[], rfl⟩ h).mono fun fl hf => ?_
    cases fl with
    | nx ρ' => exact forR_inv l I ρ' hf (fun y r ρ2 ⟨p, hp⟩ => s y r ρ2 ⟨x :: p, by rw [hp]; rfl⟩) e
    | ct ρ' => exact forR_inv l I ρ' hf (fun y r ρ2 ⟨p, hp⟩ => s y r ρ2 ⟨x :: p, by rw [hp]; rfl⟩) e
    | bk ρ' => exact .of_eq rfl hf
    | rt d ρ' => exact .of_eq rfl hf
/-- a comprehension with an invariant -/
theorem compR_inv {α : Type} {f : D → Env → α → R (α × Env)} {Q : α × Env → Prop} : ∀ (l : List D) (I : List D → α → Env → Prop) (ρ : Env) (a : α), I l a ρ → (∀ x r ρ a, (∃ p, l = p ++ x :: r) → I (x :: r) a ρ → Ok (f x ρ a) fun q => I r q.1 q.2) →
    (∀ a ρ, I [] a ρ → Q (a, ρ)) → Ok (compR f l ρ a) Q
  | [], I, ρ, a, h, _, e => .of_eq rfl (e a ρ h)
  | x :: l, I, ρ, a, h, s, e => by
    show Ok ((f x ρ a).bind _) Q
    rw [ok_bind]
    exact (s x l ρ a ⟨[], rfl⟩ h).mono fun q hq => compR_inv l I q.2 q.1 hq (fun y r ρ2 a2 ⟨p, hp⟩ => s y r ρ2 a2 ⟨x :: p, by rw [hp]; rfl⟩) e
/-- a filter and map that keeps a slot list -/
theorem compR_filter {f : D → Env → List D → R (List D × Env)} (g : D → Option D) (I : Env → Prop) : ∀ (l : List D) (ρ : Env) (acc : List D), I ρ →
    (∀ x ∈ l, ∀ ρ acc, I ρ → acc.length < lim → Ok (f x ρ acc) fun q => q.1 = acc ++ (g x).toList ∧ I q.2) → acc.length + l.length ≤ lim → Ok (compR f l ρ acc) fun q => q.1 = acc ++ l.filterMap g ∧ I q.2
  | [], ρ, acc, h, _, _ => .of_eq rfl ⟨by simp, h⟩
  | x :: l, ρ, acc, h, s, z => by
    show Ok ((f x ρ acc).bind _) _
    rw [ok_bind]
    rw [List.length_cons] at z
    refine (s x List.mem_cons_self ρ acc h (by omega)).mono fun q hq => ?_
    obtain ⟨a1, ρ1⟩ := q
    obtain ⟨h1, h2⟩ := hq
    replace h1 : a1 = acc ++ (g x).toList := h1
    subst h1
    refine (compR_filter g I l ρ1 _ h2 (fun y hy => s y (List.mem_cons_of_mem _ hy)) ?_).mono fun q hq => ⟨?_, hq.2⟩
    · have : (g x).toList.length ≤ 1 := by cases g x <;> simp
      rw [List.length_append]; omega
    · rw [hq.1, List.filterMap_cons]
      cases g x <;> simp
/-- items at which nothing changes -/
theorem forR_skip {f : D → Env → R Fl} {ρ : Env} {r : List D} : ∀ l : List D, (∀ x ∈ l, f x ρ = .ok (.nx ρ)) → forR f (l ++ r) ρ = forR f r ρ
  | [], _ => rfl
  | x :: l, h => by
    show (f x ρ).bind _ = _
    rw [h x List.mem_cons_self]
    exact forR_skip l fun y hy => h y (List.mem_cons_of_mem _ hy)
theorem forR_err {f : D → Env → R Fl} {ρ : Env} {x : D} {r : List D} {e : Ex} (h : f x ρ = .error e) : forR f (x :: r) ρ = .error e := by
  show (f x ρ).bind _ = _
  rw [h]; rfl
mutual
/-- plain data is equal to itself -/
theorem eqD_refl : ∀ (d : D) (n : Nat), okD n d = true → eqD d d = true
  | .non, _, _ => rfl
  | .bl b, _, _ => by show (b == b) = true; exact beq_self_eq_true b
  | .int i, _, _ => by show (i == i) = true; exact beq_self_eq_true i
  | .str s, _, _ => by show (s == s) = true; exact beq_self_eq_true s
  | .lst l, 0, h => by cases h
  | .lst l, n + 1, h => eqL_refl l n h
  | .tup l, 0, h => by cases h
  | .tup l, n + 1, h => eqL_refl l n h
  | .dic _ _, n, h => by cases n <;> cases h
  | .set _, n, h => by cases n <;> cases h
  | .fn _, n, h => by cases n <;> cases h
  | .exc _ _, n, h => by cases n <;> cases h
theorem eqL_refl : ∀ (l : List D) (n : Nat), okL n l = true → eqL l l = true
  | [], _, _ => rfl
  | x :: l, n, h => by
    have h : (okD n x && okL n l) = true := h
    rw [Bool.and_eq_true] at h
    show (eqD x x && eqL l l) = true
    rw [eqD_refl x n h.1, eqL_refl l n h.2]; rfl
end
theorem eq_self {d : D} (h : okD 60 d = true) : cmpB .eq d d = some true := by
  show (if okD 60 d && okD 60 d then some (eqD d d) else none) = _
  rw [h, eqD_refl d 60 h]; rfl
theorem ne_self {d : D} (h : okD 60 d = true) : cmpB .ne d d = some false := by
  show (eqO d d).map (!·) = _
  rw [show eqO d d = some true from eq_self h]; rfl
end Pz
end
section
set_option Elab.async false
set_option linter.all false
set_option maxRecDepth 100000
/-! The laws' generator: hash, cell, generator, random, pick. -/
namespace Pz
/-- _law_hash -/
def f161 : Fn := { np := 2, io := [], ns := 3, body := (.cons (.asg (.v 2) (.bin .mod (.bi .int (.cons (.bin .add (.bin .add (.bin .add (.bin .mul (.v 0) (.int 1140671)) (.bin .mul (.bin .mul (.int 27644437) (.v 1)) (.v 1))) (.bin .mul (.int 131) (.v 1))) (.int 19)) .nil)) (.int 2147483629))) (.cons (.asg (.v 2) (.bin .mod (.bi .int (.cons (.bin .add (.bin .add (.bin .mul (.v 2) (.v 2)) (.bin .mul (.int 62089) (.v 1))) (.int 32416187)) .nil)) (.int 2147483587))) (.cons (.ret (.bin .mod (.bi .int (.cons (.bin .mul (.v 2) (.int 48271)) .nil)) (.int 2147483647))) .nil))) }
/-- _law_cell -/
def f163 : Fn := { np := 2, io := [], ns := 2, body := (.cons (.sif (.cmp .lt (.v 1) (.bi .len (.cons (.v 0) .nil))) (.cons (.ret (.idx (.v 0) (.v 1))) .nil) .nil) (.cons (.ret (.bin .mod (.bi .sum (.cons (.slc (.v 0) .non (.int 1)) .nil)) (.int 1000003))) .nil)) }
/-- _law_generator -/
def f164 : Fn := { np := 2, io := [], ns := 3, body := (.cons (.asg (.v 2) (.call 163 (.cons (.v 0) (.cons (.v 1) .nil)) [])) (.cons (.ret (.lst 1 (.cons (.bin .mod (.bi .int (.cons (.bi .max2 (.cons (.bin .sub (.v 2) (.bin .pow (.int 10) (.int 18))) (.cons (.int 0) .nil))) .nil)) (.bin .pow (.bin .pow (.int 10) (.int 60)) (.int 10))) (.cons (.bin .mod (.bi .int (.cons (.v 2) .nil)) (.int 2147483647)) (.cons (.bin .mul (.int 1000) (.v 1)) .nil))))) .nil)) }
/-- _law_random -/
def f162 : Fn := { np := 2, io := [0], ns := 4, body := (.cons (.sif (.cmp .gt (.idx (.v 0) (.int 0)) (.int 0)) (.cons (.asg (.v 2) (.bin .mod (.bi .int (.cons (.idx (.v 0) (.int 0)) .nil)) (.v 1))) (.cons (.asg (.idx (.v 0) (.int 0)) (.bin .fdiv (.idx (.v 0) (.int 0)) (.v 1))) (.cons (.retv 2) .nil))) .nil) (.cons (.asg (.v 2) (.int 0)) (.cons (.for (.v 3) (.rng (.cons (.bin .add (.int 1) (.bin .fdiv (.me .bitlen (.v 1) .nil) (.int 30))) .nil)) (.cons (.asg (.idx (.v 0) (.int 2)) (.bin .add (.idx (.v 0) (.int 2)) (.int 1))) (.cons (.asg (.v 2) (.bin .add (.bin .mul (.v 2) (.int 2147483587)) (.call 161 (.cons (.idx (.v 0) (.int 1)) (.cons (.idx (.v 0) (.int 2)) .nil)) []))) .nil)) [3]) (.cons (.ret (.bin .mod (.bi .int (.cons (.v 2) .nil)) (.v 1))) .nil)))) }
/-- _law_pick -/
def f165 : Fn := { np := 2, io := [0], ns := 2, body := (.cons (.ret (.idx (.v 1) (.call 162 (.cons (.v 0) (.cons (.bi .len (.cons (.v 1) .nil)) .nil)) [(0, 0)]))) .nil) }

theorem binD_mul {i j : Int} (h : i.natAbs < 2 ^ 64 ∨ j.natAbs < 2 ^ 64) : binD .mul (.int i) (.int j) = some (.int (i * j)) := by
  show (if mulOk i j then some (D.int (i * j)) else none) = _
  rw [if_pos]
  unfold mulOk
  rcases h with h | h <;> simp [h]
theorem binD_mod {i j : Int} (h : 0 < j) : binD .mod (.int i) (.int j) = some (.int (i % j)) := by
  show (if j ≠ 0 then some (D.int (i.fmod j)) else none) = _
  rw [if_pos (by omega), Int.fmod_eq_emod_of_nonneg i (by omega)]
theorem binD_fdiv {i j : Int} (h : 0 < j) (h2 : j.natAbs.log2 < 8000) : binD .fdiv (.int i) (.int j) = some (.int (i / j)) := by
  show (if j ≠ 0 ∧ j.natAbs.log2 < 8000 then some (D.int (i.fdiv j)) else none) = _
  rw [if_pos ⟨by omega, h2⟩, Int.fdiv_eq_ediv_of_nonneg i (by omega)]
section
variable {P : Prog}
theorem hash_ok (h : P.fn 161 = some f161) {n : Nat} {s i : Int} (h1 : 0 ≤ s) (h2 : s < 2 ^ 31) (h3 : 0 ≤ i) (h4 : i < 2 ^ 62) : ∃ r : Int, run P (n + 1) 161 [.int s, .int i] = .ok (.int r, []) ∧ 0 ≤ r ∧ r < 2147483647 := by
  rw [run_succ, h]
  have e1 := binD_mul (i := s) (j := 1140671) (.inr (by decide))
  have e2 := binD_mul (i := 27644437) (j := i) (.inl (by decide))
  have e3 := binD_mul (i := 27644437 * i) (j := i) (.inr (by omega))
  have e4 := binD_mul (i := 131) (j := i) (.inl (by decide))
  generalize hm : (s * 1140671 + 27644437 * i * i + 131 * i + 19) % 2147483629 = m
  have m1 : 0 ≤ m ∧ m < 2147483629 := by rw [← hm]; exact ⟨Int.emod_nonneg _ (by decide), Int.emod_lt_of_pos _ (by decide)⟩
  have e5 := binD_mul (i := m) (j := m) (.inl (by omega))
  have e6 := binD_mul (i := 62089) (j := i) (.inl (by decide))
  generalize hk : (m * m + 62089 * i + 32416187) % 2147483587 = k
  have e7 := binD_mul (i := k) (j := 48271) (.inr (by decide))
  refine ⟨(k * 48271) % 2147483647, ?_, Int.emod_nonneg _ (by decide), Int.emod_lt_of_pos _ (by decide)⟩
  refine Ok.eq ?_
  simp [f161, initE, e1, e2, e3, e4, binD_mod, hm, e5, e6, hk, e7]

/-- the generator, with room for K turns more -/
def Gn (K : Int) (g : D) : Prop := ∃ a b c : Int, g = .lst [.int a, .int b, .int c] ∧ 0 ≤ a ∧ 0 ≤ b ∧ b < 2 ^ 31 ∧ 0 ≤ c ∧ 0 ≤ K ∧ c + K < 2 ^ 62
theorem Gn.mono {K J : Int} {g : D} (h : Gn K g) (z : J ≤ K) (z0 : 0 ≤ J) : Gn J g := by
  obtain ⟨a, b, c, e, h1, h2, h3, h4, h5, h6⟩ := h
  exact ⟨a, b, c, e, h1, h2, h3, h4, z0, by omega⟩
theorem getD3_0 {a b c : D} : getD (.lst [a, b, c]) (.int 0) = some a := rfl
theorem getD3_1 {a b c : D} : getD (.lst [a, b, c]) (.int 1) = some b := rfl
theorem getD3_2 {a b c : D} : getD (.lst [a, b, c]) (.int 2) = some c := rfl
theorem set3_0 {a b c d : D} : updAt (setItemD (.int 0) d) [] (.lst [a, b, c]) = some (.lst [d, b, c]) := rfl
theorem set3_2 {a b c d : D} : updAt (setItemD (.int 2) d) [] (.lst [a, b, c]) = some (.lst [a, b, d]) := rfl
theorem bitLen_le {b : Int} (h1 : 0 < b) (h2 : b < 2 ^ 59) : 1 + (bitLen b : Int) / 30 ≤ 2 ∧ 0 ≤ (bitLen b : Int) := by
  unfold bitLen
  have h0 : (b == 0) = false := by simp; omega
  rw [h0]
  have : b.natAbs.log2 < 59 := (Nat.log2_lt (by omega)).mpr (by omega)
  simp only [Bool.false_eq_true, if_false]
  omega
theorem random_ok (h : P.fn 161 = some f161) (h' : P.fn 162 = some f162) {n : Nat} {K b : Int} {g : D} (hK : 0 ≤ K) (hg : Gn (K + 2) g) (hb : 0 < b) (hb2 : b < 2 ^ 59) :
    ∃ (d : Int) (g' : D), run P (n + 2) 162 [g, .int b] = .ok (.int d, [g']) ∧ 0 ≤ d ∧ d < b ∧ Gn K g' := by
  obtain ⟨x, s, c, rfl, hx, hs, hs2, hc, _, hc2⟩ := hg
  have lg : b.natAbs.log2 < 8000 := by
    have : b.natAbs.log2 < 59 := (Nat.log2_lt (by omega)).mpr (by omega)
    omega
  suffices hh : Ok (run P (n + 2) 162 [.lst [.int x, .int s, .int c], .int b]) fun r => ∃ (d : Int) (g' : D), r = (.int d, [g']) ∧ 0 ≤ d ∧ d < b ∧ Gn K g' by
    obtain ⟨r, e, d, g', rfl, h1, h2, h3⟩ := hh.ex
    exact ⟨d, g', e, h1, h2, h3⟩
  rw [run_succ, h']
  by_cases h0 : 0 < x
  · have e1 := binD_mod (i := x) hb
    have e2 := binD_fdiv (i := x) hb lg
    simp [f162, initE, getD3_0, h0, e1, e2, set3_0]
    exact ⟨_, _, ⟨rfl, rfl⟩, Int.emod_nonneg _ (by omega), Int.emod_lt_of_pos _ hb, _, _, _, rfl, Int.ediv_nonneg hx (by omega), hs, hs2, hc, hK, by omega⟩
  · have eb : meD .bitlen (.int b) [] = some (.int (bitLen b)) := rfl
    obtain ⟨l1, l2⟩ := bitLen_le hb hb2
    have e1 := binD_fdiv (i := (bitLen b : Int)) (j := 30) (by decide) (by decide)
    have er : rngD [.int (1 + (bitLen b : Int) / 30)] = some (rangeL 0 (1 + (bitLen b : Int) / 30)) := if_pos (by unfold small; rw [decide_eq_true_eq]; omega)
    have e0 := fun i : Int => binD_mod (i := i) hb
    simp [f162, initE, getD3_0, h0, eb, e1, er]
    generalize hl : rangeL 0 (1 + (bitLen b : Int) / 30) = l
    have ll : l.length ≤ 2 := by rw [← hl]; unfold rangeL; rw [List.length_map, List.length_range]; omega
    refine forR_inv l (fun r ρ => ∃ c' d : Int, ρ = [some (.lst [.int x, .int s, .int c']), some (.int b), some (.int d), none] ∧ 0 ≤ c' ∧ c' + K + r.length < 2 ^ 62) _ ⟨c, 0, rfl, hc, by omega⟩ ?_ ?_
    · rintro y r ρ _ ⟨c', d, rfl, g1, g2⟩
      rw [List.length_cons] at g2
      obtain ⟨v, hv, _, _⟩ := hash_ok h (n := n) hs hs2 (show 0 ≤ c' + 1 by omega) (show c' + 1 < 2 ^ 62 by omega)
      have em := binD_mul (i := d) (j := 2147483587) (.inr (by decide))
      simp [getD3_2, getD3_1, set3_2, hv, em]
      omega
    · rintro ρ ⟨c', d, rfl, g1, g2⟩
      simp [e0]
      exact ⟨_, _, ⟨rfl, rfl⟩, Int.emod_nonneg _ (by omega), Int.emod_lt_of_pos _ hb, _, _, _, rfl, hx, hs, hs2, g1, hK, by simpa using g2⟩
theorem ixI_ok {n : Nat} {d : Int} (h1 : 0 ≤ d) (h2 : d < n) : ixI n d = some d.toNat := by
  unfold ixI
  rw [if_pos h1, if_pos (by omega)]
theorem pick_ok (h : P.fn 161 = some f161) (h' : P.fn 162 = some f162) {pk : Nat} (h2 : P.fn pk = some f165) {n : Nat} {K : Int} {g : D} {l : List D} (hK : 0 ≤ K) (hg : Gn (K + 2) g) (hl : l ≠ []) (hl2 : l.length < 1000000) :
    ∃ (x g' : D), run P (n + 3) pk [g, .lst l] = .ok (x, [g']) ∧ x ∈ l ∧ Gn K g' := by
  have l0 : 0 < l.length := List.length_pos_iff.mpr hl
  obtain ⟨d, g', e, d0, d1, hg'⟩ := random_ok h h' (n := n) hK hg (b := (l.length : Int)) (by omega) (by omega)
  have hx : d.toNat < l.length := by omega
  refine ⟨l[d.toNat], g', Ok.eq ?_, List.getElem_mem hx, hg'⟩
  rw [run_succ, h2]
  have eg : getD (.lst l) (.int d) = some l[d.toNat] := by
    show ((ixI l.length d).bind fun n => l[n]?) = _
    rw [ixI_ok d0 d1]
    exact List.getElem?_eq_getElem hx
  simp [f165, initE, e, eg]
theorem pickS_ok (h : P.fn 161 = some f161) (h' : P.fn 162 = some f162) {pk : Nat} (h2 : P.fn pk = some f165) {n : Nat} {K : Int} {g : D} {l : List Nat} (hK : 0 ≤ K) (hg : Gn (K + 2) g) (hl : l ≠ []) (hl2 : l.length < 1000000) :
    ∃ (x : Nat) (g' : D), run P (n + 3) pk [g, .str l] = .ok (.str [x], [g']) ∧ x ∈ l ∧ Gn K g' := by
  have l0 : 0 < l.length := List.length_pos_iff.mpr hl
  obtain ⟨d, g', e, d0, d1, hg'⟩ := random_ok h h' (n := n) hK hg (b := (l.length : Int)) (by omega) (by omega)
  have hx : d.toNat < l.length := by omega
  refine ⟨l[d.toNat], g', Ok.eq ?_, List.getElem_mem hx, hg'⟩
  rw [run_succ, h2]
  have lz : l.length ≤ lim := by unfold lim; omega
  have en : lenD (.str l) = some (.int l.length) := if_pos lz
  have eg : getD (.str l) (.int d) = some (.str [l[d.toNat]]) := by
    show (if l.length ≤ lim then ((ixI l.length d).bind fun n => (l[n]?).map fun c => D.str [c]) else none) = _
    rw [if_pos lz, ixI_ok d0 d1]
    show (l[d.toNat]?).map _ = _
    rw [List.getElem?_eq_getElem hx]; rfl
  simp [f165, initE, en, e, eg]
theorem cell_ok (h : P.fn 163 = some f163) {n : Nat} {ns : List Int} {i : Int} (hi : 0 ≤ i) : ∃ v : Int, run P (n + 1) 163 [.lst (ns.map D.int), .int i] = .ok (.int v, []) := by
  suffices hh : Ok (run P (n + 1) 163 [.lst (ns.map D.int), .int i]) fun r => ∃ v : Int, r = (.int v, []) by
    obtain ⟨r, e, v, rfl⟩ := hh.ex
    exact ⟨v, e⟩
  rw [run_succ, h]
  by_cases hl : i < ns.length
  · have hx : i.toNat < ns.length := by omega
    have eg : getD (.lst (ns.map D.int)) (.int i) = some (.int ns[i.toNat]) := by
      show ((ixI (ns.map D.int).length i).bind fun n => (ns.map D.int)[n]?) = _
      rw [List.length_map, ixI_ok hi hl]
      show (ns.map D.int)[i.toNat]? = _
      rw [List.getElem?_map, List.getElem?_eq_getElem hx]; rfl
    simp [f163, initE, hl, eg]
  · have es : ∃ v : Int, biD .sum [.lst (slcL (ns.map D.int) none (some 1))] = some (.int v) := by
      cases ns with
      | nil => exact ⟨0, rfl⟩
      | cons a ns => exact ⟨0 + a, by cases ns <;> rfl⟩
    obtain ⟨v, es⟩ := es
    have ez : slcV none (some 1) (.lst (ns.map D.int)) = some (.lst (slcL (ns.map D.int) none (some 1))) := rfl
    have ei : isNonT (.int 1) = false := rfl
    simp [f163, initE, hl, ez, ei, es, binD_mod]
theorem generator_ok (h : P.fn 163 = some f163) (h' : P.fn 164 = some f164) {n : Nat} {ns : List Int} {i : Int} (hi : 0 ≤ i) (hi2 : i < 100) : ∃ g : D, run P (n + 2) 164 [.lst (ns.map D.int), .int i] = .ok (g, []) ∧ Gn (2 ^ 61) g := by
  obtain ⟨v, e⟩ := cell_ok h (n := n) (ns := ns) hi
  have e1 : binD .pow (.int 10) (.int 18) = some (.int (10 ^ 18)) := by rfl
  have e2 : binD .pow (.int 10) (.int 60) = some (.int (10 ^ 60)) := by rfl
  have e3 : binD .pow (.int (10 ^ 60)) (.int 10) = some (.int ((10 ^ 60) ^ 10)) := by rfl
  have e4 : ∀ x : Int, biD .max2 [.int x, .int 0] = some (.int (if 0 > x then 0 else x)) := fun _ => rfl
  have e5 : binD .mul (.int 1000) (.int i) = some (.int (1000 * i)) := binD_mul (.inl (by decide))
  have e6 := fun x : Int => binD_mod (i := x) (j := (10 ^ 60) ^ 10) (by decide)
  have e7 := fun x : Int => binD_mod (i := x) (j := 2147483647) (by decide)
  refine ⟨.lst [.int ((if 0 > v - 10 ^ 18 then 0 else v - 10 ^ 18) % (10 ^ 60) ^ 10), .int (v % 2147483647), .int (1000 * i)], Ok.eq ?_, _, _, _, rfl, Int.emod_nonneg _ (by decide), Int.emod_nonneg _ (by decide), ?_, by omega, by decide, by omega⟩
  · rw [run_succ, h']
    simp only [optR_some, bind_okk, runFn_eq, f164, initE, List.length_cons, List.length_nil]
    simp [e, e1, e2, e3, e4, e5, e6, e7, -Int.reducePow, -Int.reduceMod]
  · have := Int.emod_lt_of_pos v (show (0 : Int) < 2147483647 by decide)
    omega
end
end Pz
end
section
set_option Elab.async false
set_option linter.all false
/-! Numbers: how long Euclid's way is, lowest terms. No program here. -/
namespace Pz

/-! ### Euclid's way -/
/-- one turn of the law's loop -/
def euT (p : Nat × Nat) : Nat × Nat := if 0 < p.2 then (p.2, p.1 % p.2) else (p.1, 0)
def euN : Nat → Nat × Nat → Nat × Nat
  | 0, p => p
  | n + 1, p => euN n (euT p)
theorem euT_gcd (p : Nat × Nat) : Nat.gcd (euT p).1 (euT p).2 = Nat.gcd p.1 p.2 := by
  unfold euT
  by_cases h : 0 < p.2
  · rw [if_pos h]
    show Nat.gcd p.2 (p.1 % p.2) = _
    rw [Nat.gcd_comm p.2, Nat.gcd_comm p.1, Nat.gcd_rec p.2 p.1]
  · rw [if_neg h]
    have : p.2 = 0 := by omega
    rw [this]
theorem euN_gcd : ∀ (n : Nat) (p : Nat × Nat), Nat.gcd (euN n p).1 (euN n p).2 = Nat.gcd p.1 p.2
  | 0, _ => rfl
  | n + 1, p => by rw [euN, euN_gcd n, euT_gcd]
theorem euN_zero : ∀ (n : Nat) (p : Nat × Nat), p.2 = 0 → (euN n p).2 = 0
  | 0, _, h => h
  | n + 1, p, h => by
    rw [euN]
    refine euN_zero n _ ?_
    unfold euT
    rw [if_neg (by omega)]
/-- 1, 2, 3, 5, 8, .. -/
def fiB : Nat → Nat
  | 0 => 1
  | 1 => 2
  | n + 2 => fiB (n + 1) + fiB n
theorem euN_fib : ∀ (k : Nat) (a b : Nat), 0 < (euN k (a, b)).2 → fiB k ≤ b
  | 0, a, b, h => h
  | 1, a, b, h => by
    have hb : 0 < b := Nat.pos_of_ne_zero fun e => by rw [euN_zero 1 (a, b) e] at h; exact absurd h (Nat.lt_irrefl 0)
    have : 0 < a % b := by
      simp only [euN, euT, if_pos hb] at h
      exact h
    have := Nat.mod_lt a hb
    show 2 ≤ b
    omega
  | k + 2, a, b, h => by
    have hb : 0 < b := Nat.pos_of_ne_zero fun e => by rw [euN_zero (k + 2) (a, b) e] at h; exact absurd h (Nat.lt_irrefl 0)
    have e1 : euN (k + 2) (a, b) = euN (k + 1) (b, a % b) := by rw [euN]; simp only [euT, if_pos hb]
    rw [e1] at h
    have h1 := euN_fib (k + 1) b (a % b) h
    have hm : 0 < a % b := Nat.pos_of_ne_zero fun e => by rw [euN_zero (k + 1) (b, a % b) e] at h; exact absurd h (Nat.lt_irrefl 0)
    have e2 : euN (k + 1) (b, a % b) = euN k (a % b, b % (a % b)) := by rw [euN]; simp only [euT, if_pos hm]
    rw [e2] at h
    have h2 := euN_fib k (a % b) (b % (a % b)) h
    have lt := Nat.mod_lt a hb
    have : b % (a % b) + a % b ≤ b := by
      have h3 := Nat.div_add_mod b (a % b)
      have h4 : 1 ≤ b / (a % b) := (Nat.le_div_iff_mul_le hm).mpr (by omega)
      have h5 : a % b * 1 ≤ a % b * (b / (a % b)) := Nat.mul_le_mul_left _ h4
      omega
    show fiB (k + 1) + fiB k ≤ b
    omega
theorem fiB_two : ∀ k, fiB (k + 1) ≤ 2 * fiB k ∧ 0 < fiB k ∧ fiB k ≤ fiB (k + 1)
  | 0 => by decide
  | k + 1 => by
    have := fiB_two k
    show fiB (k + 1) + fiB k ≤ _ ∧ _ ∧ _ ≤ fiB (k + 1) + fiB k
    omega
theorem fiB_ten : ∀ d, 10 ^ d ≤ fiB (5 * d + 1)
  | 0 => by decide
  | d + 1 => by
    have h := fiB_ten d
    generalize hn : 5 * d + 1 = n at h
    have e : 5 * (d + 1) + 1 = n + 5 := by omega
    rw [e, Nat.pow_succ]
    have h1 := fiB_two n
    obtain ⟨m, rfl⟩ : ∃ m, n = m + 1 := ⟨5 * d, by omega⟩
    have h2 := fiB_two m
    have e1 : fiB (m + 2) = fiB (m + 1) + fiB m := rfl
    have e2 : fiB (m + 3) = fiB (m + 2) + fiB (m + 1) := rfl
    have e3 : fiB (m + 4) = fiB (m + 3) + fiB (m + 2) := rfl
    have e4 : fiB (m + 5) = fiB (m + 4) + fiB (m + 3) := rfl
    have e5 : fiB (m + 6) = fiB (m + 5) + fiB (m + 4) := rfl
    show _ ≤ fiB (m + 6)
    omega
/-- five turns for a figure and one are enough -/
theorem lame {a b d : Nat} (h : b < 10 ^ d) : euN (5 * d + 1) (a, b) = (Nat.gcd a b, 0) := by
  have h0 : (euN (5 * d + 1) (a, b)).2 = 0 := by
    rcases Nat.eq_zero_or_pos (euN (5 * d + 1) (a, b)).2 with e | e
    · exact e
    · have h1 := euN_fib _ a b e
      have h2 := fiB_ten d
      omega
  have h1 := euN_gcd (5 * d + 1) (a, b)
  rw [h0, Nat.gcd_zero_right] at h1
  exact Prod.ext h1 h0
/-- the while loop's length -/
theorem euN_log : ∀ (k a b : Nat), 0 < (euN (2 * k) (a, b)).2 → 2 ^ k ≤ b
  | 0, a, b, h => h
  | k + 1, a, b, h => by
    have hb : 0 < b := Nat.pos_of_ne_zero fun e => by rw [euN_zero (2 * (k + 1)) (a, b) e] at h; exact absurd h (Nat.lt_irrefl 0)
    have e1 : euN (2 * (k + 1)) (a, b) = euN (2 * k + 1) (b, a % b) := by
      show euN (2 * k + 1) (euT (a, b)) = _
      simp only [euT, if_pos hb]
    rw [e1] at h
    have hm : 0 < a % b := Nat.pos_of_ne_zero fun e => by rw [euN_zero (2 * k + 1) (b, a % b) e] at h; exact absurd h (Nat.lt_irrefl 0)
    have e2 : euN (2 * k + 1) (b, a % b) = euN (2 * k) (a % b, b % (a % b)) := by rw [euN]; simp only [euT, if_pos hm]
    rw [e2] at h
    have h2 := euN_log k (a % b) (b % (a % b)) h
    have lt := Nat.mod_lt a hb
    have lt2 := Nat.mod_lt b hm
    have : b % (a % b) + a % b ≤ b := by
      have h3 := Nat.div_add_mod b (a % b)
      have h4 : 1 ≤ b / (a % b) := (Nat.le_div_iff_mul_le hm).mpr (by omega)
      have h5 : a % b * 1 ≤ a % b * (b / (a % b)) := Nat.mul_le_mul_left _ h4
      omega
    rw [Nat.pow_succ]
    omega
/-- figures of a number -/
theorem figs_len {n : Nat} : n < 10 ^ (Nat.toDigits 10 n).length := by
  rcases Nat.lt_or_ge n (10 ^ (Nat.toDigits 10 n).length) with h | h
  · exact h
  · have := PyProof.Rows.digits10_ge h
    omega

/-! ### lowest terms -/
def gI (a b : Int) : Int := (Nat.gcd a.natAbs b.natAbs : Nat)
def red (a b : Int) : Int × Int := if b < 0 then (-a / gI a b, -b / gI a b) else (a / gI a b, b / gI a b)
theorem gI_pos {a b : Int} (h : b ≠ 0) : 0 < gI a b := by
  unfold gI
  have := Nat.gcd_pos_of_pos_right a.natAbs (show 0 < b.natAbs by omega)
  omega
theorem gI_dl (a b : Int) : gI a b ∣ a := Int.ofNat_dvd_left.mpr (Nat.gcd_dvd_left _ _)
theorem gI_dr (a b : Int) : gI a b ∣ b := Int.ofNat_dvd_left.mpr (Nat.gcd_dvd_right _ _)
theorem gI_mul {a b t : Int} (h : 0 < t) : gI (a * t) (b * t) = gI a b * t := by
  unfold gI
  rw [Int.natAbs_mul, Int.natAbs_mul, Nat.gcd_mul_right]
  have : ((t.natAbs : Nat) : Int) = t := by omega
  rw [Int.natCast_mul, this]
theorem gI_neg {a b : Int} : gI (-a) (-b) = gI a b := by
  unfold gI
  rw [Int.natAbs_neg, Int.natAbs_neg]
theorem red_mul {a b t : Int} (h : 0 < t) : red (a * t) (b * t) = red a b := by
  unfold red
  rw [gI_mul h]
  have e : b * t < 0 ↔ b < 0 := ⟨fun z => by
    rcases Int.lt_or_le b 0 with y | y
    · exact y
    · have := Int.mul_nonneg y (Int.le_of_lt h)
      omega, fun z => Int.mul_neg_of_neg_of_pos z h⟩
  have d : ∀ x : Int, x * t / (gI a b * t) = x / gI a b := fun x => Int.mul_ediv_mul_of_pos_left _ _ h
  by_cases hb : b < 0
  · rw [if_pos (e.mpr hb), if_pos hb, ← Int.neg_mul, ← Int.neg_mul, d, d]
  · rw [if_neg (fun z => hb (e.mp z)), if_neg hb, d, d]
theorem red_neg {a b : Int} (h : b ≠ 0) : red (-a) (-b) = red a b := by
  unfold red
  rw [gI_neg]
  by_cases hb : b < 0
  · rw [if_neg (by omega), if_pos hb]
  · rw [if_pos (by omega), if_neg hb, Int.neg_neg, Int.neg_neg]
theorem red_id {a b : Int} (h : 0 < b) (g : gI a b = 1) : red a b = (a, b) := by
  unfold red
  rw [if_neg (by omega), g, Int.ediv_one, Int.ediv_one]
/-- a fraction -/
def isF (a b : Int) : Bool := decide (1 ≤ b) && decide (gI a b = 1)
theorem red_pos {a b : Int} (h : b ≠ 0) : 0 < (red a b).2 := by
  have g := gI_pos (a := a) h
  unfold red
  by_cases hb : b < 0
  · rw [if_pos hb]
    exact Int.ediv_pos_of_pos_of_dvd (by omega) (by omega) ((Int.dvd_neg).mpr (gI_dr a b))
  · rw [if_neg hb]
    exact Int.ediv_pos_of_pos_of_dvd (by omega) (by omega) (gI_dr a b)
theorem natAbs_div {x g : Int} (hg : 0 < g) (h : g ∣ x) : (x / g).natAbs = x.natAbs / g.natAbs := by
  obtain ⟨k, rfl⟩ := h
  rw [Int.mul_ediv_cancel_left _ (by omega), Int.natAbs_mul, Nat.mul_div_cancel_left _ (by omega)]
theorem red_abs {a b : Int} (h : b ≠ 0) : (red a b).1.natAbs = a.natAbs / (gI a b).natAbs ∧ (red a b).2.natAbs = b.natAbs / (gI a b).natAbs := by
  have g := gI_pos (a := a) h
  unfold red
  by_cases hb : b < 0
  · rw [if_pos hb]
    refine ⟨?_, ?_⟩
    · show (-a / gI a b).natAbs = _
      rw [natAbs_div g ((Int.dvd_neg).mpr (gI_dl a b)), Int.natAbs_neg]
    · show (-b / gI a b).natAbs = _
      rw [natAbs_div g ((Int.dvd_neg).mpr (gI_dr a b)), Int.natAbs_neg]
  · rw [if_neg hb]
    exact ⟨natAbs_div g (gI_dl a b), natAbs_div g (gI_dr a b)⟩
theorem red_gcd {a b : Int} (h : b ≠ 0) : gI (red a b).1 (red a b).2 = 1 := by
  have g := gI_pos (a := a) h
  obtain ⟨e1, e2⟩ := red_abs (a := a) h
  unfold gI at *
  rw [e1, e2, Int.natAbs_natCast, Nat.gcd_div_gcd_div_gcd_of_pos_right (by omega)]
  rfl
theorem red_isF {a b : Int} (h : b ≠ 0) : isF (red a b).1 (red a b).2 = true := by
  unfold isF
  rw [red_gcd h]
  have := red_pos (a := a) h
  simp
  omega
theorem red_le {a b : Int} (h : b ≠ 0) : (red a b).1.natAbs ≤ a.natAbs ∧ (red a b).2.natAbs ≤ b.natAbs := by
  obtain ⟨e1, e2⟩ := red_abs (a := a) h
  rw [e1, e2]
  exact ⟨Nat.div_le_self _ _, Nat.div_le_self _ _⟩
theorem red_isF_iff {a b : Int} : isF a b = (decide (0 < b) && decide (red a b = (a, b))) := by
  unfold isF
  by_cases hb : 0 < b
  · have h1 : 1 ≤ b := by omega
    rw [decide_eq_true hb, decide_eq_true h1, Bool.true_and, Bool.true_and, decide_eq_decide]
    refine ⟨red_id hb, fun e => ?_⟩
    have := red_gcd (a := a) (b := b) (by omega)
    rw [e] at this
    exact this
  · have h1 : ¬ 1 ≤ b := by omega
    rw [decide_eq_false hb, decide_eq_false h1]; rfl
/-- the program's divisions: by the common part, with below's sign -/
theorem fdiv_neg {x g : Int} (hg : 0 < g) (h : g ∣ x) : x.fdiv (-g) = -x / g := by
  rw [Int.fdiv_eq_ediv_of_dvd ((Int.neg_dvd).mpr h), Int.ediv_neg, Int.neg_ediv_of_dvd h]
end Pz
end
section
set_option Elab.async false
set_option linter.all false
set_option maxRecDepth 100000
/-! What several laws' own defs do: copied, exact, any; filters, sorting, small things. -/
namespace Pz.Co
open Pz
/-- _law_copied -/
def f182 : Fn := { np := 1, io := [], ns := 2, body := (.cons (.sif (.isi (.v 0) [.list]) (.cons (.ret (.lc (.call 182 (.cons (.v 1) .nil) []) (.v 1) (.wlk (.v 0)) .nil [1])) .nil) .nil) (.cons (.sif (.isi (.v 0) [.tuple]) (.cons (.ret (.bi .tuple (.cons (.lc (.call 182 (.cons (.v 1) .nil) []) (.v 1) (.wlk (.v 0)) .nil [1]) .nil))) .nil) .nil) (.cons (.retv 0) .nil))) }
/-- _law_exact -/
def f183 : Fn := { np := 2, io := [], ns := 4, body := (.cons (.sif (.isi (.v 1) [.list]) (.cons (.ret (.and (.isi (.v 0) [.list]) (.and (.cmp .eq (.bi .len (.cons (.v 0) .nil)) (.bi .len (.cons (.v 1) .nil))) (.cmp .notin .ff (.lc (.call 183 (.cons (.v 2) (.cons (.v 3) .nil)) []) (.tup (.cons (.v 2) (.cons (.v 3) .nil))) (.zip (.v 0) (.v 1)) .nil [2, 3]))))) .nil) .nil) (.cons (.sif (.isi (.v 1) [.tuple]) (.cons (.ret (.and (.isi (.v 0) [.tuple]) (.and (.cmp .eq (.bi .len (.cons (.v 0) .nil)) (.bi .len (.cons (.v 1) .nil))) (.cmp .notin .ff (.lc (.call 183 (.cons (.v 2) (.cons (.v 3) .nil)) []) (.tup (.cons (.v 2) (.cons (.v 3) .nil))) (.zip (.v 0) (.v 1)) .nil [2, 3]))))) .nil) .nil) (.cons (.sif (.cmp .is (.v 1) .non) (.cons (.ret (.cmp .is (.v 0) .non)) .nil) .nil) (.cons (.sif (.cmp .is (.v 1) .tt) (.cons (.ret (.cmp .is (.v 0) .tt)) .nil) .nil) (.cons (.sif (.cmp .is (.v 1) .ff) (.cons (.ret (.cmp .is (.v 0) .ff)) .nil) .nil) (.cons (.sif (.isi (.v 1) [.int]) (.cons (.ret (.and (.isi (.v 0) [.int]) (.and (.not (.isi (.v 0) [.bool])) (.cmp .eq (.v 0) (.v 1))))) .nil) .nil) (.cons (.ret (.and (.isi (.v 0) [.str]) (.cmp .eq (.v 0) (.v 1)))) .nil))))))) }
/-- _law_any -/
def f185 : Fn := { np := 1, io := [0], ns := 2, body := (.cons (.asg (.v 1) (.lst 1 (.cons .non (.cons .tt (.cons .ff (.cons (.int 0) (.cons (.int 1) (.cons (.neg (.int 1)) (.cons (.bin .pow (.int 10) (.int 29)) (.cons (.str []) (.cons (.str [97]) (.cons (.str [65]) (.cons (.str [97, 98]) (.cons (.str [97, 32, 98]) (.cons (.str [49, 97]) (.cons (.str [97, 49]) (.cons (.str [32]) (.cons (.str [97, 10]) (.cons (.bin .mul (.str [122]) (.int 20)) (.cons (.bin .mul (.str [122]) (.int 21)) (.cons (.str [97, 98, 99, 100, 101, 102, 103, 104]) (.cons (.str [97, 98, 99, 100, 101, 102, 103, 104, 105]) .nil)))))))))))))))))))))) (.cons (.asg (.v 1) (.bin .add (.v 1) (.lst 1 (.cons (.lst 1 .nil) (.cons (.tup .nil) (.cons (.dct .nil .nil) (.cons (.lst 1 (.cons (.int 0) .nil)) (.cons (.lst 1 (.cons (.int 1) (.cons (.int 0) .nil))) (.cons (.lst 1 (.cons (.int 0) (.cons (.str [97]) .nil))) (.cons (.lst 1 (.cons (.str [97]) (.cons (.int 0) .nil))) (.cons (.lst 1 (.cons .non (.cons (.int 0) .nil))) (.cons (.lst 1 (.cons (.int 0) (.cons (.lst 1 (.cons (.int 1) .nil)) .nil))) (.cons (.lst 1 (.cons (.int 0) (.cons (.tup (.cons (.int 1) .nil)) .nil))) (.cons (.lst 1 (.cons .tt .nil)) (.cons (.lst 1 (.cons (.int 0) (.cons (.int 1) .nil))) (.cons (.lst 1 (.cons (.int 0) (.cons (.int 0) .nil))) (.cons (.tup (.cons (.int 0) (.cons (.int 1) .nil))) (.cons (.lst 1 (.cons (.str [97]) .nil)) (.cons (.lst 1 (.cons (.lst 1 .nil) .nil)) .nil))))))))))))))))))) (.cons (.asg (.v 1) (.bin .add (.v 1) (.lst 1 (.cons (.dct (.cons (.str [97]) .nil) (.cons (.int 1) .nil)) (.cons (.lst 1 (.cons (.int 1) (.cons (.int 2) (.cons (.bin .pow (.int 10) (.int 29)) .nil)))) (.cons (.lst 1 (.cons (.neg (.int 1)) .nil)) (.cons (.str [97, 95, 98]) (.cons (.str [97, 66]) (.cons (.bin .mul (.str [97]) (.int 200)) (.cons (.str [101, 48]) (.cons (.str [48]) (.cons (.str [104, 111, 117, 115, 101]) (.cons (.tup (.cons (.str [104, 111, 117, 115, 101]) .nil)) .nil))))))))))))) (.cons (.ret (.call 182 (.cons (.call 165 (.cons (.v 0) (.cons (.v 1) .nil)) [(0, 0)]) .nil) [])) .nil)))) }
theorem okL_all {n : Nat} : ∀ {l : List D}, okL n l = true ↔ ∀ x ∈ l, okD n x = true
  | [] => by simp [okL]
  | x :: l => by simp [okL, okL_all (l := l)]
theorem eq_nil {l : List D} (h : ∀ x ∈ l, okD 59 x = true) : eqO (.lst l) (.lst []) = some l.isEmpty := by
  have h1 : okD 60 (.lst l) = true := okL_all.mpr h
  unfold eqO
  rw [h1]
  cases l <;> rfl
theorem ne_nil {l : List D} (h : ∀ x ∈ l, okD 59 x = true) : cmpB .ne (.lst l) (.lst []) = some !l.isEmpty := by
  show (eqO _ _).map _ = _
  rw [eq_nil h]; rfl
/-- items that do not hold -/
def pickF (p : D → Bool) (x : D) : Option D := if p x then some x else none
theorem filt_eq (p : D → Bool) (l : List D) : l.filterMap (pickF p) = l.filter p := by
  induction l with
  | nil => rfl
  | cons x l ih =>
    rw [List.filterMap_cons, List.filter_cons]
    cases hp : p x
    · rw [show pickF p x = none by unfold pickF; rw [hp]; rfl]; simpa using ih
    · rw [show pickF p x = some x by unfold pickF; rw [hp]; rfl]; simpa using ih
theorem filt_nil (p : D → Bool) (l : List D) : (l.filter p).isEmpty = l.all fun x => !p x := by
  induction l with
  | nil => rfl
  | cons x l ih => cases hp : p x <;> simp [List.filter_cons, hp, ih] <;> simpa using ih

theorem tyOk_ok {n : Nat} {x : D} (h : okD n x = true) : tyOk x = true := by
  cases x <;> first | rfl | (cases n <;> cases h)
theorem okD_mono : ∀ {n : Nat} {x : D}, okD n x = true → okD (n + 1) x = true := by
  intro n
  induction n with
  | zero => intro x h; cases x <;> first | rfl | cases h
  | succ n ih =>
    intro x h
    cases x with
    | lst l => exact okL_all.mpr fun y hy => ih (okL_all.mp h y hy)
    | tup l => exact okL_all.mpr fun y hy => ih (okL_all.mp h y hy)
    | non => rfl
    | bl _ => rfl
    | int _ => rfl
    | str _ => rfl
    | _ => cases h
theorem shL_len : ∀ l : List D, l.length ≤ shL l
  | [] => Nat.le_refl _
  | x :: l => by
    have := shL_len l
    rw [List.length_cons]
    show l.length + 1 ≤ shB x + 2 + shL l
    omega
theorem shB_mem : ∀ {l : List D} {x : D}, x ∈ l → shB x ≤ shL l
  | y :: l, x, h => by
    show shB x ≤ shB y + 2 + shL l
    rcases List.mem_cons.mp h with rfl | h
    · omega
    · have := shB_mem h
      omega
section
variable {P : Prog}
theorem copied_ok (h182 : P.fn 182 = some f182) : ∀ (k n : Nat) (d : D), okD k d = true → shB d ≤ lim → run P (n + k + 1) 182 [d] = .ok (d, []) := by
  intro k
  induction k with
  | zero =>
    intro n d h _
    refine Ok.eq ?_
    rw [run_succ, h182]
    cases d <;> first | (cases h; done) | simp [f182, initE, isTs, tyOk, isTy]
  | succ k ih =>
    intro n d h hs
    refine Ok.eq ?_
    rw [run_succ, h182]
    cases d with
    | lst l =>
      have hz : shL l + 2 ≤ lim := hs
      have hz2 := shL_len l
      simp [f182, initE, isTs, tyOk, isTy]
      refine (compR_filter some (fun ρ => ∃ o, ρ = [some (.lst l), o]) _ _ _ ⟨_, rfl⟩ ?_ (by simp; omega)).mono ?_
      · rintro x hx ρ acc ⟨o, rfl⟩ ha
        have h1 := ih n x (okL_all.mp h x hx) (by have := shB_mem hx; omega)
        rw [show n + (k + 1) = n + k + 1 from rfl]
        simp [h1, push, ha]
      · rintro ⟨a, ρ⟩ ⟨h3, o, h4⟩
        subst h3; subst h4
        rw [List.filterMap_some, List.nil_append]
    | tup l =>
      have hz : shL l + 3 ≤ lim := hs
      have hz2 := shL_len l
      simp [f182, initE, isTs, tyOk, isTy]
      refine (compR_filter some (fun ρ => ∃ o, ρ = [some (.tup l), o]) _ _ _ ⟨_, rfl⟩ ?_ (by simp; omega)).mono ?_
      · rintro x hx ρ acc ⟨o, rfl⟩ ha
        have h1 := ih n x (okL_all.mp h x hx) (by have := shB_mem hx; omega)
        rw [show n + (k + 1) = n + k + 1 from rfl]
        simp [h1, push, ha]
      · rintro ⟨a, ρ⟩ ⟨h3, o, h4⟩
        subst h3; subst h4
        rw [List.filterMap_some, List.nil_append]
        have e : biD .tuple [.lst l] = some (.tup l) := rfl
        simp [e]
    | non => simp [f182, initE, isTs, tyOk, isTy]
    | bl b => simp [f182, initE, isTs, tyOk, isTy]
    | int b => simp [f182, initE, isTs, tyOk, isTy]
    | str b => simp [f182, initE, isTs, tyOk, isTy]
    | _ => cases h
theorem copied_dic (h182 : P.fn 182 = some f182) {n : Nat} {ks vs : List D} : run P (n + 1) 182 [.dic ks vs] = .ok (.dic ks vs, []) := by
  refine Ok.eq ?_
  rw [run_succ, h182]
  simp [f182, initE, isTs, tyOk, isTy]
end
theorem mem_insT {x y : D} : ∀ {l : List D}, y ∈ insT x l → y = x ∨ y ∈ l
  | [], h => by simpa [insT] using h
  | z :: l, h => by
    unfold insT at h
    split at h
    · rcases List.mem_cons.mp h with h | h
      · exact .inr (h ▸ List.mem_cons_self)
      · rcases mem_insT h with h | h
        · exact .inl h
        · exact .inr (List.mem_cons_of_mem _ h)
    · exact List.mem_cons.mp h
theorem len_insT (x : D) : ∀ l : List D, (insT x l).length = l.length + 1
  | [] => rfl
  | z :: l => by
    unfold insT
    split
    · rw [List.length_cons, len_insT x l]; rfl
    · rfl
theorem mem_isort {y : D} : ∀ {l : List D}, y ∈ isort l → y ∈ l
  | x :: l, h => by
    rcases mem_insT h with rfl | h
    · exact List.mem_cons_self
    · exact List.mem_cons_of_mem _ (mem_isort h)
theorem len_isort : ∀ l : List D, (isort l).length = l.length
  | [] => rfl
  | x :: l => by
    show (insT x (isort l)).length = _
    rw [len_insT, len_isort l]; rfl
theorem sort_ok {l : List D} (hl : l.length ≤ 1000) (h : (∀ x ∈ l, ∃ s, x = .str s) ∨ (∀ x ∈ l, ∃ i, x = .int i)) : sortO l = some (isort l) := by
  unfold sortO
  rw [if_pos]
  have hz : decide (l.length ≤ lim) = true := decide_eq_true (by unfold lim; omega)
  rw [hz]
  rcases h with h | h
  · have h1 : allAlk l = true := by
      unfold allAlk
      rw [List.all_eq_true]
      intro x hx
      obtain ⟨s, rfl⟩ := h x hx
      rw [Bool.and_eq_true, List.all_eq_true]
      refine ⟨rfl, fun y hy => ?_⟩
      obtain ⟨t, rfl⟩ := h y hy
      rfl
    have h2 : okL 60 l = true := okL_all.mpr fun x hx => by obtain ⟨s, rfl⟩ := h x hx; rfl
    have h3 : srtOk l = true := by
      unfold srtOk
      rw [Bool.or_eq_true]
      refine .inr (List.all_eq_true.mpr fun x hx => ?_)
      obtain ⟨s, rfl⟩ := h x hx; rfl
    rw [h1, h2, h3]; rfl
  · have h1 : allAlk l = true := by
      unfold allAlk
      rw [List.all_eq_true]
      intro x hx
      obtain ⟨s, rfl⟩ := h x hx
      rw [Bool.and_eq_true, List.all_eq_true]
      refine ⟨rfl, fun y hy => ?_⟩
      obtain ⟨t, rfl⟩ := h y hy
      rfl
    have h2 : okL 60 l = true := okL_all.mpr fun x hx => by obtain ⟨s, rfl⟩ := h x hx; rfl
    have h3 : srtOk l = true := by
      unfold srtOk
      rw [Bool.or_eq_true]
      refine .inr (List.all_eq_true.mpr fun x hx => ?_)
      obtain ⟨s, rfl⟩ := h x hx; rfl
    rw [h1, h2, h3]; rfl
theorem rng1 {d : Int} (h1 : 0 ≤ d) (h2 : d < 2 ^ 40) : rngD [.int d] = some (rangeL 0 d) := by
  show (if small d = true then some (rangeL 0 d) else none) = _
  rw [if_pos]
  unfold small
  rw [decide_eq_true_eq]
  omega
theorem len_range {d : Int} : (rangeL 0 d).length = d.toNat := by simp [rangeL]
def menu : List D := [.non, .bl true, .bl false, .int 0, .int 1, .int (-1), .int (10 ^ 29), .str [], .str [97], .str [65], .str [97, 98], .str [97, 32, 98], .str [49, 97], .str [97, 49], .str [32], .str [97, 10], .str (List.replicate 20 122), .str (List.replicate 21 122), .str [97, 98, 99, 100, 101, 102, 103, 104], .str [97, 98, 99, 100, 101, 102, 103, 104, 105],
  .lst [], .tup [], .dic [] [], .lst [.int 0], .lst [.int 1, .int 0], .lst [.int 0, .str [97]], .lst [.str [97], .int 0], .lst [.non, .int 0], .lst [.int 0, .lst [.int 1]], .lst [.int 0, .tup [.int 1]], .lst [.bl true], .lst [.int 0, .int 1], .lst [.int 0, .int 0], .tup [.int 0, .int 1], .lst [.str [97]], .lst [.lst []],
  .dic [.str [97]] [.int 1], .lst [.int 1, .int 2, .int (10 ^ 29)], .lst [.int (-1)], .str [97, 95, 98], .str [97, 66], .str (List.replicate 200 97), .str [101, 48], .str [48], .str [104, 111, 117, 115, 101], .tup [.str [104, 111, 117, 115, 101]]]
/-- a condition of a menu's value -/
def cpB (d : D) : Bool := match d with
  | .dic _ _ => true
  | d => okD 2 d && decide (shB d ≤ lim)
section
variable {P : Prog}
theorem rnd (h : P.fn 161 = some f161) (h' : P.fn 162 = some f162) {n : Nat} {K b : Int} {g : D} (hK : 0 ≤ K) (hg : Gn (K + 2) g) (hb : 0 < b) (hb2 : b < 2 ^ 59) :
    ∃ (d : Int) (g' : D), run P (n + 2) 162 [g, .int b] = .ok (.int d, [g']) ∧ 0 ≤ d ∧ d < b ∧ Gn K g' := random_ok h h' hK hg hb hb2
theorem cp_ok (h182 : P.fn 182 = some f182) {n : Nat} {d : D} (h : cpB d = true) : run P (n + 3) 182 [d] = .ok (d, []) := by
  have : (∃ ks vs, d = .dic ks vs) ∨ (okD 2 d = true ∧ shB d ≤ lim) := by
    cases d <;> first | exact .inl ⟨_, _, rfl⟩ | exact .inr (by unfold cpB at h; rw [Bool.and_eq_true, decide_eq_true_eq] at h; exact h)
  rcases this with ⟨ks, vs, rfl⟩ | ⟨h1, h2⟩
  · exact copied_dic h182
  · exact copied_ok h182 2 n d h1 h2
theorem menu_cp : menu.all cpB = true := by decide +kernel
/-- any: one of the menu -/
theorem any_ok (h : P.fn 161 = some f161) (h' : P.fn 162 = some f162) (h165 : P.fn 165 = some f165) (h182 : P.fn 182 = some f182) (h185 : P.fn 185 = some f185) {n : Nat} {K : Int} {g : D} (hK : 0 ≤ K) (hg : Gn (K + 2) g) :
    ∃ (x g' : D), run P (n + 4) 185 [g] = .ok (x, [g']) ∧ x ∈ menu ∧ Gn K g' := by
  obtain ⟨x, g1, e1, hx, hg1⟩ := pick_ok h h' h165 (n := n) (l := menu) hK hg (by simp [menu]) (by simp [menu])
  refine ⟨x, g1, Ok.eq ?_, hx, hg1⟩
  rw [run_succ, h185]
  have b1 : binD .pow (.int 10) (.int 29) = some (.int (10 ^ 29)) := by rfl
  have b2 : binD .mul (.str [122]) (.int 20) = some (.str (List.replicate 20 122)) := by rfl
  have b3 : binD .mul (.str [122]) (.int 21) = some (.str (List.replicate 21 122)) := by rfl
  have b4 : binD .mul (.str [97]) (.int 200) = some (.str (List.replicate 200 97)) := by rfl
  have b5 : negD (.int 1) = some (.int (-1)) := rfl
  have b6 : ∀ l m, l.length + m.length ≤ 1000 → binD .add (.lst l) (.lst m) = some (.lst (l ++ m)) := fun l m h => if_pos (by unfold lim; omega)
  have e2 := cp_ok h182 (n := n) (List.all_eq_true.mp menu_cp x hx)
  simp only [optR_some, bind_okk]
  simp [f185, initE, b1, b2, b3, b4, b5, b6, keysT, -Int.reducePow, -List.reduceReplicate]
  unfold menu at e1
  simp [e1, e2, -Int.reducePow, -List.reduceReplicate]

/-- [True, ..] holds no False -/
theorem notin_tt (l : List D) : cmpB .notin (.bl false) (.lst (l.map fun _ => D.bl true)) = some true := by
  have k : okL 60 (l.map fun _ => D.bl true) = true := okL_all.mpr fun x hx => by
    obtain ⟨_, _, rfl⟩ := List.mem_map.mp hx
    rfl
  have k2 : memD (.bl false) (l.map fun _ => D.bl true) = false := by
    clear k
    induction l with
    | nil => rfl
    | cons x l ih => exact ih
  have k3 : inD (.bl false) (.lst (l.map fun _ => D.bl true)) = some false := by
    simp only [inD, k, k2]
    rfl
  show (inD _ _).map _ = _
  rw [k3]; rfl
theorem all_tt (l : List D) : l.filterMap (fun _ => some (D.bl true)) = l.map fun _ => D.bl true := by
  induction l with
  | nil => rfl
  | cons x l ih => rw [List.filterMap_cons, List.map_cons, ih]
theorem zipD_self : ∀ {l : List D} {y : D}, y ∈ zipD l l → ∃ x ∈ l, y = .tup [x, x]
  | x :: l, y, h => by
    rcases List.mem_cons.mp (show y ∈ D.tup [x, x] :: zipD l l from h) with rfl | h
    · exact ⟨x, List.mem_cons_self, rfl⟩
    · obtain ⟨z, hz, e⟩ := zipD_self h
      exact ⟨z, List.mem_cons_of_mem _ hz, e⟩
theorem zipD_len : ∀ l : List D, (zipD l l).length = l.length
  | [] => rfl
  | x :: l => by
    show (zipD l l).length + 1 = _
    rw [zipD_len l]; rfl
theorem eq_self_int (i : Int) : cmpB .eq (.int i) (.int i) = some true := by
  show some (i == i) = _
  simp
theorem eq_self_str (s : List Nat) : cmpB .eq (.str s) (.str s) = some true := by
  show some (s == s) = _
  simp
/-- exact: of a value with itself -/
theorem exact_refl (h183 : P.fn 183 = some f183) : ∀ (k n : Nat) (d : D), okD k d = true → shB d ≤ lim → run P (n + k + 1) 183 [d, d] = .ok (.bl true, []) := by
  intro k
  induction k with
  | zero =>
    intro n d h hz
    refine Ok.eq ?_
    rw [run_succ, h183]
    cases d <;> first | (cases h; done) | skip
    · simp [f183, initE, isTs, tyOk, isTy, cmpB, isD]
    · rename_i b
      cases b <;> simp [f183, initE, isTs, tyOk, isTy, cmpB, isD]
    · simp [f183, initE, isTs, tyOk, isTy, show ∀ i : Int, cmpB .is (.int i) .non = some false from fun _ => rfl, show ∀ (i : Int) b, cmpB .is (.int i) (.bl b) = some false from fun _ _ => rfl, eq_self_int]
    · simp [f183, initE, isTs, tyOk, isTy, show ∀ i, cmpB .is (.str i) .non = some false from fun _ => rfl, show ∀ i b, cmpB .is (.str i) (.bl b) = some false from fun _ _ => rfl, eq_self_str]
  | succ k ih =>
    intro n d h hs
    have rec_ : ∀ l : List D, okL k l = true → shL l ≤ lim → ∀ (ρ0 ρ1 : D), Ok (compR (fun x ρ acc => (evG { call := run P (n + k + 1), glob := P.glob, fuel := FUEL } (.tup (.cons (.v 2) (.cons (.v 3) .nil))) x (unset ρ [2, 3])).bind fun ρ1 => (evC { call := run P (n + k + 1), glob := P.glob, fuel := FUEL } .nil ρ1).bind fun t => if t.1 then (evE { call := run P (n + k + 1), glob := P.glob, fuel := FUEL } (.call 183 (.cons (.v 2) (.cons (.v 3) .nil)) []) t.2).bind (push acc) else .ok (acc, t.2)) (zipD l l) [some ρ0, some ρ1, none, none] []) fun r => r.1 = (zipD l l).map (fun _ => D.bl true) ∧ ∃ o2 o3, r.2 = [some ρ0, some ρ1, o2, o3] := by
      intro l hl hz ρ0 ρ1
      refine (compR_filter (fun _ => some (D.bl true)) (fun ρ => ∃ o2 o3, ρ = [some ρ0, some ρ1, o2, o3]) _ _ _ ⟨_, _, rfl⟩ ?_ (by rw [zipD_len]; have := shL_len l; simp; omega)).mono ?_
      · rintro y hy ρ acc ⟨o2, o3, rfl⟩ ha
        obtain ⟨x, hx, rfl⟩ := zipD_self hy
        have e := ih n x (okL_all.mp hl x hx) (by have := shB_mem hx; omega)
        simp [itemsT, lenT, e, push, ha]
      · rintro ⟨a, ρ⟩ ⟨h1, h2⟩
        replace h1 : a = [] ++ _ := h1
        rw [List.nil_append, all_tt] at h1
        exact ⟨h1, h2⟩
    refine Ok.eq ?_
    rw [show n + (k + 1) + 1 = n + k + 1 + 1 from rfl, run_succ, h183]
    cases d with
    | lst l =>
      have r := rec_ l h (by have : shL l + 2 ≤ lim := hs; omega) (.lst l) (.lst l)
      have z : zipO (.lst l) (.lst l) = some (zipD l l) := rfl
      simp only [optR_some, bind_okk]
      simp [f183, initE, isTs, tyOk, isTy, eq_self_int, z]
      simp only [evG_tup, unset_cons, unset_nil, evC_nil, bind_okk, if_true, evE_call, evA_cons, evA_nil, evE_v] at r
      refine Ok.mono (by simpa using r) ?_
      rintro ⟨a, ρ⟩ ⟨h1, o2, o3, h2⟩
      replace h1 : a = _ := h1
      replace h2 : ρ = _ := h2
      subst h1 h2
      simp [back, notin_tt]
    | tup l =>
      have r := rec_ l h (by have : shL l + 3 ≤ lim := hs; omega) (.tup l) (.tup l)
      have z : zipO (.tup l) (.tup l) = some (zipD l l) := rfl
      simp only [optR_some, bind_okk]
      simp [f183, initE, isTs, tyOk, isTy, eq_self_int, z]
      refine Ok.mono (by simpa using r) ?_
      rintro ⟨a, ρ⟩ ⟨h1, o2, o3, h2⟩
      replace h1 : a = _ := h1
      replace h2 : ρ = _ := h2
      subst h1 h2
      simp [back, notin_tt]
    | non => simp [f183, initE, isTs, tyOk, isTy, cmpB, isD]
    | bl b => cases b <;> simp [f183, initE, isTs, tyOk, isTy, cmpB, isD]
    | int i => simp [f183, initE, isTs, tyOk, isTy, show ∀ i : Int, cmpB .is (.int i) .non = some false from fun _ => rfl, show ∀ (i : Int) b, cmpB .is (.int i) (.bl b) = some false from fun _ _ => rfl, eq_self_int]
    | str i => simp [f183, initE, isTs, tyOk, isTy, show ∀ i, cmpB .is (.str i) .non = some false from fun _ => rfl, show ∀ i b, cmpB .is (.str i) (.bl b) = some false from fun _ _ => rfl, eq_self_str]
    | _ => cases h
end
/-- one statement, then the others -/
theorem seq_ok {C : Cfg} {a b : T} {ρ : Env} {P Q : Fl → Prop} (h : Ok (evS C a ρ) P) (k : ∀ fl, P fl → Ok (match fl with
    | .nx ρ' => evB C b ρ'
    | r => .ok r) Q) : Ok (evB C (.cons a b) ρ) Q := by
  rw [evB_cons, ok_bind]
  exact h.mono k
def sh1 (d : D) : Bool := match d with
  | .str s => decide (s.length ≤ 1000)
  | _ => true
def okI (x : D) : Bool := okD 58 x && sh1 x
def itemB (x : D) : Bool := okD 58 x && smD x && decide (depthD x ≤ 50) && decide (shB x ≤ 3000) && sh1 x
theorem item_str {s : List Nat} (h : s.length ≤ 100) (h2 : ∀ c ∈ s, c < 128) : itemB (.str s) = true := by
  have h1 : smD (.str s) = true := by
    show (s.all fun c => decide (c < 4294967296)) = true
    rw [List.all_eq_true]
    intro c hc
    have := h2 c hc
    rw [decide_eq_true_eq]; omega
  unfold itemB
  rw [h1, show okD 58 (.str s) = true from rfl, show decide (depthD (.str s) ≤ 50) = true from rfl, show sh1 (.str s) = true from decide_eq_true (by omega)]
  rw [show decide (shB (.str s) ≤ 3000) = true from decide_eq_true (by show 10 * s.length + 2 ≤ 3000; omega)]
  rfl
theorem item_int {i : Int} (h : i.natAbs < 2 ^ 60) : itemB (.int i) = true := by
  have h1 : smD (.int i) = true := by
    show decide (i.natAbs.log2 < 1920) = true
    rw [decide_eq_true_eq]
    by_cases h0 : i.natAbs = 0
    · rw [h0]; decide
    · have := (Nat.log2_lt h0).mpr h
      omega
  unfold itemB
  rw [h1]; rfl
theorem depthL_le {n : Nat} : ∀ {l : List D}, (∀ x ∈ l, depthD x ≤ n) → depthL l ≤ n
  | [], _ => Nat.zero_le _
  | x :: l, h => by
    have h1 := h x List.mem_cons_self
    have h2 := depthL_le (l := l) fun y hy => h y (List.mem_cons_of_mem _ hy)
    show max (depthD x) (depthL l) ≤ n
    omega
theorem shL_le {n : Nat} : ∀ {l : List D}, (∀ x ∈ l, shB x ≤ n) → shL l ≤ (n + 2) * l.length
  | [], _ => Nat.zero_le _
  | x :: l, h => by
    have h1 := h x List.mem_cons_self
    have h2 := shL_le (l := l) fun y hy => h y (List.mem_cons_of_mem _ hy)
    rw [List.length_cons, Nat.mul_succ]
    show shB x + 2 + shL l ≤ _
    omega
theorem smL_all : ∀ {l : List D}, (∀ x ∈ l, smD x = true) → smL l = true
  | [], _ => rfl
  | x :: l, h => by
    have h1 := h x List.mem_cons_self
    have h2 := smL_all (l := l) fun y hy => h y (List.mem_cons_of_mem _ hy)
    show (smD x && smL l) = true
    rw [h1, h2]; rfl
theorem item_all {l : List D} (hl : l.length ≤ 1000) (h : ∀ x ∈ l, itemB x = true) : okL 59 l = true ∧ smL l = true ∧ depthL l ≤ 50 ∧ shL l ≤ 3002000 ∧ l.all okI = true := by
  have h' : ∀ x ∈ l, okD 58 x = true ∧ smD x = true ∧ depthD x ≤ 50 ∧ shB x ≤ 3000 ∧ sh1 x = true := by
    intro x hx
    have := h x hx
    unfold itemB at this
    simp only [Bool.and_eq_true, decide_eq_true_eq] at this
    exact ⟨this.1.1.1.1, this.1.1.1.2, this.1.1.2, this.1.2, this.2⟩
  refine ⟨okL_all.mpr fun x hx => okD_mono (h' x hx).1, smL_all fun x hx => (h' x hx).2.1, depthL_le fun x hx => (h' x hx).2.2.1, ?_, List.all_eq_true.mpr fun x hx => ?_⟩
  · have := shL_le fun x hx => (h' x hx).2.2.2.1
    omega
  · unfold okI
    rw [(h' x hx).1, (h' x hx).2.2.2.2]; rfl
theorem rep_lst {l : List D} (hl : l.length ≤ 1000) (h : ∀ x ∈ l, itemB x = true) : repOk (.lst l) = true := by
  obtain ⟨h1, h2, h3, h4, h5⟩ := item_all hl h
  unfold repOk
  rw [show okD 60 (.lst l) = true from h1, show smD (.lst l) = true from h2, show decide (depthD (.lst l) ≤ 60) = true from decide_eq_true (by show depthL l + 1 ≤ 60; omega),
    show decide (shB (.lst l) ≤ lim) = true from decide_eq_true (by show shL l + 2 ≤ 16777216; omega)]
  rfl
theorem rep_tup {l : List D} (hl : l.length ≤ 1000) (h : ∀ x ∈ l, itemB x = true) : repOk (.tup l) = true := by
  obtain ⟨h1, h2, h3, h4, h5⟩ := item_all hl h
  unfold repOk
  rw [show okD 60 (.tup l) = true from h1, show smD (.tup l) = true from h2, show decide (depthD (.tup l) ≤ 60) = true from decide_eq_true (by show depthL l + 1 ≤ 60; omega),
    show decide (shB (.tup l) ≤ lim) = true from decide_eq_true (by show shL l + 3 ≤ 16777216; omega)]
  rfl
theorem rep_item {x : D} (h : itemB x = true) : repOk x = true := by
  unfold itemB at h
  simp only [Bool.and_eq_true, decide_eq_true_eq] at h
  obtain ⟨⟨⟨⟨h1, h3⟩, h4⟩, h5⟩, h6⟩ := h
  have h7 : okD 60 x = true := okD_mono (okD_mono h1)
  unfold repOk
  rw [h7, h3, decide_eq_true (show depthD x ≤ 60 by omega), decide_eq_true (show shB x ≤ lim by unfold lim; omega)]
  rfl
theorem mem_slc {x : D} {l : List D} {a b : Option Int} (h : x ∈ slcL l a b) : x ∈ l := by
  unfold slcL at h
  exact List.mem_of_mem_drop (List.mem_of_mem_take h)
theorem len_slc {l : List D} {a b : Option Int} : (slcL l a b).length ≤ l.length := by
  unfold slcL
  rw [List.length_take, List.length_drop]
  omega
end Pz.Co
end
section
set_option Elab.async false
set_option linter.all false
set_option maxRecDepth 100000
/-! Pieces: four ints in a tuple; what the program's and the laws' own defs of them do. -/
namespace Pz.Pc
open Pz Pz.Co
/-- is_whole -/
def f1 : Fn := { np := 1, io := [], ns := 1, body := (.cons (.ret (.and (.isi (.v 0) [.int]) (.not (.isi (.v 0) [.bool])))) .nil) }
/-- is_count -/
def f2 : Fn := { np := 1, io := [], ns := 1, body := (.cons (.ret (.and (.call 1 (.cons (.v 0) .nil) []) (.cmp .ge (.v 0) (.int 0)))) .nil) }
/-- check_number -/
def f7 : Fn := { np := 1, io := [], ns := 1, body := (.cons (.sif (.not (.call 2 (.cons (.v 0) .nil) [])) (.cons (.rai 9 (.cons (.v 0) .nil)) .nil) .nil) .nil) }
/-- is_shape -/
def f8 : Fn := { np := 1, io := [], ns := 1, body := (.cons (.ret (.call 1 (.cons (.v 0) .nil) [])) .nil) }
/-- fits -/
def f9 : Fn := { np := 2, io := [], ns := 2, body := (.cons (.ret (.and (.cmp .ne (.v 0) (.int 0)) (.cmp .eq (.bin .add (.v 0) (.v 1)) (.int 0)))) .nil) }
/-- is_piece -/
def f10 : Fn := { np := 1, io := [], ns := 2, body := (.cons (.ret (.and (.isi (.v 0) [.tuple]) (.and (.cmp .eq (.bi .len (.cons (.v 0) .nil)) (.int 4)) (.bi .all (.cons (.lc (.call 8 (.cons (.v 1) .nil) []) (.v 1) (.wlk (.v 0)) .nil [1]) .nil))))) .nil) }
/-- check_piece -/
def f193 : Fn := { np := 1, io := [], ns := 1, body := (.cons (.sif (.not (.call 10 (.cons (.v 0) .nil) [])) (.cons (.rai 14 (.cons (.v 0) .nil)) .nil) .nil) .nil) }
/-- turned_by -/
def f11 : Fn := { np := 2, io := [], ns := 3, body := (.cons (.asg (.v 2) (.bin .mod (.bin .sub (.int 4) (.bin .mod (.v 1) (.int 4))) (.int 4))) (.cons (.ret (.bin .add (.slc (.v 0) (.v 2) .non) (.slc (.v 0) .non (.v 2)))) .nil)) }
/-- turnings_in -/
def f12 : Fn := { np := 1, io := [], ns := 3, body := (.cons (.asg (.v 1) (.lst 1 .nil)) (.cons (.for (.v 2) (.rng (.cons (.int 4) .nil)) (.cons (.sif (.cmp .notin (.call 11 (.cons (.v 0) (.cons (.v 2) .nil)) []) (.v 1)) (.cons (.app (.v 1) (.call 11 (.cons (.v 0) (.cons (.v 2) .nil)) [])) .nil) .nil) .nil) [2]) (.cons (.retv 1) .nil))) }
/-- turns_between -/
def f13 : Fn := { np := 2, io := [], ns := 3, body := (.cons (.asg (.v 2) (.call 12 (.cons (.v 0) .nil) [])) (.cons (.ret (.ite (.cmp .isin (.v 1) (.v 2)) (.me .index (.v 2) (.cons (.v 1) .nil)) .non)) .nil)) }
/-- first_turned -/
def f14 : Fn := { np := 1, io := [], ns := 1, body := (.cons (.ret (.bi .min (.cons (.call 12 (.cons (.v 0) .nil) []) .nil))) .nil) }
/-- _law_same -/
def f345 : Fn := { np := 2, io := [], ns := 5, body := (.cons (.sif (.isi (.v 1) [.list, .tuple]) (.cons (.asg (.v 2) (.and (.cmp .eq (.isi (.v 0) [.list]) (.isi (.v 1) [.list])) (.cmp .eq (.isi (.v 0) [.tuple]) (.isi (.v 1) [.tuple])))) (.cons (.ret (.and (.v 2) (.and (.cmp .eq (.bi .len (.cons (.v 0) .nil)) (.bi .len (.cons (.v 1) .nil))) (.bi .all (.cons (.lc (.call 345 (.cons (.v 3) (.cons (.v 4) .nil)) []) (.tup (.cons (.v 3) (.cons (.v 4) .nil))) (.zip (.v 0) (.v 1)) .nil [3, 4]) .nil))))) .nil)) .nil) (.cons (.sif (.or (.isi (.v 0) [.list, .tuple]) (.cmp .ne (.cmp .is (.v 0) .non) (.cmp .is (.v 1) .non))) (.cons (.ret .ff) .nil) .nil) (.cons (.asg (.v 2) (.and (.cmp .eq (.isi (.v 0) [.bool]) (.isi (.v 1) [.bool])) (.cmp .eq (.isi (.v 0) [.int]) (.isi (.v 1) [.int])))) (.cons (.ret (.and (.v 2) (.and (.cmp .eq (.isi (.v 0) [.str]) (.isi (.v 1) [.str])) (.cmp .eq (.v 0) (.v 1))))) .nil)))) }
/-- _law_turned -/
def f347 : Fn := { np := 2, io := [], ns := 3, body := (.cons (.for (.v 2) (.rng (.cons (.bin .mod (.bi .int (.cons (.v 1) .nil)) (.int 4)) .nil)) (.cons (.asg (.v 0) (.tup (.cons (.idx (.v 0) (.int 3)) (.cons (.idx (.v 0) (.int 0)) (.cons (.idx (.v 0) (.int 1)) (.cons (.idx (.v 0) (.int 2)) .nil)))))) .nil) [2]) (.cons (.retv 0) .nil)) }
/-- _law_turnings -/
def f348 : Fn := { np := 1, io := [], ns := 3, body := (.cons (.asg (.v 1) (.lst 1 .nil)) (.cons (.for (.v 2) (.rng (.cons (.int 4) .nil)) (.cons (.sif (.cmp .notin (.call 347 (.cons (.v 0) (.cons (.v 2) .nil)) []) (.v 1)) (.cons (.app (.v 1) (.call 347 (.cons (.v 0) (.cons (.v 2) .nil)) [])) .nil) .nil) .nil) [2]) (.cons (.retv 1) .nil))) }
/-- _law_shape -/
def f349 : Fn := { np := 2, io := [0], ns := 2, body := (.cons (.ret (.bin .mul (.bin .add (.int 1) (.call 162 (.cons (.v 0) (.cons (.v 1) .nil)) [(0, 0)])) (.call 165 (.cons (.v 0) (.cons (.lst 1 (.cons (.int 1) (.cons (.bin .sub (.int 0) (.int 1)) .nil))) .nil)) [(0, 0)]))) .nil) }
/-- _law_piece -/
def f353 : Fn := { np := 2, io := [0], ns := 3, body := (.cons (.ret (.bi .tuple (.cons (.lc (.call 165 (.cons (.v 0) (.cons (.lst 1 (.cons (.int 0) (.cons (.call 349 (.cons (.v 0) (.cons (.v 1) .nil)) [(0, 0)]) (.cons (.call 349 (.cons (.v 0) (.cons (.v 1) .nil)) [(0, 0)]) .nil)))) .nil)) [(0, 0)]) (.v 2) (.rng (.cons (.int 4) .nil)) .nil [2]) .nil))) .nil) }
/-- _law_marked at level 0 -/
def f1240 : Fn := { np := 1, io := [], ns := 3, body := (.cons (.sif (.isi (.v 0) [.dict]) (.cons (.rai 0 .nil) (.cons (.rai 0 .nil) (.cons (.rai 0 .nil) .nil))) .nil) (.cons (.sif (.isi (.v 0) [.list]) (.cons (.rai 0 .nil) (.cons (.rai 0 .nil) (.cons (.rai 0 .nil) (.cons (.rai 0 .nil) .nil)))) .nil) (.cons (.ret (.or (.not (.isi (.v 0) [.tuple])) (.cmp .notin .ff (.lc (.call 1240 (.cons (.v 1) .nil) []) (.v 1) (.wlk (.v 0)) .nil [1])))) .nil))) }
/-- _law_marked at level 1 -/
def f1241 : Fn := { np := 1, io := [0], ns := 3, body := (.cons (.sif (.isi (.v 0) [.dict]) (.cons (.rai 0 .nil) (.cons (.rai 0 .nil) (.cons (.rai 0 .nil) .nil))) .nil) (.cons (.sif (.isi (.v 0) [.list]) (.cons (.sif (.and (.atm (.cmp .ne (.v 0) (.lst 1 .nil))) (.atm (.cmp .eq (.idx (.v 0) (.neg (.int 1))) (.str [109, 97, 114, 107, 101, 100])))) (.cons (.ret .ff) .nil) .nil) (.cons (.asg (.v 2) (.lcw (.call 1240 (.cons (.v 1) .nil) []) 1 0)) (.cons (.app (.v 0) (.str [109, 97, 114, 107, 101, 100])) (.cons (.ret (.cmp .notin .ff (.v 2))) .nil)))) .nil) (.cons (.ret (.or (.not (.isi (.v 0) [.tuple])) (.cmp .notin .ff (.lcw (.call 1240 (.cons (.v 1) .nil) []) 1 0)))) .nil))) }
/-- _law_marked at level 2 -/
def f1242 : Fn := { np := 1, io := [0], ns := 3, body := (.cons (.sif (.isi (.v 0) [.dict]) (.cons (.rai 0 .nil) (.cons (.rai 0 .nil) (.cons (.rai 0 .nil) .nil))) .nil) (.cons (.sif (.isi (.v 0) [.list]) (.cons (.sif (.and (.atm (.cmp .ne (.v 0) (.lst 1 .nil))) (.atm (.cmp .eq (.idx (.v 0) (.neg (.int 1))) (.str [109, 97, 114, 107, 101, 100])))) (.cons (.ret .ff) .nil) .nil) (.cons (.asg (.v 2) (.lcw (.call 1241 (.cons (.v 1) .nil) [(0, 1)]) 1 0)) (.cons (.app (.v 0) (.str [109, 97, 114, 107, 101, 100])) (.cons (.ret (.cmp .notin .ff (.v 2))) .nil)))) .nil) (.cons (.ret (.or (.not (.isi (.v 0) [.tuple])) (.cmp .notin .ff (.lcw (.call 1241 (.cons (.v 1) .nil) [(0, 1)]) 1 0)))) .nil))) }
theorem compR_cons {α : Type} {f : D → Env → α → R (α × Env)} {x : D} {l : List D} {ρ : Env} {a : α} : compR f (x :: l) ρ a = (f x ρ a).bind fun p => compR f l p.2 p.1 := id rfl
theorem compR_nil {α : Type} {f : D → Env → α → R (α × Env)} {ρ : Env} {a : α} : compR f [] ρ a = .ok (a, ρ) := id rfl
theorem forR_nil {f : D → Env → R Fl} {ρ : Env} : forR f [] ρ = .ok (.nx ρ) := id rfl
theorem forR_nx {f : D → Env → R Fl} {x : D} {l : List D} {ρ ρ' : Env} (h : f x ρ = .ok (.nx ρ')) : forR f (x :: l) ρ = forR f l ρ' := by
  show (f x ρ).bind _ = _
  rw [h]; rfl
abbrev q4 (a b c d : Int) : D := .tup [.int a, .int b, .int c, .int d]
def isW : D → Bool
  | .int _ => true
  | _ => false
theorem eq_int (i j : Int) : cmpB .eq (.int i) (.int j) = some (i == j) := by rfl
theorem ne_int (i j : Int) : cmpB .ne (.int i) (.int j) = some (!(i == j)) := by rfl
theorem eq_bl (a b : Bool) : cmpB .eq (.bl a) (.bl b) = some (a == b) := by rfl
theorem ne_bl (a b : Bool) : cmpB .ne (.bl a) (.bl b) = some (!(a == b)) := by rfl
theorem addT {l m : List D} (h : l.length + m.length ≤ 1000) : binD .add (.tup l) (.tup m) = some (.tup (l ++ m)) := if_pos (by unfold lim; omega)
section
variable {P : Prog} {n : Nat}
theorem whole_ok (h1 : P.fn 1 = some f1) {d : D} (hd : tyOk d = true) : run P (n + 1) 1 [d] = .ok (.bl (isW d), []) := by
  refine Ok.eq ?_
  rw [run_succ, h1]
  cases d <;> first | (cases hd; done) | simp [f1, initE, isTs, tyOk, isTy, isW]
theorem shp8_ok (h1 : P.fn 1 = some f1) (h8 : P.fn 8 = some f8) {d : D} (hd : tyOk d = true) : run P (n + 2) 8 [d] = .ok (.bl (isW d), []) := by
  refine Ok.eq ?_
  rw [run_succ, h8]
  simp [f8, initE, whole_ok h1 hd]
theorem count_ok (h1 : P.fn 1 = some f1) (h2 : P.fn 2 = some f2) {i : Int} : run P (n + 2) 2 [.int i] = .ok (.bl (decide (0 ≤ i)), []) := by
  refine Ok.eq ?_
  rw [run_succ, h2]
  simp [f2, initE, whole_ok h1 (d := .int i) rfl, isW]
theorem number_ok (h1 : P.fn 1 = some f1) (h2 : P.fn 2 = some f2) (h7 : P.fn 7 = some f7) {i : Int} (hi : 0 ≤ i) : run P (n + 3) 7 [.int i] = .ok (.non, []) := by
  refine Ok.eq ?_
  rw [run_succ, h7]
  simp [f7, initE, count_ok h1 h2, hi]
/-- a tuple of four -/
theorem piece4 (h1 : P.fn 1 = some f1) (h8 : P.fn 8 = some f8) (h10 : P.fn 10 = some f10) {x y z w : D} (hx : tyOk x = true) (hy : tyOk y = true) (hz : tyOk z = true) (hw : tyOk w = true) :
    run P (n + 3) 10 [.tup [x, y, z, w]] = .ok (.bl (isW x && (isW y && (isW z && isW w))), []) := by
  refine Ok.eq ?_
  rw [run_succ, h10]
  have e1 := shp8_ok h1 h8 (n := n) hx
  have e2 := shp8_ok h1 h8 (n := n) hy
  have e3 := shp8_ok h1 h8 (n := n) hz
  have e4 := shp8_ok h1 h8 (n := n) hw
  have l0 : ∀ k : Nat, k ≤ 3 → k < lim := fun k h => by unfold lim; omega
  simp [f10, initE, isTs, tyOk, isTy, eq_int, compR_cons, compR_nil, e1, e2, e3, e4, push, l0, back]
  have e5 : biD .all [.lst [.bl (isW x), .bl (isW y), .bl (isW z), .bl (isW w)]] = some (.bl (isW x && (isW y && (isW z && (isW w && true))))) := by rfl
  simp [e5]
theorem piece_yes (h1 : P.fn 1 = some f1) (h8 : P.fn 8 = some f8) (h10 : P.fn 10 = some f10) {a b c d : Int} : run P (n + 3) 10 [q4 a b c d] = .ok (.bl true, []) := piece4 h1 h8 h10 rfl rfl rfl rfl
theorem piece_len (h10 : P.fn 10 = some f10) {l : List D} (hl : l.length ≠ 4) : run P (n + 3) 10 [.tup l] = .ok (.bl false, []) := by
  refine Ok.eq ?_
  rw [run_succ, h10]
  have : ((l.length : Int) == 4) = false := by simpa using fun h => hl (by omega)
  simp [f10, initE, isTs, tyOk, isTy, eq_int, this]
theorem piece_no (h10 : P.fn 10 = some f10) {d : D} (hd : tyOk d = true) (ht : isTy d .tuple = false) : run P (n + 3) 10 [d] = .ok (.bl false, []) := by
  refine Ok.eq ?_
  rw [run_succ, h10]
  have : isTs d [.tuple] = some false := by
    show (if tyOk d then (if isTy d .tuple then some true else isTs d []) else none) = _
    rw [hd, ht]; rfl
  simp [f10, initE, this]
theorem check_ok (h1 : P.fn 1 = some f1) (h8 : P.fn 8 = some f8) (h10 : P.fn 10 = some f10) (h193 : P.fn 193 = some f193) {a b c d : Int} : run P (n + 4) 193 [q4 a b c d] = .ok (.non, []) := by
  refine Ok.eq ?_
  rw [run_succ, h193]
  have e := piece_yes h1 h8 h10 (n := n) (a := a) (b := b) (c := c) (d := d)
  simp [f193, initE, e]

/-! ### turned -/
def rot (t a b c d : Int) : D := if t % 4 = 0 then q4 a b c d else if t % 4 = 1 then q4 d a b c else if t % 4 = 2 then q4 c d a b else q4 b c d a
theorem rot_q {t a b c d : Int} : ∃ x y z w, rot t a b c d = q4 x y z w := by
  unfold rot
  split
  · exact ⟨_, _, _, _, rfl⟩
  · split
    · exact ⟨_, _, _, _, rfl⟩
    · split <;> exact ⟨_, _, _, _, rfl⟩
theorem mod4 (t : Int) : t % 4 = 0 ∨ t % 4 = 1 ∨ t % 4 = 2 ∨ t % 4 = 3 := by omega
theorem turned_ok (h11 : P.fn 11 = some f11) {t a b c d : Int} : run P (n + 1) 11 [q4 a b c d, .int t] = .ok (rot t a b c d, []) := by
  refine Ok.eq ?_
  rw [run_succ, h11]
  have e1 := binD_mod (i := t) (j := 4) (by decide)
  have e0 : ∀ i : Int, isNonT (.v 2) = false := fun _ => rfl
  rcases mod4 t with h | h | h | h
  · have e2 : binD .mod (.int (4 - 0)) (.int 4) = some (.int 0) := by rfl
    have s1 : slcV (some 0) none (q4 a b c d) = some (q4 a b c d) := by rfl
    have s2 : slcV none (some 0) (q4 a b c d) = some (.tup []) := by rfl
    rw [h] at e1
    simp at e2
    simp [f11, initE, e1, e2, e0 0, s1, s2, addT, rot, h]
  · have e2 : binD .mod (.int (4 - 1)) (.int 4) = some (.int 3) := by rfl
    have s1 : slcV (some 3) none (q4 a b c d) = some (.tup [.int d]) := by rfl
    have s2 : slcV none (some 3) (q4 a b c d) = some (.tup [.int a, .int b, .int c]) := by rfl
    rw [h] at e1
    simp at e2
    simp [f11, initE, e1, e2, e0 0, s1, s2, addT, rot, h]
  · have e2 : binD .mod (.int (4 - 2)) (.int 4) = some (.int 2) := by rfl
    have s1 : slcV (some 2) none (q4 a b c d) = some (.tup [.int c, .int d]) := by rfl
    have s2 : slcV none (some 2) (q4 a b c d) = some (.tup [.int a, .int b]) := by rfl
    rw [h] at e1
    simp at e2
    simp [f11, initE, e1, e2, e0 0, s1, s2, addT, rot, h]
  · have e2 : binD .mod (.int (4 - 3)) (.int 4) = some (.int 1) := by rfl
    have s1 : slcV (some 1) none (q4 a b c d) = some (.tup [.int b, .int c, .int d]) := by rfl
    have s2 : slcV none (some 1) (q4 a b c d) = some (.tup [.int a]) := by rfl
    rw [h] at e1
    simp at e2
    simp [f11, initE, e1, e2, e0 0, s1, s2, addT, rot, h]
theorem law_turned_ok (h347 : P.fn 347 = some f347) {t a b c d : Int} : run P (n + 1) 347 [q4 a b c d, .int t] = .ok (rot t a b c d, []) := by
  refine Ok.eq ?_
  rw [run_succ, h347]
  have e1 := binD_mod (i := t) (j := 4) (by decide)
  have g0 : ∀ x y z w : D, getD (.tup [x, y, z, w]) (.int 0) = some x := fun _ _ _ _ => rfl
  have g1 : ∀ x y z w : D, getD (.tup [x, y, z, w]) (.int 1) = some y := fun _ _ _ _ => rfl
  have g2 : ∀ x y z w : D, getD (.tup [x, y, z, w]) (.int 2) = some z := fun _ _ _ _ => rfl
  have g3 : ∀ x y z w : D, getD (.tup [x, y, z, w]) (.int 3) = some w := fun _ _ _ _ => rfl
  rcases mod4 t with h | h | h | h
  · have r : rngD [.int 0] = some [] := by rfl
    rw [h] at e1
    simp [f347, initE, e1, r, forR_nil, rot, h]
  · have r : rngD [.int 1] = some [.int 0] := by rfl
    rw [h] at e1
    simp [f347, initE, e1, r, forR_nil, forR, g0, g1, g2, g3, rot, h]
  · have r : rngD [.int 2] = some [.int 0, .int 1] := by rfl
    rw [h] at e1
    simp [f347, initE, e1, r, forR_nil, forR, g0, g1, g2, g3, rot, h]
  · have r : rngD [.int 3] = some [.int 0, .int 1, .int 2] := by rfl
    rw [h] at e1
    simp [f347, initE, e1, r, forR_nil, forR, g0, g1, g2, g3, rot, h]
end

/-! ### turnings -/
/-- fours of ints -/
def AQ (l : List D) : Prop := ∀ x ∈ l, ∃ a b c d, x = q4 a b c d
theorem aq_ok {l : List D} (h : AQ l) {k : Nat} : okL (k + 1) l = true := okL_all.mpr fun x hx => by
  obtain ⟨a, b, c, d, rfl⟩ := h x hx
  cases k <;> rfl
def stp (l : List D) (x : D) : List D := if memD x l then l else l ++ [x]
theorem stp_aq {l : List D} {x : D} (h : AQ l) (hx : ∃ a b c d, x = q4 a b c d) : AQ (stp l x) := by
  unfold stp
  split
  · exact h
  · exact fun y hy => (List.mem_append.mp hy).elim (h y) fun z => by rw [List.mem_singleton.mp z]; exact hx
theorem stp_len (l : List D) (x : D) : (stp l x).length ≤ l.length + 1 := by
  unfold stp
  split
  · omega
  · simp
/-- the unlike turnings -/
def L (a b c d : Int) : List D := stp (stp (stp (stp [] (rot 0 a b c d)) (rot 1 a b c d)) (rot 2 a b c d)) (rot 3 a b c d)
theorem L_aq {a b c d : Int} : AQ (L a b c d) := stp_aq (stp_aq (stp_aq (stp_aq (fun _ h => absurd h (by simp)) rot_q) rot_q) rot_q) rot_q
theorem L_len {a b c d : Int} : (L a b c d).length ≤ 4 := by
  unfold L
  have h1 := stp_len [] (rot 0 a b c d)
  have h2 := stp_len (stp [] (rot 0 a b c d)) (rot 1 a b c d)
  have h3 := stp_len (stp (stp [] (rot 0 a b c d)) (rot 1 a b c d)) (rot 2 a b c d)
  have h4 := stp_len (stp (stp (stp [] (rot 0 a b c d)) (rot 1 a b c d)) (rot 2 a b c d)) (rot 3 a b c d)
  simp only [List.length_nil] at h1
  omega
theorem stp_mem {l : List D} {x y : D} (h : y ∈ l) : y ∈ stp l x := by
  unfold stp
  split
  · exact h
  · exact List.mem_append_left _ h
theorem L_mem {a b c d : Int} : q4 a b c d ∈ L a b c d := by
  refine stp_mem (stp_mem (stp_mem ?_))
  show q4 a b c d ∈ [] ++ [rot 0 a b c d]
  simp [rot]
theorem L_ne {a b c d : Int} : L a b c d ≠ [] := fun h => by have := L_mem (a := a) (b := b) (c := c) (d := d); rw [h] at this; cases this
theorem notin_ok {l : List D} (h : AQ l) {x : D} (hx : ∃ a b c d, x = q4 a b c d) : cmpB .notin x (.lst l) = some (!memD x l) := by
  obtain ⟨a, b, c, d, rfl⟩ := hx
  show (if okD 60 (q4 a b c d) && okL 60 l then some (memD (q4 a b c d) l) else none).map _ = _
  rw [aq_ok h]; rfl
theorem in_ok {l : List D} (h : AQ l) {x : D} (hx : ∃ a b c d, x = q4 a b c d) : cmpB .isin x (.lst l) = some (memD x l) := by
  obtain ⟨a, b, c, d, rfl⟩ := hx
  show (if okD 60 (q4 a b c d) && okL 60 l then some (memD (q4 a b c d) l) else none) = _
  rw [aq_ok h]; rfl
/-- one turn -/
theorem body_ok {C : Cfg} {f : Nat} (hf : ∀ t : Int, C.call f [q4 a b c d, .int t] = .ok (rot t a b c d, [])) {l : List D} (hl : AQ l) (hn : l.length ≤ 1000) {t : Int} {o : Option D} :
    (evG C (.v 2) (.int t) [some (q4 a b c d), some (.lst l), o]).bind (fun ρ' => (evB C (.cons (.sif (.cmp .notin (.call f (.cons (.v 0) (.cons (.v 2) .nil)) []) (.v 1)) (.cons (.app (.v 1) (.call f (.cons (.v 0) (.cons (.v 2) .nil)) [])) .nil) .nil) .nil) ρ').map (maskFl [2])) =
      .ok (.nx [some (q4 a b c d), some (.lst (stp l (rot t a b c d))), none]) := by
  refine Ok.eq ?_
  have e1 := notin_ok hl (rot_q (t := t) (a := a) (b := b) (c := c) (d := d))
  simp [hf, e1]
  cases hm : memD (rot t a b c d) l with
  | true => simp [stp, hm]
  | false =>
    have e2 : lstD (.lst l) = some (.lst l) := rfl
    have e3 : appD (rot t a b c d) (.lst l) = some (.lst (l ++ [rot t a b c d])) := if_pos (by unfold lim; omega)
    simp [stp, hm, hf, updAt, e2, e3]
section
variable {P : Prog} {n : Nat} {a b c d : Int}
theorem r4 : rngD [.int 4] = some [.int 0, .int 1, .int 2, .int 3] := by rfl
theorem loop_ok {C : Cfg} {f : Nat} (hf : ∀ t : Int, C.call f [q4 a b c d, .int t] = .ok (rot t a b c d, [])) :
    forR (fun x ρ => (evG C (.v 2) x ρ).bind fun ρ' => (evB C (.cons (.sif (.cmp .notin (.call f (.cons (.v 0) (.cons (.v 2) .nil)) []) (.v 1)) (.cons (.app (.v 1) (.call f (.cons (.v 0) (.cons (.v 2) .nil)) [])) .nil) .nil) .nil) ρ').map (maskFl [2])) [.int 0, .int 1, .int 2, .int 3] [some (q4 a b c d), some (.lst []), none] =
      .ok (.nx [some (q4 a b c d), some (.lst (L a b c d)), none]) := by
  have a0 : AQ [] := fun _ h => absurd h (by simp)
  have a1 := stp_aq a0 (rot_q (t := 0) (a := a) (b := b) (c := c) (d := d))
  have a2 := stp_aq a1 (rot_q (t := 1) (a := a) (b := b) (c := c) (d := d))
  have a3 := stp_aq a2 (rot_q (t := 2) (a := a) (b := b) (c := c) (d := d))
  have h1 := stp_len [] (rot 0 a b c d)
  have h2 := stp_len (stp [] (rot 0 a b c d)) (rot 1 a b c d)
  have h3 := stp_len (stp (stp [] (rot 0 a b c d)) (rot 1 a b c d)) (rot 2 a b c d)
  simp only [List.length_nil] at h1
  rw [forR_nx (body_ok hf a0 (by simp)), forR_nx (body_ok hf a1 (by omega)), forR_nx (body_ok hf a2 (by omega)), forR_nx (body_ok hf a3 (by omega))]
  rfl
theorem turnings_ok (h11 : P.fn 11 = some f11) (h12 : P.fn 12 = some f12) : run P (n + 2) 12 [q4 a b c d] = .ok (.lst (L a b c d), []) := by
  refine Ok.eq ?_
  rw [run_succ, h12]
  have e := loop_ok (C := { call := run P (n + 1), glob := P.glob, fuel := FUEL }) (f := 11) (a := a) (b := b) (c := c) (d := d) fun t => turned_ok h11
  have hfor : evS { call := run P (n + 1), glob := P.glob, fuel := FUEL } (.for (.v 2) (.rng (.cons (.int 4) .nil)) (.cons (.sif (.cmp .notin (.call 11 (.cons (.v 0) (.cons (.v 2) .nil)) []) (.v 1)) (.cons (.app (.v 1) (.call 11 (.cons (.v 0) (.cons (.v 2) .nil)) [])) .nil) .nil) .nil) [2]) [some (q4 a b c d), some (.lst []), none] = .ok (.nx [some (q4 a b c d), some (.lst (L a b c d)), none]) := by
    simp only [evS_for, evI_rng, evA_cons, evA_nil, evE_int, bind_okk, r4, optR_some]
    exact e
  simp [f12, initE, hfor, -evS_for]
theorem law_turnings_ok (h347 : P.fn 347 = some f347) (h348 : P.fn 348 = some f348) : run P (n + 2) 348 [q4 a b c d] = .ok (.lst (L a b c d), []) := by
  refine Ok.eq ?_
  rw [run_succ, h348]
  have e := loop_ok (C := { call := run P (n + 1), glob := P.glob, fuel := FUEL }) (f := 347) (a := a) (b := b) (c := c) (d := d) fun t => law_turned_ok h347
  have hfor : evS { call := run P (n + 1), glob := P.glob, fuel := FUEL } (.for (.v 2) (.rng (.cons (.int 4) .nil)) (.cons (.sif (.cmp .notin (.call 347 (.cons (.v 0) (.cons (.v 2) .nil)) []) (.v 1)) (.cons (.app (.v 1) (.call 347 (.cons (.v 0) (.cons (.v 2) .nil)) [])) .nil) .nil) .nil) [2]) [some (q4 a b c d), some (.lst []), none] = .ok (.nx [some (q4 a b c d), some (.lst (L a b c d)), none]) := by
    simp only [evS_for, evI_rng, evA_cons, evA_nil, evE_int, bind_okk, r4, optR_some]
    exact e
  simp [f348, initE, hfor, -evS_for]

/-! ### the least one, places -/
theorem alk_q {a b c d a' b' c' d' : Int} : alk (q4 a b c d) (q4 a' b' c' d') = true := by rfl
theorem min_ok {l : List D} (h : AQ l) (hn : l ≠ []) : ∃ m, biD .min [.lst l] = some m ∧ m ∈ l := by
  cases l with
  | nil => exact absurd rfl hn
  | cons x l =>
    refine ⟨l.foldl (fun a y => if ltT y a then y else a) x, ?_, ?_⟩
    · show (if allAlk (x :: l) && okL 60 (x :: l) then _ else _) = _
      rw [if_pos]
      rw [aq_ok h, Bool.and_true]
      unfold allAlk
      rw [List.all_eq_true]
      intro y hy
      obtain ⟨a, b, c, d, rfl⟩ := h y hy
      rw [Bool.and_eq_true, List.all_eq_true]
      refine ⟨rfl, fun z hz => ?_⟩
      obtain ⟨a', b', c', d', rfl⟩ := h z hz
      rfl
    · have : ∀ (l : List D) (x : D), l.foldl (fun a y => if ltT y a then y else a) x ∈ x :: l := by
        intro l
        induction l with
        | nil => exact fun x => List.mem_cons_self
        | cons y l ih =>
          intro x
          rw [List.foldl_cons]
          have := ih (if ltT y x then y else x)
          rcases List.mem_cons.mp this with h | h
          · rw [h]
            split
            · exact List.mem_cons_of_mem _ List.mem_cons_self
            · exact List.mem_cons_self
          · exact List.mem_cons_of_mem _ (List.mem_cons_of_mem _ h)
      exact this l x
theorem first_ok (h11 : P.fn 11 = some f11) (h12 : P.fn 12 = some f12) (h14 : P.fn 14 = some f14) {m : D} (hm : biD .min [.lst (L a b c d)] = some m) : run P (n + 3) 14 [q4 a b c d] = .ok (m, []) := by
  refine Ok.eq ?_
  rw [run_succ, h14]
  have e := turnings_ok h11 h12 (n := n) (a := a) (b := b) (c := c) (d := d)
  simp [f14, initE, e, hm]
theorem firstIx_some {x : D} : ∀ {l : List D} {k : Nat}, memD x l = true → ∃ i, firstIx x l k = some i
  | [], _, h => by cases h
  | y :: l, k, h => by
    unfold firstIx
    split
    · exact ⟨k, rfl⟩
    · rename_i hy
      refine firstIx_some (l := l) ?_
      have h : (eqD y x || memD x l) = true := h
      rw [Bool.or_eq_true] at h
      exact h.resolve_left hy
/-- the place of x, or None -/
def tix (x : D) (l : List D) : D := if memD x l then (match firstIx x l 0 with | some i => .int i | none => .non) else .non
theorem index_ok {l : List D} (h : AQ l) {x : D} (hx : ∃ a b c d, x = q4 a b c d) (hm : memD x l = true) : meD .index (.lst l) [x] = some (tix x l) := by
  obtain ⟨i, hi⟩ := firstIx_some (k := 0) hm
  obtain ⟨a, b, c, d, rfl⟩ := hx
  show (if okD 60 (q4 a b c d) && okL 60 l then ((firstIx (q4 a b c d) l 0).map fun n : Nat => D.int n) else none) = _
  rw [aq_ok h, hi]
  unfold tix
  rw [hm, hi]; rfl
theorem between_ok (h11 : P.fn 11 = some f11) (h12 : P.fn 12 = some f12) (h13 : P.fn 13 = some f13) {x : D} (hx : ∃ a b c d, x = q4 a b c d) : run P (n + 3) 13 [q4 a b c d, x] = .ok (tix x (L a b c d), []) := by
  refine Ok.eq ?_
  rw [run_succ, h13]
  have e := turnings_ok h11 h12 (n := n) (a := a) (b := b) (c := c) (d := d)
  have e2 := in_ok L_aq hx (l := L a b c d)
  simp [f13, initE, e, e2]
  cases hm : memD x (L a b c d) with
  | true => simp [index_ok L_aq hx hm]
  | false => simp [tix, hm]
end

/-! ### the laws' comparison -/
/-- plain data of small lists, at most so deep -/
def sw : Nat → D → Prop
  | _, .non | _, .bl _ | _, .int _ | _, .str _ => True
  | k + 1, .lst l => l.length ≤ 1000 ∧ ∀ x ∈ l, sw k x
  | k + 1, .tup l => l.length ≤ 1000 ∧ ∀ x ∈ l, sw k x
  | _, _ => False
theorem allB_tt : ∀ l : List D, allB (l.map fun _ => D.bl true) = some true
  | [] => rfl
  | x :: l => by
    rw [List.map_cons]
    show (allB _).map _ = _
    rw [allB_tt l]; rfl
theorem same_refl {P : Prog} (h : P.fn 345 = some f345) : ∀ (k n : Nat) (d : D), sw k d → run P (n + k + 1) 345 [d, d] = .ok (.bl true, []) := by
  have at0 : ∀ (n : Nat) (d : D), isAtom d = true → (∀ f, d ≠ .fn f) → run P (n + 1) 345 [d, d] = .ok (.bl true, []) := by
    intro n d h1 h2
    refine Ok.eq ?_
    rw [run_succ, h]
    cases d <;> first | (cases h1; done) | skip
    · simp [f345, initE, isTs, tyOk, isTy, eq_bl, ne_bl, cmpB, isD, eqO, okD, eqD]
    · rename_i b
      simp [f345, initE, isTs, tyOk, isTy, eq_bl, ne_bl, show cmpB .is (.bl b) .non = some false from rfl, show cmpB .eq (.bl b) (.bl b) = some true from by rw [eq_bl]; simp]
    · rename_i i
      simp [f345, initE, isTs, tyOk, isTy, eq_bl, ne_bl, show cmpB .is (.int i) .non = some false from rfl, show cmpB .eq (.int i) (.int i) = some true from by rw [eq_int]; simp]
    · rename_i s
      simp [f345, initE, isTs, tyOk, isTy, eq_bl, ne_bl, show cmpB .is (.str s) .non = some false from rfl, eq_self_str]
    · exact absurd rfl (h2 _)
  intro k
  induction k with
  | zero =>
    intro n d hd
    cases d <;> first | exact hd.elim | exact at0 n _ rfl (fun f => by simp)
  | succ k ih =>
    intro n d hd
    have rec_ : ∀ l : List D, l.length ≤ 1000 → (∀ x ∈ l, sw k x) → ∀ (ρ0 ρ1 : D) (o : Option D), Ok (compR (fun x ρ acc => (evG { call := run P (n + k + 1), glob := P.glob, fuel := FUEL } (.tup (.cons (.v 3) (.cons (.v 4) .nil))) x (unset ρ [3, 4])).bind fun ρ1 => (evC { call := run P (n + k + 1), glob := P.glob, fuel := FUEL } .nil ρ1).bind fun t => if t.1 then (evE { call := run P (n + k + 1), glob := P.glob, fuel := FUEL } (.call 345 (.cons (.v 3) (.cons (.v 4) .nil)) []) t.2).bind (push acc) else .ok (acc, t.2)) (zipD l l) [some ρ0, some ρ1, o, none, none] []) fun r => r.1 = (zipD l l).map (fun _ => D.bl true) ∧ ∃ o3 o4, r.2 = [some ρ0, some ρ1, o, o3, o4] := by
      intro l hl hz ρ0 ρ1 o
      refine (compR_filter (fun _ => some (D.bl true)) (fun ρ => ∃ o3 o4, ρ = [some ρ0, some ρ1, o, o3, o4]) _ _ _ ⟨_, _, rfl⟩ ?_ (by rw [zipD_len]; simp [lim]; omega)).mono ?_
      · rintro y hy ρ acc ⟨o2, o3, rfl⟩ ha
        obtain ⟨x, hx, rfl⟩ := zipD_self hy
        have e := ih n x (hz x hx)
        simp [itemsT, lenT, e, push, ha]
      · rintro ⟨a, ρ⟩ ⟨h1, h2⟩
        replace h1 : a = [] ++ _ := h1
        rw [List.nil_append, all_tt] at h1
        exact ⟨h1, h2⟩
    have seq : ∀ (d : D) (l : List D), (d = .lst l ∨ d = .tup l) → l.length ≤ 1000 → (∀ x ∈ l, sw k x) → run P (n + k + 1 + 1) 345 [d, d] = .ok (.bl true, []) := by
      intro d l hd hl hz
      refine Ok.eq ?_
      rw [run_succ, h]
      have r := rec_ l hl hz d d (some (.bl true))
      simp only [evG_tup, unset_cons, unset_nil, evC_nil, bind_okk, if_true, evE_call, evA_cons, evA_nil, evE_v] at r
      have eb : biD .all [.lst ((zipD l l).map fun _ => D.bl true)] = some (.bl true) := by
        show (allB _).map _ = _
        rw [allB_tt]; rfl
      rcases hd with rfl | rfl
      · have z : zipO (.lst l) (.lst l) = some (zipD l l) := rfl
        simp only [optR_some, bind_okk]
        simp [f345, initE, isTs, tyOk, isTy, eq_bl, eq_self_int, z]
        refine Ok.mono (by simpa using r) ?_
        rintro ⟨a, ρ⟩ ⟨h1, o2, o3, h2⟩
        replace h1 : a = _ := h1
        replace h2 : ρ = _ := h2
        subst h1 h2
        simp [back, eb]
      · have z : zipO (.tup l) (.tup l) = some (zipD l l) := rfl
        simp only [optR_some, bind_okk]
        simp [f345, initE, isTs, tyOk, isTy, eq_bl, eq_self_int, z]
        refine Ok.mono (by simpa using r) ?_
        rintro ⟨a, ρ⟩ ⟨h1, o2, o3, h2⟩
        replace h1 : a = _ := h1
        replace h2 : ρ = _ := h2
        subst h1 h2
        simp [back, eb]
    rw [show n + (k + 1) + 1 = n + k + 1 + 1 from rfl]
    cases d with
    | lst l => exact seq _ l (.inl rfl) hd.1 hd.2
    | tup l => exact seq _ l (.inr rfl) hd.1 hd.2
    | non => exact at0 _ _ rfl (fun f => by simp)
    | bl b => exact at0 _ _ rfl (fun f => by simp)
    | int i => exact at0 _ _ rfl (fun f => by simp)
    | str s => exact at0 _ _ rfl (fun f => by simp)
    | _ => exact hd.elim
theorem sw_q {a b c d : Int} {k : Nat} : sw (k + 1) (q4 a b c d) := ⟨by simp, fun x hx => by
  simp only [List.mem_cons, List.not_mem_nil, or_false] at hx
  rcases hx with rfl | rfl | rfl | rfl <;> cases k <;> trivial⟩
theorem sw_aq {l : List D} (h : AQ l) (hl : l.length ≤ 1000) {k : Nat} : sw (k + 2) (.lst l) := ⟨hl, fun x hx => by
  obtain ⟨a, b, c, d, rfl⟩ := h x hx
  exact sw_q⟩
theorem sw_two {k : Nat} {x y : D} (hx : sw k x) (hy : sw k y) : sw (k + 1) (.lst [x, y]) := ⟨by simp, fun z hz => by
  simp only [List.mem_cons, List.not_mem_nil, or_false] at hz
  rcases hz with rfl | rfl
  · exact hx
  · exact hy⟩

/-! ### marked -/
abbrev mk : D := .str [109, 97, 114, 107, 101, 100]
theorem lcwR_map {f : Env → R (D × Env)} {j i : Nat} {ρ : Env} (r g : D → D) : ∀ (l its acc : List D), (∀ x ∈ l, ∃ ρ', f (st ρ j x) = .ok (r x, ρ') ∧ gt ρ' j = some (g x) ∧ (ρ'.set i none).set j none = ρ) → acc.length + l.length ≤ lim → lcwR f j i l ρ its acc = .ok (its ++ l.map g, acc ++ l.map r, ρ)
  | [], its, acc, _, _ => by simp [lcwR]
  | x :: l, its, acc, h, hz => by
    obtain ⟨ρ', e1, e2, e3⟩ := h x List.mem_cons_self
    rw [List.length_cons] at hz
    show (f (st ρ j x)).bind _ = _
    rw [e1, bind_okk, e2, optR_some, bind_okk]
    dsimp only
    rw [if_pos (by omega), e3, lcwR_map r g l _ _ (fun y hy => h y (List.mem_cons_of_mem _ hy)) (by simp; omega)]
    simp
section
variable {P : Prog} {n : Nat}
theorem m0_int (h0 : P.fn 1240 = some f1240) {i : Int} : run P (n + 1) 1240 [.int i] = .ok (.bl true, []) := by
  refine Ok.eq ?_
  rw [run_succ, h0]
  simp [f1240, initE, isTs, tyOk, isTy]
theorem m0_q (h0 : P.fn 1240 = some f1240) {a b c d : Int} : run P (n + 2) 1240 [q4 a b c d] = .ok (.bl true, []) := by
  refine Ok.eq ?_
  rw [run_succ, h0]
  have e := fun i : Int => m0_int h0 (n := n) (i := i)
  have l0 : ∀ k : Nat, k ≤ 3 → k < lim := fun k h => by unfold lim; omega
  have e5 : cmpB .notin (.bl false) (.lst [.bl true, .bl true, .bl true, .bl true]) = some true := by rfl
  simp [f1240, initE, isTs, tyOk, isTy, compR_cons, compR_nil, e, push, l0, back, e5]
theorem lst_last {l : List D} (h : l ≠ []) : getD (.lst l) (.int (-1)) = some (l.getLast h) := by
  show ((ixI l.length (-1)).bind fun n => l[n]?) = _
  have hl := List.length_pos_iff.mpr h
  have : ixI l.length (-1) = some (l.length - 1) := by
    unfold ixI
    rw [if_neg (by omega), if_pos (by omega)]
    congr 1
    omega
  rw [this]
  show l[l.length - 1]? = _
  rw [List.getLast_eq_getElem, List.getElem?_eq_getElem (by omega)]
theorem app_mk {l : List D} (h : l.length ≤ 1000) : appD mk (.lst l) = some (.lst (l ++ [mk])) := if_pos (by unfold lim; omega)
theorem neg1 : negD (.int 1) = some (.int (-1)) := rfl
theorem atm_bl (b : Bool) : atomD (.bl b) = some (.bl b) := rfl
/-- a list of fours -/
theorem m1_ok (h0 : P.fn 1240 = some f1240) (h1 : P.fn 1241 = some f1241) {l : List D} (h : AQ l) (hn : l ≠ []) (hl : l.length ≤ 1000) : run P (n + 3) 1241 [.lst l] = .ok (.bl true, [.lst (l ++ [mk])]) := by
  refine Ok.eq ?_
  rw [run_succ, h1]
  have e1 : cmpB .ne (.lst l) (.lst []) = some true := by
    rw [ne_nil fun x hx => okL_all.mp (aq_ok h (k := 58)) x hx]
    cases l with
    | nil => exact absurd rfl hn
    | cons _ _ => rfl
  have e2 : cmpB .eq (l.getLast hn) mk = some false := by
    obtain ⟨a, b, c, d, e⟩ := h _ (List.getLast_mem hn)
    rw [e]; rfl
  have e3 := lcwR_map (f := evE { call := run P (n + 2), glob := P.glob, fuel := FUEL } (.call 1240 (.cons (.v 1) .nil) [])) (j := 1) (i := 0) (ρ := [none, none, none]) (fun _ => .bl true) id l [] [] (fun x hx => by
    obtain ⟨a, b, c, d, rfl⟩ := h x hx
    exact ⟨_, by simp [m0_q h0 (n := n)]; rfl, rfl, rfl⟩) (by simp [lim]; omega)
  have e4 := notin_tt l
  have e6 := app_mk hl
  have e5 : lstD (.lst l) = some (.lst l) := rfl
  simp only [List.nil_append, List.map_id] at e3
  simp only [optR_some, bind_okk, runFn_eq, f1241, initE]
  simp [isTs, tyOk, isTy, atm_bl, e1, lst_last hn, e2, neg1, e3, e4, updAt, e5, e6, -evE_call]
/-- a list of lists of fours -/
theorem m2_ok (h0 : P.fn 1240 = some f1240) (h1 : P.fn 1241 = some f1241) (h2 : P.fn 1242 = some f1242) {ls : List (List D)} (h : ∀ l ∈ ls, AQ l ∧ l ≠ [] ∧ l.length ≤ 1000) (hn : ls ≠ []) (hl : ls.length ≤ 1000) :
    run P (n + 4) 1242 [.lst (ls.map D.lst)] = .ok (.bl true, [.lst (ls.map (fun l => D.lst (l ++ [mk])) ++ [mk])]) := by
  refine Ok.eq ?_
  rw [run_succ, h2]
  have hok : ∀ x ∈ ls.map D.lst, okD 59 x = true := fun x hx => by
    obtain ⟨l, hl, rfl⟩ := List.mem_map.mp hx
    exact aq_ok (h l hl).1 (k := 57)
  have hn' : ls.map D.lst ≠ [] := by simpa using hn
  have e1 : cmpB .ne (.lst (ls.map D.lst)) (.lst []) = some true := by
    rw [ne_nil hok]
    cases ls with
    | nil => exact absurd rfl hn
    | cons _ _ => rfl
  have e2 : cmpB .eq ((ls.map D.lst).getLast hn') mk = some false := by
    obtain ⟨l, hl, e⟩ := List.mem_map.mp (List.getLast_mem hn')
    have k : okD 60 (.lst l) = true := aq_ok (h l hl).1 (k := 58)
    rw [← e]
    show (if okD 60 (.lst l) && okD 60 mk then some (eqD (.lst l) mk) else none) = _
    rw [k]; rfl
  have e3 := lcwR_map (f := evE { call := run P (n + 3), glob := P.glob, fuel := FUEL } (.call 1241 (.cons (.v 1) .nil) [(0, 1)])) (j := 1) (i := 0) (ρ := [none, none, none]) (fun _ => .bl true) (fun d => match d with | .lst l => .lst (l ++ [mk]) | d => d) (ls.map D.lst) [] [] (fun x hx => by
    obtain ⟨l, hl, rfl⟩ := List.mem_map.mp hx
    obtain ⟨k1, k2, k3⟩ := h l hl
    exact ⟨_, by simp [m1_ok h0 h1 (n := n) k1 k2 k3]; rfl, rfl, rfl⟩) (by simp [lim]; omega)
  have e4 := notin_tt (ls.map D.lst)
  rw [List.map_map] at e4
  have e6 := app_mk (l := (ls.map fun l => D.lst (l ++ [mk]))) (by simpa using hl)
  have e5 : ∀ l, lstD (.lst l) = some (.lst l) := fun _ => rfl
  have e7 : (ls.map D.lst).map (fun d => match d with | .lst l => D.lst (l ++ [mk]) | d => d) = ls.map fun l => D.lst (l ++ [mk]) := by rw [List.map_map]; rfl
  rw [e7] at e3
  simp only [List.nil_append] at e3
  simp only [optR_some, bind_okk, runFn_eq, f1242, initE]
  simp only [isTs, tyOk, isTy, evB_cons, evS_sif, evE_isi, evE_v, evE_and, evE_atm, evE_cmp, evE_idx, evE_neg, evE_int, evE_str, evE_lst, evA_nil, evS_asg, evE_lcw, evG_v, evS_app, evP_v, evS_ret, List.map_cons, List.map_nil, List.length_cons, List.length_nil, Nat.reduceSub, Nat.reduceAdd, List.replicate_succ, List.replicate_zero, List.cons_append, List.nil_append, gt_0, gt_s, optR_some, bind_okk, atm_bl, truO_bl, if_true, if_false, Bool.false_eq_true, Option.bind_some, ownI_lst, List.set_cons_zero, List.set_cons_succ, e1, lst_last hn', e2, neg1, e3, mkO_ff, backO_eq, st_0, st_s, evB_nil]
  simp [e3, e4, updAt, e5, e6, e2, e1, -evE_call]
end
end Pz.Pc
end
section
set_option Elab.async false
set_option linter.all false
set_option maxRecDepth 100000
set_option maxHeartbeats 400000
/-! k15: the program's functions of pieces; what the law draws. -/
namespace Pz.K15
open Pz Pz.Co Pz.Pc
theorem p1 : prog.fn 1 = some f1 := rfl
theorem p2 : prog.fn 2 = some f2 := rfl
theorem p7 : prog.fn 7 = some f7 := rfl
theorem p8 : prog.fn 8 = some f8 := rfl
theorem p9 : prog.fn 9 = some fn_9 := rfl
theorem p10 : prog.fn 10 = some f10 := rfl
theorem p11 : prog.fn 11 = some f11 := rfl
theorem p12 : prog.fn 12 = some f12 := rfl
theorem p13 : prog.fn 13 = some f13 := rfl
theorem p14 : prog.fn 14 = some f14 := rfl
theorem p161 : prog.fn 161 = some f161 := rfl
theorem p162 : prog.fn 162 = some f162 := rfl
theorem p163 : prog.fn 163 = some f163 := rfl
theorem p164 : prog.fn 164 = some f164 := rfl
theorem p165 : prog.fn 165 = some f165 := rfl
theorem p193 : prog.fn 193 = some f193 := rfl
theorem p252 : prog.fn 252 = some fn_252 := rfl
theorem p345 : prog.fn 345 = some f345 := rfl
theorem p347 : prog.fn 347 = some f347 := rfl
theorem p348 : prog.fn 348 = some f348 := rfl
theorem p349 : prog.fn 349 = some fn_349 := rfl
theorem p353 : prog.fn 353 = some fn_353 := rfl
theorem p552 : prog.fn 552 = some fn_552 := rfl
theorem p553 : prog.fn 553 = some fn_553 := rfl
theorem p554 : prog.fn 554 = some fn_554 := rfl
theorem p555 : prog.fn 555 = some fn_555 := rfl
theorem p556 : prog.fn 556 = some fn_556 := rfl
theorem p557 : prog.fn 557 = some fn_557 := rfl
theorem p558 : prog.fn 558 = some fn_558 := rfl
theorem p559 : prog.fn 559 = some fn_559 := rfl
theorem p1240 : prog.fn 1240 = some f1240 := rfl
theorem p1241 : prog.fn 1241 = some f1241 := rfl
theorem p1242 : prog.fn 1242 = some f1242 := rfl
section
variable {n : Nat} {a b c d : Int}
theorem chk_ok : run prog (n + 4) 193 [q4 a b c d] = .ok (.non, []) := check_ok p1 p8 p10 p193
theorem tgs_ok : run prog (n + 4) 12 [q4 a b c d] = .ok (.lst (L a b c d), []) := turnings_ok (n := n + 2) p11 p12
theorem turnings_ : run prog (n + 5) 555 [q4 a b c d] = .ok (.lst (L a b c d), []) := by
  refine Ok.eq ?_
  rw [run_succ, p555]
  simp [fn_555, initE, chk_ok, tgs_ok]
theorem least_ {m : D} (hm : biD .min [.lst (L a b c d)] = some m) : run prog (n + 5) 557 [q4 a b c d] = .ok (m, []) := by
  refine Ok.eq ?_
  rw [run_succ, p557]
  have e : run prog (n + 4) 14 [q4 a b c d] = .ok (m, []) := first_ok (n := n + 1) p11 p12 p14 hm
  simp [fn_557, initE, chk_ok, e]
theorem turned_ {t : Int} (ht : 0 ≤ t) : run prog (n + 5) 554 [q4 a b c d, .int t] = .ok (rot t a b c d, []) := by
  refine Ok.eq ?_
  rw [run_succ, p554]
  have e : run prog (n + 4) 11 [q4 a b c d, .int t] = .ok (rot t a b c d, []) := turned_ok (n := n + 3) p11
  have e2 : run prog (n + 4) 7 [.int t] = .ok (.non, []) := number_ok (n := n + 1) p1 p2 p7 ht
  simp [fn_554, initE, chk_ok, e, e2]
theorem turns_to_ {x : D} (hx : ∃ a b c d, x = q4 a b c d) : run prog (n + 5) 556 [q4 a b c d, x] = .ok (tix x (L a b c d), []) := by
  refine Ok.eq ?_
  rw [run_succ, p556]
  have e : run prog (n + 4) 13 [q4 a b c d, x] = .ok (tix x (L a b c d), []) := between_ok (n := n + 1) p11 p12 p13 hx
  have e2 : run prog (n + 4) 193 [x] = .ok (.non, []) := by
    obtain ⟨a', b', c', d', rfl⟩ := hx
    exact chk_ok
  simp [fn_556, initE, chk_ok, e, e2]
theorem shp_ok {i : Int} : run prog (n + 3) 552 [.int i] = .ok (.non, []) := by
  refine Ok.eq ?_
  rw [run_succ, p552]
  have e : run prog (n + 2) 8 [.int i] = .ok (.bl true, []) := shp8_ok (n := n) p1 p8 (d := .int i) rfl
  simp [fn_552, initE, e]
theorem fits_ {i j : Int} : run prog (n + 4) 553 [.int i, .int j] = .ok (.bl (!(i == 0) && (i + j == 0)), []) := by
  refine Ok.eq ?_
  rw [run_succ, p553]
  have e : run prog (n + 3) 9 [.int i, .int j] = .ok (.bl (!(i == 0) && (i + j == 0)), []) := by
    refine Ok.eq ?_
    rw [run_succ, p9]
    simp [fn_9, initE, ne_int, eq_int]
    by_cases h : i = 0 <;> simp [h]
  simp [fn_553, initE, shp_ok, e]
theorem whole_ {x : D} (hd : tyOk x = true) : run prog (n + 1) 252 [x] = .ok (.bl (isW x), []) := by
  refine Ok.eq ?_
  rw [run_succ, p252]
  cases x <;> first | (cases hd; done) | simp [fn_252, initE, isTs, tyOk, isTy, isW]
theorem same_ {k : Nat} {x : D} (h : sw 6 x) : run prog (n + 7) 345 [x, x] = .ok (.bl true, []) := same_refl p345 6 n x h
theorem rnd {K b : Int} {g : D} (hK : 0 ≤ K) (hg : Gn (K + 2) g) (hb : 0 < b) (hb2 : b < 2 ^ 59) : ∃ (d : Int) (g' : D), run prog (n + 2) 162 [g, .int b] = .ok (.int d, [g']) ∧ 0 ≤ d ∧ d < b ∧ Gn K g' := random_ok p161 p162 hK hg hb hb2
theorem pick {K : Int} {g : D} {l : List D} (hK : 0 ≤ K) (hg : Gn (K + 2) g) (hl : l ≠ []) (hl2 : l.length < 1000000) : ∃ (x g' : D), run prog (n + 3) 165 [g, .lst l] = .ok (x, [g']) ∧ x ∈ l ∧ Gn K g' := pick_ok p161 p162 p165 hK hg hl hl2
/-- a shape drawn -/
theorem shape_ {K k : Int} {g : D} (hK : 0 ≤ K) (hg : Gn (K + 4) g) (hk : 0 < k) (hk2 : k < 2 ^ 59) : ∃ (v : Int) (g' : D), run prog (n + 4) 349 [g, .int k] = .ok (.int v, [g']) ∧ Gn K g' := by
  obtain ⟨x, g1, e1, x0, x1, h1⟩ := rnd (n := n + 1) (K := K + 2) (by omega) (by rw [show K + 2 + 2 = K + 4 by omega]; exact hg) hk hk2
  obtain ⟨y, g2, e2, hy, h2⟩ := pick (n := n) (l := [.int 1, .int (-1)]) hK h1 (by simp) (by simp)
  simp only [List.mem_cons, List.not_mem_nil, or_false] at hy
  have e3 : binD .sub (.int 0) (.int 1) = some (.int (-1)) := by rfl
  have key : ∀ j : Int, j.natAbs < 2 ^ 64 → run prog (n + 3) 165 [g1, .lst [.int 1, .int (-1)]] = .ok (.int j, [g2]) → run prog (n + 4) 349 [g, .int k] = .ok (.int ((1 + x) * j), [g2]) := by
    intro j hj e2
    refine Ok.eq ?_
    rw [run_succ, p349]
    have e4 := binD_mul (i := 1 + x) (j := j) (.inr hj)
    simp only [optR_some, bind_okk, runFn_eq, fn_349, initE]
    simp [e1, e3, e2, e4, -binD_sub]
  rcases hy with rfl | rfl
  · exact ⟨_, g2, key 1 (by decide) e2, h2⟩
  · exact ⟨_, g2, key (-1) (by decide) e2, h2⟩
/-- one side -/
theorem side_ {K k : Int} {g : D} {o : Option D} {x : D} (hK : 0 ≤ K) (hg : Gn (K + 10) g) (hk : 0 < k) (hk2 : k < 2 ^ 59) : ∃ (v : Int) (g' : D), evE { call := run prog (n + 4), glob := prog.glob, fuel := FUEL } (.call 165 (.cons (.v 0) (.cons (.lst 1 (.cons (.int 0) (.cons (.call 349 (.cons (.v 0) (.cons (.v 1) .nil)) [(0, 0)]) (.cons (.call 349 (.cons (.v 0) (.cons (.v 1) .nil)) [(0, 0)]) .nil)))) .nil)) [(0, 0)]) [some g, some (.int k), some x] = .ok (.int v, [some g', some (.int k), some x]) ∧ Gn K g' := by
  obtain ⟨v1, g1, e1, h1⟩ := shape_ (n := n) (K := K + 6) (by omega) (by rw [show K + 6 + 4 = K + 10 by omega]; exact hg) hk hk2
  obtain ⟨v2, g2, e2, h2⟩ := shape_ (n := n) (K := K + 2) (by omega) (by rw [show K + 2 + 4 = K + 6 by omega]; exact h1) hk hk2
  obtain ⟨y, g3, e3, hy, h3⟩ := pick (n := n + 1) (l := [.int 0, .int v1, .int v2]) hK h2 (by simp) (by simp)
  have : ∃ v : Int, y = .int v := by
    simp only [List.mem_cons, List.not_mem_nil, or_false] at hy
    rcases hy with rfl | rfl | rfl <;> exact ⟨_, rfl⟩
  obtain ⟨v, rfl⟩ := this
  refine ⟨v, g3, Ok.eq ?_, h3⟩
  simp [e1, e2, e3]
/-- a piece drawn -/
theorem piece_ {K k : Int} {g : D} (hK : 0 ≤ K) (hg : Gn (K + 40) g) (hk : 0 < k) (hk2 : k < 2 ^ 59) : ∃ (a b c d : Int) (g' : D), run prog (n + 5) 353 [g, .int k] = .ok (q4 a b c d, [g']) ∧ Gn K g' := by
  obtain ⟨a, g1, e1, h1⟩ := side_ (n := n) (K := K + 30) (x := .int 0) (o := none) (by omega) (by rw [show K + 30 + 10 = K + 40 by omega]; exact hg) hk hk2
  obtain ⟨b, g2, e2, h2⟩ := side_ (n := n) (K := K + 20) (x := .int 1) (o := none) (by omega) (by rw [show K + 20 + 10 = K + 30 by omega]; exact h1) hk hk2
  obtain ⟨c, g3, e3, h3⟩ := side_ (n := n) (K := K + 10) (x := .int 2) (o := none) (by omega) (by rw [show K + 10 + 10 = K + 20 by omega]; exact h2) hk hk2
  obtain ⟨d, g4, e4, h4⟩ := side_ (n := n) (K := K) (x := .int 3) (o := none) hK h3 hk hk2
  refine ⟨a, b, c, d, g4, Ok.eq ?_, h4⟩
  rw [run_succ, p353]
  have l0 : ∀ k : Nat, k ≤ 3 → k < lim := fun k h => by unfold lim; omega
  have e5 : biD .tuple [.lst [.int a, .int b, .int c, .int d]] = some (q4 a b c d) := by rfl
  simp only [optR_some, bind_okk, runFn_eq, fn_353, initE]
  simp [r4, compR_cons, compR_nil, e1, e2, e3, e4, push, l0, back, e5, -evE_call]
end
end Pz.K15
end
section
set_option Elab.async false
set_option linter.all false
set_option maxRecDepth 100000
set_option maxHeartbeats 1000000
/-! k15: the law. -/
namespace Pz.K15
open Pz Pz.Co Pz.Pc
def nthS : Nat → T → T
  | 0, .cons a _ => a
  | n + 1, .cons _ b => nthS n b
  | _, t => t
def s1 : T := nthS 0 fn_558.body
def s2 : T := nthS 1 fn_558.body
def s3 : T := nthS 2 fn_558.body
def s4 : T := nthS 3 fn_558.body
def s5 : T := nthS 4 fn_558.body
def s6 : T := nthS 5 fn_558.body
def s7 : T := nthS 6 fn_558.body
def s8 : T := nthS 7 fn_558.body
def s9 : T := nthS 8 fn_558.body
def s10 : T := nthS 9 fn_558.body
def s11 : T := nthS 10 fn_558.body
theorem b_eq : fn_558.body = .cons s1 (.cons s2 (.cons s3 (.cons s4 (.cons s5 (.cons s6 (.cons s7 (.cons s8 (.cons s9 (.cons s10 (.cons s11 .nil)))))))))) := rfl
abbrev CC (n : Nat) : Cfg := { call := run prog n, glob := prog.glob, fuel := FUEL }
abbrev EN (g p : D) (x2 x3 x4 x5 x6 x7 x8 x9 x10 x11 x12 x13 : Option D) : Env := [some g, some p, x2, x3, x4, x5, x6, x7, x8, x9, x10, x11, x12, x13]
theorem eqq {a b c d a' b' c' d' : Int} : eqD (q4 a b c d) (q4 a' b' c' d') = (a == a' && (b == b' && (c == c' && (d == d' && true)))) := rfl
section
variable {n : Nat} {K : Int} {a b c d : Int} {g : D} {x2 x3 x4 x5 x6 x7 x8 x9 x10 x11 x12 x13 : Option D}
theorem s1_ok (hK : 0 ≤ K) (hg : Gn (K + 1000) g) : Ok (evS (CC (n + 7)) s1 (some g :: List.replicate 13 none)) fun fl => ∃ (g : D) (a b c d : Int), fl = .nx (EN g (q4 a b c d) none none none none none none none none none none none none) ∧ Gn (K + 900) g := by
  obtain ⟨a1, b1, c1, d1, g1, e1, h1⟩ := piece_ (n := n + 2) (K := K + 950) (k := 2) (by omega) (hg.mono (by omega) (by omega)) (by decide) (by decide)
  obtain ⟨a2, b2, c2, d2, g2, e2, h2⟩ := piece_ (n := n + 2) (K := K + 910) (k := 999999999) (by omega) (h1.mono (by omega) (by omega)) (by decide) (by decide)
  have e3 : binD .pow (.int 10) (.int 9) = some (.int 1000000000) := by rfl
  obtain ⟨x, g3, e4, hx, h3⟩ := pick (n := n + 4) (K := K + 900) (l := [q4 a1 b1 c1 d1, q4 a2 b2 c2 d2, q4 3 3 3 3, q4 1 (-2) 1 (-2), q4 0 0 0 0, q4 0 1 0 1]) (by omega) (h2.mono (by omega) (by omega)) (by simp) (by simp)
  have hq : ∃ a b c d, x = q4 a b c d := by
    simp only [List.mem_cons, List.not_mem_nil, or_false] at hx
    rcases hx with rfl | rfl | rfl | rfl | rfl | rfl <;> exact ⟨_, _, _, _, rfl⟩
  obtain ⟨a, b, c, d, rfl⟩ := hq
  refine Ok.mono (Q := fun fl => fl = .nx (EN g3 (q4 a b c d) none none none none none none none none none none none none)) ?_ fun fl e => ⟨g3, a, b, c, d, e, h3⟩
  simp [s1, nthS, fn_558, e1, e2, e3, e4]
theorem s2_ok : Ok (evS (CC (n + 7)) s2 (EN g (q4 a b c d) x2 x3 x4 x5 x6 x7 x8 x9 x10 x11 x12 x13)) fun fl => fl = .nx (EN g (q4 a b c d) x2 x3 x4 x5 x6 x7 x8 (some (.lst (L a b c d))) x10 x11 x12 x13) := by
  have e : run prog (n + 7) 348 [q4 a b c d] = .ok (.lst (L a b c d), []) := law_turnings_ok (n := n + 5) p347 p348
  simp [s2, nthS, fn_558, e]
theorem s3_ok : Ok (evS (CC (n + 7)) s3 (EN g (q4 a b c d) x2 x3 x4 x5 x6 x7 x8 x9 x10 x11 x12 x13)) fun fl => fl = .nx (EN g (q4 a b c d) x2 x3 x4 x5 x6 x7 x8 x9 x10 x11 x12 (some (.lst [.lst (L a b c d), .lst (L a b c d)]))) := by
  have e : run prog (n + 7) 555 [q4 a b c d] = .ok (.lst (L a b c d), []) := turnings_ (n := n + 2)
  simp [s3, nthS, fn_558, e, permD]
theorem rep2 {x : D} : binD .rep (.lst [x]) (.int 2) = some (.lst [x, x]) := by rfl
theorem s4_ok : Ok (evS (CC (n + 7)) s4 (EN g (q4 a b c d) x2 x3 x4 x5 x6 x7 x8 (some (.lst (L a b c d))) x10 x11 x12 (some (.lst [.lst (L a b c d), .lst (L a b c d)])))) fun fl => ∃ t, fl = .nx (EN g (q4 a b c d) x2 x3 x4 x5 x6 x7 x8 (some (.lst (L a b c d))) x10 x11 x12 (some t)) := by
  have hl : (L a b c d).length ≤ 1000 := Nat.le_trans L_len (by decide)
  have e1 : run prog (n + 7) 345 [.lst [.lst (L a b c d), .lst (L a b c d)], .lst [.lst (L a b c d), .lst (L a b c d)]] = .ok (.bl true, []) := same_ (k := 0) (sw_two (sw_aq L_aq hl) (sw_aq L_aq hl))
  have e2 : run prog (n + 7) 1242 [.lst [.lst (L a b c d), .lst (L a b c d)]] = .ok (.bl true, [.lst [.lst (L a b c d ++ [mk]), .lst (L a b c d ++ [mk]), mk]]) := m2_ok (n := n + 3) p1240 p1241 p1242 (ls := [L a b c d, L a b c d]) (fun l hl' => by
    have : l = L a b c d := by simpa using hl'
    subst this
    exact ⟨L_aq, L_ne, hl⟩) (by simp) (by simp)
  obtain ⟨m, hm, hm2⟩ := min_ok (L_aq (a := a) (b := b) (c := c) (d := d)) L_ne
  have e3 : run prog (n + 7) 557 [q4 a b c d] = .ok (m, []) := least_ (n := n + 2) hm
  have e4 : run prog (n + 7) 345 [.lst [m, m], .lst [m, m]] = .ok (.bl true, []) := same_ (k := 0) (by
    obtain ⟨a', b', c', d', rfl⟩ := L_aq _ hm2
    exact sw_two sw_q sw_q)
  simp [s4, nthS, fn_558, e1, e2, e3, e4, hm, atm_bl, permD, rep2]
/-- how many unlike ones -/
def cnt (a b c d : Int) : Nat := (dedup [] [.int a, .int b, .int c, .int d]).length
theorem cnt_ok : meD .lenset (q4 a b c d) [] = some (.int (cnt a b c d)) := by rfl
theorem mem_int (x : Int) (l : List Int) : memD (.int x) (l.map D.int) = decide (x ∈ l) := by
  induction l with
  | nil => rfl
  | cons y l ih =>
    show (eqD (.int y) (.int x) || memD (.int x) (l.map D.int)) = _
    rw [ih]
    show (y == x || _) = _
    by_cases h : y = x
    · simp [h]
    · have : ¬ x = y := fun z => h z.symm
      simp [h, this]
theorem cnt_one : cnt a b c d = 1 ↔ a = b ∧ b = c ∧ c = d := by
  have m : ∀ (x : Int) (l : List Int), memD (.int x) (l.map D.int) = decide (x ∈ l) := mem_int
  have m1 : ∀ x y : Int, memD (.int x) [.int y] = decide (x ∈ [y]) := fun x y => m x [y]
  have m2 : ∀ x y z : Int, memD (.int x) [.int y, .int z] = decide (x ∈ [y, z]) := fun x y z => m x [y, z]
  have m3 : ∀ x y z w : Int, memD (.int x) [.int y, .int z, .int w] = decide (x ∈ [y, z, w]) := fun x y z w => m x [y, z, w]
  unfold cnt
  simp only [dedup, show memD (.int a) [] = false from rfl, Bool.false_eq_true, if_false, m1]
  by_cases h1 : b = a
  · subst h1
    simp only [List.mem_singleton, decide_true, if_true, m1]
    by_cases h2 : c = b
    · subst h2
      simp only [decide_true, if_true, m1, List.mem_singleton]
      by_cases h3 : d = c
      · subst h3; simp
      · have : ¬ c = d := fun z => h3 z.symm
        simp [h3, this]
    · have : ¬ b = c := fun z => h2 z.symm
      simp only [h2, decide_false, Bool.false_eq_true, if_false, m2]
      by_cases h3 : d ∈ [c, b] <;> simp [h3, this]
  · have : ¬ a = b := fun z => h1 z.symm
    simp only [List.mem_singleton, h1, decide_false, Bool.false_eq_true, if_false, m2]
    by_cases h2 : c ∈ [b, a]
    · simp only [h2, decide_true, if_true, m2]
      by_cases h3 : d ∈ [b, a] <;> simp [h3, this]
    · simp only [h2, decide_false, Bool.false_eq_true, if_false, m3]
      by_cases h3 : d ∈ [c, b, a] <;> simp [h3, this]
theorem L_many : ((L a b c d).length : Int) = if cnt a b c d = 1 then 1 else if a = c ∧ b = d then 2 else 4 := by
  have r0 : rot 0 a b c d = q4 a b c d := rfl
  have r1 : rot 1 a b c d = q4 d a b c := rfl
  have r2 : rot 2 a b c d = q4 c d a b := rfl
  have r3 : rot 3 a b c d = q4 b c d a := rfl
  have mm : ∀ (x : D) (l : List D) (y : D), memD x (l ++ [y]) = (memD x l || eqD y x) := fun x l y => by
    unfold memD
    rw [List.any_append]; simp
  have mn : ∀ x : D, memD x [] = false := fun _ => rfl
  unfold L
  rw [r0, r1, r2, r3]
  have t0 : stp [] (q4 a b c d) = [] ++ [q4 a b c d] := rfl
  rw [t0]
  by_cases hA : a = b ∧ b = c ∧ c = d
  · rw [if_pos (cnt_one.mpr hA)]
    obtain ⟨rfl, rfl, rfl⟩ := hA
    have k : eqD (q4 a a a a) (q4 a a a a) = true := by rw [eqq]; simp
    simp only [stp, mm, mn, k, Bool.false_or, if_true]
    rfl
  · rw [if_neg fun z => hA (cnt_one.mp z)]
    have k1 : eqD (q4 a b c d) (q4 d a b c) = false := by
      rw [eqq]; simp; omega
    by_cases hB : a = c ∧ b = d
    · rw [if_pos hB]
      obtain ⟨rfl, rfl⟩ := hB
      have hne : ¬ a = b := fun z => hA ⟨z, z.symm, z⟩
      have k0 : eqD (q4 a b a b) (q4 a b a b) = true := by rw [eqq]; simp
      have k00 : eqD (q4 b a b a) (q4 b a b a) = true := by rw [eqq]; simp
      have k2 : eqD (q4 b a b a) (q4 a b a b) = false := by rw [eqq]; simp; omega
      simp only [stp, mm, mn, k0, k00, k1, k2, Bool.false_or, Bool.or_false, Bool.true_or, Bool.or_true, Bool.false_eq_true, if_true, if_false]
      rfl
    · rw [if_neg hB]
      have k2 : eqD (q4 a b c d) (q4 c d a b) = false := by rw [eqq]; simp; omega
      have k3 : eqD (q4 d a b c) (q4 c d a b) = false := by rw [eqq]; simp; omega
      have k4 : eqD (q4 a b c d) (q4 b c d a) = false := by rw [eqq]; simp; omega
      have k5 : eqD (q4 d a b c) (q4 b c d a) = false := by rw [eqq]; simp; omega
      have k6 : eqD (q4 c d a b) (q4 b c d a) = false := by rw [eqq]; simp; omega
      simp only [stp, mm, mn, k1, k2, k3, k4, k5, k6, Bool.or_false, Bool.false_eq_true, if_false]
      simp
theorem g4_0 {x y z w : D} : getD (.tup [x, y, z, w]) (.int 0) = some x := rfl
theorem g4_1 {x y z w : D} : getD (.tup [x, y, z, w]) (.int 1) = some y := rfl
theorem g4_2 {x y z w : D} : getD (.tup [x, y, z, w]) (.int 2) = some z := rfl
theorem g4_3 {x y z w : D} : getD (.tup [x, y, z, w]) (.int 3) = some w := rfl
theorem s5_ok : Ok (evS (CC (n + 7)) s5 (EN g (q4 a b c d) x2 x3 x4 x5 x6 x7 x8 x9 x10 x11 x12 x13)) fun fl => fl = .nx (EN g (q4 a b c d) x2 x3 x4 x5 x6 x7 x8 x9 x10 x11 (some (.int ((L a b c d).length : Int))) x13) := by
  rw [L_many]
  have mo : meOk .lenset (q4 a b c d) = some () := rfl
  simp [s5, nthS, fn_558, cnt_ok, eq_int, g4_0, g4_1, g4_2, g4_3, mo]
  by_cases h1 : cnt a b c d = 1
  · have : ((cnt a b c d : Int) == 1) = true := by simp [h1]
    simp [h1]
  · have h1' : ((cnt a b c d : Int) == 1) = false := by simpa using fun z => h1 (by omega)
    have h1'' : ¬ ((cnt a b c d : Int) = 1) := by omega
    simp [h1, h1', h1'']
    by_cases h2 : a = c
    · by_cases h3 : b = d
      · simp [h2, h3] at h1'' ⊢
        try simp [h1'']
      · simp [h2, h3] at h1'' ⊢
        try simp [h1'']
    · simp [h2]
theorem s6_ok : Ok (evS (CC (n + 7)) s6 (EN g (q4 a b c d) x2 x3 x4 x5 x6 x7 x8 (some (.lst (L a b c d))) x10 x11 (some (.int ((L a b c d).length : Int))) x13)) fun fl => fl = .nx (EN g (q4 a b c d) x2 x3 x4 x5 x6 x7 x8 (some (.lst (L a b c d))) x10 x11 (some (.int ((L a b c d).length : Int))) x13) := by
  simp [s6, nthS, fn_558, ne_int]
theorem s7_ok (hK : 0 ≤ K) (hg : Gn (K + 900) g) : Ok (evS (CC (n + 7)) s7 (EN g (q4 a b c d) x2 x3 x4 x5 x6 x7 x8 x9 x10 x11 x12 x13)) fun fl => ∃ g y10 y11, fl = .nx (EN g (q4 a b c d) x2 x3 x4 x5 x6 x7 x8 x9 y10 y11 x12 x13) ∧ Gn (K + 800) g := by
  obtain ⟨r, g1, e1, r0, r1, h1⟩ := rnd (n := n + 5) (K := K + 800) (b := 4) (by omega) (hg.mono (by omega) (by omega)) (by decide) (by decide)
  have e3 : binD .pow (.int 10) (.int 9) = some (.int 1000000000) := by rfl
  refine Ok.mono (Q := fun fl => ∃ y10 y11, fl = .nx (EN g1 (q4 a b c d) x2 x3 x4 x5 x6 x7 x8 x9 y10 y11 x12 x13)) ?_ fun fl ⟨y10, y11, e⟩ => ⟨g1, y10, y11, e, h1⟩
  simp only [s7, nthS, fn_558, EN]
  simp [e1, e3]
  refine forR_inv _ (fun l ρ => (∃ y10 y11, ρ = EN g1 (q4 a b c d) x2 x3 x4 x5 x6 x7 x8 x9 y10 y11 x12 x13) ∧ ∀ x ∈ l, ∃ t : Int, x = .int t ∧ 0 ≤ t) _ ⟨⟨_, _, rfl⟩, fun x hx => ?_⟩ ?_ ?_
  · simp only [List.mem_cons, List.not_mem_nil, or_false] at hx
    rcases hx with rfl | rfl | rfl | rfl | rfl | rfl | rfl <;> exact ⟨_, rfl, by omega⟩
  · rintro x l ρ _ ⟨⟨y10, y11, rfl⟩, hl⟩
    obtain ⟨t, rfl, ht⟩ := hl x List.mem_cons_self
    have hl2 : ∀ y ∈ l, ∃ t : Int, y = .int t ∧ 0 ≤ t := fun y hy => hl y (List.mem_cons_of_mem _ hy)
    have e4 : run prog (n + 7) 347 [q4 a b c d, .int t] = .ok (rot t a b c d, []) := law_turned_ok (n := n + 6) p347
    have e5 : run prog (n + 7) 554 [q4 a b c d, .int t] = .ok (rot t a b c d, []) := turned_ (n := n + 2) ht
    have e6 : run prog (n + 7) 345 [.lst [rot t a b c d, rot t a b c d], .lst [rot t a b c d, rot t a b c d]] = .ok (.bl true, []) := same_ (k := 0) (by
      obtain ⟨a', b', c', d', e⟩ := rot_q (t := t) (a := a) (b := b) (c := c) (d := d)
      rw [e]; exact sw_two sw_q sw_q)
    simp [e4, e5, e6, permD]
    exact hl2
  · rintro ρ ⟨⟨y10, y11, rfl⟩, _⟩
    exact ⟨y10, y11, rfl⟩
theorem s8_ok (hK : 0 ≤ K) (hg : Gn (K + 800) g) : Ok (evS (CC (n + 7)) s8 (EN g (q4 a b c d) x2 x3 x4 x5 x6 x7 x8 (some (.lst (L a b c d))) x10 x11 x12 x13)) fun fl => ∃ g y6 y8, fl = .nx (EN g (q4 a b c d) x2 x3 x4 x5 y6 x7 y8 (some (.lst (L a b c d))) x10 x11 x12 x13) ∧ Gn (K + 700) g := by
  obtain ⟨r, g1, e1, r0, r1, h1⟩ := rnd (n := n + 5) (K := K + 790) (b := 4) (by omega) (hg.mono (by omega) (by omega)) (by decide) (by decide)
  have e2 : run prog (n + 7) 347 [q4 a b c d, .int r] = .ok (rot r a b c d, []) := law_turned_ok (n := n + 6) p347
  obtain ⟨a3, b3, c3, d3, g3, e3, h3⟩ := piece_ (n := n + 2) (K := K + 700) (k := 2) (by omega) (h1.mono (by omega) (by omega)) (by decide) (by decide)
  have e4 : revD (q4 a b c d) = some (q4 d c b a) := by rfl
  have mo : ∀ d : D, meOk .index d = some () := fun _ => rfl
  refine Ok.mono (Q := fun fl => ∃ y6 y8, fl = .nx (EN g3 (q4 a b c d) x2 x3 x4 x5 y6 x7 y8 (some (.lst (L a b c d))) x10 x11 x12 x13)) ?_ fun fl ⟨y6, y8, e⟩ => ⟨g3, y6, y8, e, h3⟩
  simp [s8, nthS, fn_558, e1, e2, e3, e4]
  refine forR_inv _ (fun l ρ => (∃ y6 y8, ρ = EN g3 (q4 a b c d) x2 x3 x4 x5 y6 x7 y8 (some (.lst (L a b c d))) x10 x11 x12 x13) ∧ ∀ x ∈ l, ∃ a b c d, x = q4 a b c d) _ ⟨⟨_, _, rfl⟩, fun x hx => ?_⟩ ?_ ?_
  · simp only [List.mem_cons, List.not_mem_nil, or_false] at hx
    rcases hx with rfl | rfl | rfl
    · exact rot_q
    · exact ⟨_, _, _, _, rfl⟩
    · exact ⟨_, _, _, _, rfl⟩
  · rintro x l ρ _ ⟨⟨y6, y8, rfl⟩, hl⟩
    have hx := hl x List.mem_cons_self
    have hl2 : ∀ y ∈ l, ∃ a b c d, y = q4 a b c d := fun y hy => hl y (List.mem_cons_of_mem _ hy)
    have e5 : run prog (n + 7) 556 [q4 a b c d, x] = .ok (tix x (L a b c d), []) := turns_to_ (n := n + 2) hx
    have e6 : run prog (n + 7) 345 [.lst [tix x (L a b c d), tix x (L a b c d)], .lst [tix x (L a b c d), tix x (L a b c d)]] = .ok (.bl true, []) := same_ (k := 0) (by
      have : sw 5 (tix x (L a b c d)) := by
        unfold tix
        split
        · split <;> trivial
        · trivial
      exact sw_two this this)
    have e7 := in_ok L_aq hx (l := L a b c d)
    cases hm : memD x (L a b c d) with
    | true =>
      have e8 := index_ok L_aq hx hm
      rw [hm] at e7
      simp [e5, e6, e7, e8, permD]
      exact hl2
    | false =>
      have e8 : tix x (L a b c d) = .non := by unfold tix; rw [hm]; rfl
      rw [hm] at e7
      rw [e8] at e5 e6
      simp [e5, e6, e7, permD]
      exact hl2
  · rintro ρ ⟨⟨y6, y8, rfl⟩, _⟩
    exact ⟨y6, y8, rfl⟩
theorem s9_ok (hK : 0 ≤ K) (hg : Gn (K + 700) g) : Ok (evS (CC (n + 7)) s9 (EN g (q4 a b c d) x2 x3 x4 x5 x6 x7 x8 x9 x10 x11 x12 x13)) fun fl => ∃ g y5 y6 y7, fl = .nx (EN g (q4 a b c d) x2 x3 x4 y5 y6 y7 x8 x9 x10 x11 x12 x13) ∧ Gn (K + 600) g := by
  obtain ⟨v, g1, e1, h1⟩ := shape_ (n := n + 3) (K := K + 600) (k := 9) (by omega) (hg.mono (by omega) (by omega)) (by decide) (by decide)
  refine Ok.mono (Q := fun fl => ∃ y5 y6 y7, fl = .nx (EN g1 (q4 a b c d) x2 x3 x4 y5 y6 y7 x8 x9 x10 x11 x12 x13)) ?_ fun fl ⟨y5, y6, y7, e⟩ => ⟨g1, y5, y6, y7, e, h1⟩
  simp [s9, nthS, fn_558, e1]
  refine forR_inv _ (fun l ρ => (∃ y5 y6 y7, ρ = EN g1 (q4 a b c d) x2 x3 x4 y5 y6 y7 x8 x9 x10 x11 x12 x13) ∧ ∀ x ∈ l, ∃ i : Int, x = .int i) _ ⟨⟨_, _, _, rfl⟩, fun x hx => ?_⟩ ?_ ?_
  · simp only [List.mem_cons, List.not_mem_nil, or_false] at hx
    rcases hx with rfl | rfl | rfl | rfl | rfl <;> exact ⟨_, rfl⟩
  · rintro x l ρ _ ⟨⟨y5, y6, y7, rfl⟩, hl⟩
    obtain ⟨i, rfl⟩ := hl x List.mem_cons_self
    have hl2 : ∀ y ∈ l, ∃ i : Int, y = .int i := fun y hy => hl y (List.mem_cons_of_mem _ hy)
    simp
    refine forR_inv _ (fun m ρ => (∃ y6 y7, ρ = EN g1 (q4 a b c d) x2 x3 x4 (some (.int i)) y6 y7 x8 x9 x10 x11 x12 x13) ∧ ∀ x ∈ m, ∃ i : Int, x = .int i) _ ⟨⟨_, _, rfl⟩, fun x hx => ?_⟩ ?_ ?_
    · simp only [List.mem_cons, List.not_mem_nil, or_false] at hx
      rcases hx with rfl | rfl | rfl | rfl | rfl <;> exact ⟨_, rfl⟩
    · rintro x m ρ _ ⟨⟨y6, y7, rfl⟩, hm⟩
      obtain ⟨j, rfl⟩ := hm x List.mem_cons_self
      have hm2 : ∀ y ∈ m, ∃ i : Int, y = .int i := fun y hy => hm y (List.mem_cons_of_mem _ hy)
      have e2 : run prog (n + 7) 553 [.int i, .int j] = .ok (.bl (!(i == 0) && (i + j == 0)), []) := fits_ (n := n + 3)
      have e3 : (i == -j) = (i + j == 0) := by
        by_cases h : i + j = 0
        · have h2 : i = -j := by omega
          simp only [beq_iff_eq.mpr h, beq_iff_eq.mpr h2]
        · have : ¬ i = -j := by omega
          simp only [beq_eq_false_iff_ne.mpr h, beq_eq_false_iff_ne.mpr this]
      have e4 : ∀ b : Bool, run prog (n + 7) 345 [.lst [.bl b, .bl b], .lst [.bl b, .bl b]] = .ok (.bl true, []) := fun b => same_ (k := 0) (sw_two trivial trivial)
      have e5 := ne_int i 0
      have e6 := eq_int i (-j)
      rw [e3] at e6
      cases h0 : (i == 0) with
      | true =>
        rw [h0] at e2 e5
        simp only [Bool.not_true, Bool.false_and] at e2 e5
        simp [e2, e4, e5, permD]
        exact hm2
      | false =>
        rw [h0] at e2 e5
        simp only [Bool.not_false, Bool.true_and] at e2 e5
        generalize (i + j == 0) = b0 at e2 e6
        simp [e2, e4, e5, e6, permD]
        exact hm2
    · rintro ρ ⟨⟨y6, y7, rfl⟩, _⟩
      simp
      exact hl2
  · rintro ρ ⟨⟨y5, y6, y7, rfl⟩, _⟩
    exact ⟨y5, y6, y7, rfl⟩
theorem nv4 : isNonT (.v 4) = false := rfl
theorem nb4 : isNonT (.bin .add (.v 4) (.int 1)) = false := rfl
/-- one place another -/
theorem bent {x : D} (hx : tyOk x = true) {t : Int} (h0 : 0 ≤ t) (h1 : t < 4) : ∃ l1 l2 l3 l4, slcV none (some t) (q4 a b c d) = some (.tup l1) ∧ slcV (some (t + 1)) none (q4 a b c d) = some (.tup l2) ∧
    binD .add (.tup l1) (.tup [x]) = some (.tup l3) ∧ binD .add (.tup l3) (.tup l2) = some (.tup l4) ∧ run prog (n + 7) 10 [.tup l4] = .ok (.bl (isW x), []) := by
  have p : ∀ x y z w : D, tyOk x = true → tyOk y = true → tyOk z = true → tyOk w = true → run prog (n + 7) 10 [.tup [x, y, z, w]] = .ok (.bl (isW x && (isW y && (isW z && isW w))), []) := fun x y z w hx hy hz hw => piece4 (n := n + 4) p1 p8 p10 hx hy hz hw
  have : t = 0 ∨ t = 1 ∨ t = 2 ∨ t = 3 := by omega
  rcases this with rfl | rfl | rfl | rfl
  · exact ⟨[], [.int b, .int c, .int d], [x], [x, .int b, .int c, .int d], rfl, rfl, addT (by simp), addT (by simp), by rw [p _ _ _ _ hx rfl rfl rfl]; simp [isW]⟩
  · exact ⟨[.int a], [.int c, .int d], [.int a, x], [.int a, x, .int c, .int d], rfl, rfl, addT (by simp), addT (by simp), by rw [p _ _ _ _ rfl hx rfl rfl]; simp [isW]⟩
  · exact ⟨[.int a, .int b], [.int d], [.int a, .int b, x], [.int a, .int b, x, .int d], rfl, rfl, addT (by simp), addT (by simp), by rw [p _ _ _ _ rfl rfl hx rfl]; simp [isW]⟩
  · exact ⟨[.int a, .int b, .int c], [], [.int a, .int b, .int c, x], [.int a, .int b, .int c, x], rfl, rfl, addT (by simp), addT (by simp), by rw [p _ _ _ _ rfl rfl rfl hx]; simp [isW]⟩
def Q10 (K : Int) (p : D) (x5 x6 x7 x8 x9 x10 x11 x12 x13 : Option D) (fl : Fl) : Prop := ∃ g y2 y3 y4, fl = .nx (EN g p y2 y3 y4 x5 x6 x7 x8 x9 x10 x11 x12 x13) ∧ Gn (K + 500) g
theorem s10_ok (hK : 0 ≤ K) (hg : Gn (K + 600) g) : Ok (evS (CC (n + 7)) s10 (EN g (q4 a b c d) x2 x3 x4 x5 x6 x7 x8 x9 x10 x11 x12 x13)) (Q10 K (q4 a b c d) x5 x6 x7 x8 x9 x10 x11 x12 x13) := by
  have e3 : binD .pow (.int 10) (.int 9) = some (.int 1000000000) := by rfl
  simp only [s10, nthS, fn_558, EN]
  rw [evS_for]
  simp [e3, keysT]
  refine forR_inv _ (fun l ρ => ∃ g y2 y3 y4, ρ = EN g (q4 a b c d) y2 y3 y4 x5 x6 x7 x8 x9 x10 x11 x12 x13 ∧ Gn (K + 500 + 2 * l.length) g ∧ ∀ x ∈ l, tyOk x = true) _ ⟨g, _, _, _, rfl, hg.mono (by simp; omega) (by simp; omega), fun x hx => ?_⟩ ?_ ?_
  · simp only [List.mem_cons, List.not_mem_nil, or_false] at hx
    rcases hx with rfl | rfl | rfl | rfl | rfl | rfl | rfl | rfl | rfl | rfl | rfl <;> rfl
  · rintro x l ρ _ ⟨g, y2, y3, y4, rfl, hg, hl⟩
    have hx := hl x List.mem_cons_self
    have hl2 : ∀ y ∈ l, tyOk y = true := fun y hy => hl y (List.mem_cons_of_mem _ hy)
    rw [List.length_cons] at hg
    obtain ⟨t, g1, e1, t0, t1, h1⟩ := rnd (n := n + 5) (K := K + 500 + 2 * l.length) (b := 4) (by omega) (hg.mono (by omega) (by omega)) (by decide) (by decide)
    have e4 : run prog (n + 7) 8 [x] = .ok (.bl (isW x), []) := shp8_ok (n := n + 5) p1 p8 hx
    have e5 : run prog (n + 7) 252 [x] = .ok (.bl (isW x), []) := whole_ (n := n + 6) hx
    have e6 : ∀ b : Bool, run prog (n + 7) 345 [.lst [.bl b, .bl b], .lst [.bl b, .bl b]] = .ok (.bl true, []) := fun b => same_ (k := 0) (sw_two trivial trivial)
    obtain ⟨l1, l2, l3, l4, f1, f2, f3, f4, f5⟩ := bent (n := n) (a := a) (b := b) (c := c) (d := d) hx t0 t1
    refine Ok.mono (Q := fun fl => fl = .nx (EN g1 (q4 a b c d) (some (.tup l4)) none none x5 x6 x7 x8 x9 x10 x11 x12 x13)) ?_ ?_
    · simp [e1, e4, e5, e6, rep2, permD, nv4, nb4, f1, f2, f3, f4, f5]
    · rintro _ rfl
      exact ⟨g1, _, _, _, rfl, h1, hl2⟩
  · rintro ρ ⟨g, y2, y3, y4, rfl, hg, _⟩
    exact ⟨g, _, _, _, rfl, hg.mono (by simp) (by omega)⟩
theorem s11_ok : Ok (evS (CC (n + 7)) s11 (EN g (q4 a b c d) x2 x3 x4 x5 x6 x7 x8 x9 x10 x11 x12 x13)) fun fl => fl = .rt (.bl true) (EN g (q4 a b c d) x2 x3 x4 x5 x6 x7 x8 x9 x10 x11 x12 x13) := by
  have hn : ∀ x : D, tyOk x = true → isTy x .tuple = false → run prog (n + 7) 10 [x] = .ok (.bl false, []) := fun x h1 h2 => piece_no (n := n + 4) p10 h1 h2
  have ht : ∀ l : List D, l.length ≠ 4 → run prog (n + 7) 10 [.tup l] = .ok (.bl false, []) := fun l h => piece_len (n := n + 4) p10 h
  have f1 := hn .non rfl rfl
  have f2 := ht [] (by simp)
  have f3 := hn (.lst [.int a, .int b, .int c, .int d]) rfl rfl
  have f4 := ht [.int a, .int b, .int c] (by simp)
  have f5 := ht [.int a, .int b, .int c, .int d, .int 0] (by simp)
  have f6 := hn (.str [112, 105, 101, 99, 101]) rfl rfl
  have f7 := hn (.dic [] []) rfl rfl
  have f8 := hn (.int 0) rfl rfl
  have f9 : run prog (n + 7) 10 [q4 a b c d] = .ok (.bl true, []) := piece_yes (n := n + 4) p1 p8 p10
  have e1 : biD .list [q4 a b c d] = some (.lst [.int a, .int b, .int c, .int d]) := by rfl
  have e2 : slcV none (some 3) (q4 a b c d) = some (.tup [.int a, .int b, .int c]) := by rfl
  have e3 : binD .add (q4 a b c d) (.tup [.int 0]) = some (.tup [.int a, .int b, .int c, .int d, .int 0]) := addT (by simp)
  have e4 : cmpB .isnot (.bl false) (.bl false) = some false := by rfl
  have e5 : cmpB .eq (.lst []) (.lst []) = some true := by rfl
  have e6 : cmpB .is (.bl true) (.bl true) = some true := by rfl
  have n3 : isNonT (.int 3) = false := rfl
  simp [s11, nthS, fn_558, e1, e2, e3, keysT, n3, compR_cons, compR_nil, f1, f2, f3, f4, f5, f6, f7, f8, f9, e4, e5, e6, back]
theorem right_ok (hK : 0 ≤ K) (hg : Gn (K + 1000) g) : ∃ g', run prog (n + 8) 558 [g] = .ok (.bl true, [g']) ∧ Gn (K + 500) g' := by
  suffices hh : Ok (run prog (n + 8) 558 [g]) fun r => ∃ g', r = (.bl true, [g']) ∧ Gn (K + 500) g' by
    obtain ⟨r, e, g', rfl, h⟩ := hh.ex
    exact ⟨g', e, h⟩
  rw [run_succ]
  simp only [p558, optR_some, bind_okk, runFn_eq]
  rw [if_pos (by rfl)]
  have ens : fn_558.ns = 14 := rfl
  have eio : fn_558.io = [0] := rfl
  have enp : fn_558.np = 1 := rfl
  rw [b_eq, ok_bind]
  simp only [ens, eio, enp, initE, List.map_cons, List.map_nil, List.length_cons, List.length_nil, Nat.reduceSub, Nat.reduceAdd, List.cons_append, List.nil_append]
  refine seq_ok (s1_ok hK hg) ?_
  rintro _ ⟨g, a, b, c, d, rfl, hg⟩
  dsimp only
  refine seq_ok s2_ok ?_
  rintro _ rfl
  dsimp only
  refine seq_ok s3_ok ?_
  rintro _ rfl
  dsimp only
  refine seq_ok s4_ok ?_
  rintro _ ⟨t, rfl⟩
  dsimp only
  refine seq_ok s5_ok ?_
  rintro _ rfl
  dsimp only
  refine seq_ok s6_ok ?_
  rintro _ rfl
  dsimp only
  refine seq_ok (s7_ok hK hg) ?_
  rintro _ ⟨g, _, _, rfl, hg⟩
  dsimp only
  refine seq_ok (s8_ok hK hg) ?_
  rintro _ ⟨g, _, _, rfl, hg⟩
  dsimp only
  refine seq_ok (s9_ok hK hg) ?_
  rintro _ ⟨g, _, _, _, rfl, hg⟩
  dsimp only
  refine seq_ok (s10_ok hK hg) ?_
  rintro _ ⟨g, _, _, _, rfl, hg⟩
  dsimp only
  refine seq_ok s11_ok ?_
  rintro _ rfl
  simp [eio]
  exact hg
end
theorem r3 : rngD [.int 3] = some [.int 0, .int 1, .int 2] := by rfl
theorem law_n (n : Nat) (ns : List Int) : Ok (run prog (n + 9) 559 [.lst (ns.map D.int)]) fun r => r = (.bl true, []) := by
  rw [run_succ, p559]
  simp only [optR_some, bind_okk, runFn_eq, fn_559, initE]
  simp [r3]
  refine forR_inv _ (fun l ρ => (∃ x1 x2 x3, ρ = [some (.lst (ns.map D.int)), x1, x2, x3]) ∧ ∀ x ∈ l, ∃ i : Int, x = .int i ∧ 0 ≤ i ∧ i < 100) _ ⟨⟨_, _, _, rfl⟩, fun x hx => ?_⟩ ?_ ?_
  · simp only [List.mem_cons, List.not_mem_nil, or_false] at hx
    rcases hx with rfl | rfl | rfl <;> exact ⟨_, rfl, by decide, by decide⟩
  · rintro x l ρ _ ⟨⟨x1, x2, x3, rfl⟩, hl⟩
    obtain ⟨i, rfl, i0, i1⟩ := hl x List.mem_cons_self
    have hl2 : ∀ y ∈ l, ∃ i : Int, y = .int i ∧ 0 ≤ i ∧ i < 100 := fun y hy => hl y (List.mem_cons_of_mem _ hy)
    obtain ⟨g, e1, hg⟩ := generator_ok p163 p164 (n := n + 6) (ns := ns) i0 i1
    have e1' : run prog (n + 8) 164 [.lst (ns.map D.int), .int i] = .ok (g, []) := e1
    simp [e1', r4]
    refine forR_inv _ (fun m ρ => ∃ g x2, ρ = [some (.lst (ns.map D.int)), some g, x2, some (.int i)] ∧ Gn (1000 * m.length + 10) g) _ ⟨g, _, rfl, hg.mono (by simp) (by simp)⟩ ?_ ?_
    · rintro y m ρ _ ⟨g, x2, rfl, hg⟩
      rw [List.length_cons] at hg
      obtain ⟨g', e2, h2⟩ := right_ok (n := n) (K := 1000 * m.length + 10) (by omega) (hg.mono (by omega) (by omega))
      simp [e2]
      exact h2.mono (by omega) (by omega)
    · rintro ρ ⟨g, x2, rfl, _⟩
      simp
      exact hl2
  · rintro ρ ⟨⟨x1, x2, x3, rfl⟩, _⟩
    simp
theorem law_true (ns : List Int) (h : ns.length ≤ 63) : run prog 30 559 [.lst (ns.map D.int)] = .ok (.bl true, []) := (law_n 21 ns).eq
end Pz.K15
end
section
set_option Elab.async false
set_option linter.all false
set_option maxRecDepth 100000
set_option maxHeartbeats 0
namespace Pz.K15
open Pz PySem PySem.Spec PyProof.Rows L2
abbrev loose : List PySem.Str := ("PuzzleError" : PySem.Str) :: ("InvalidNumber" : PySem.Str) :: ("InvalidShape" : PySem.Str) :: ("InvalidPiece" : PySem.Str) :: ("is_whole" : PySem.Str) :: ("is_count" : PySem.Str) :: ("check_number" : PySem.Str) :: ("is_shape" : PySem.Str) :: ("check_shape" : PySem.Str) :: ("fits" : PySem.Str) :: ("do_fit" : PySem.Str) :: ("is_piece" : PySem.Str) :: ("check_piece" : PySem.Str) :: ("turned_by" : PySem.Str) :: ("turned" : PySem.Str) :: ("turnings_in" : PySem.Str) :: ("turnings" : PySem.Str) :: ("turns_between" : PySem.Str) :: ("turns_to" : PySem.Str) :: ("first_turned" : PySem.Str) :: ("least_turned" : PySem.Str) :: ("_law_hash" : PySem.Str) :: ("_law_random" : PySem.Str) :: ("_law_cell" : PySem.Str) :: ("_law_generator" : PySem.Str) :: ("_law_same" : PySem.Str) :: ("_law_pick" : PySem.Str) :: ("_law_marked" : PySem.Str) :: ("_law_turned" : PySem.Str) :: ("_law_turnings" : PySem.Str) :: ("_law_shape" : PySem.Str) :: ("_law_piece" : PySem.Str) :: ("_law_is_whole" : PySem.Str) :: ("_law_right" : PySem.Str) :: []
abbrev fa : List He.Fa := faOf ds tb
abbrev fnl : List He.DefD := fnOf ds
abbrev R : PySem.W.OpenRow := PySem.W.OpenLaw.row PySem.Challenge.rw_puzzlebox_k15_whole_pieces_turned
abbrev file : PySem.Str := PySem.Challenge.rw_puzzlebox_k15_whole_pieces_turned.prog.main.file
abbrev eb : Option EbD := some ⟨5, ⟨4, 17, 4, 21⟩, ⟨4, 23, 4, 28⟩, ⟨5, 8, 5, 13⟩, ⟨5, 8, 5, 15⟩, ⟨5, 25, 5, 30⟩, ⟨5, 8, 5, 31⟩, ⟨6, 8, 6, 12⟩, ⟨6, 8, 6, 18⟩, ⟨6, 21, 6, 26⟩, ⟨6, 8, 6, 26⟩⟩
abbrev hk : PySem.W.Hook := hookP 8 fa fnl file eb tb.ex
def ob (s : PySem.W.SharedT) : AlP := obsP 8 fa fnl file eb tb.ex (HandSHeadRun.getT s)
theorem ob_eq (s : PySem.W.SharedT) : ob s = hk.obs s.abs := obsP_eq (HandSHeadRun.getT_eq s)
theorem run_ (w : World) : HandSHeadRun.RunEq R (PySem.W.view R.prog [38]) hk ob 4000 Pz.K15.loose w := by
  intro os
  kernel_rfl
end Pz.K15
open PySem PySem.W PySem.Calls PyProof.Rows
theorem PySem.Challenge.cw_puzzlebox_k15_whole_pieces_turned_holds : PySem.Challenge.rw_puzzlebox_k15_whole_pieces_turned.Holds := by
  w_on; o_law
  refine HandSHeadRun.head_any (r := OpenLaw.row PySem.Challenge.rw_puzzlebox_k15_whole_pieces_turned) (q := view (OpenLaw.row PySem.Challenge.rw_puzzlebox_k15_whole_pieces_turned).prog [38]) (H := Pz.K15.hk) (ob := Pz.K15.ob) (M := 4000) (loose := Pz.K15.loose) (d := HandSHeadRun.topDef (OpenLaw.row PySem.Challenge.rw_puzzlebox_k15_whole_pieces_turned).prog 38) (kwd := []) Pz.K15.ob_eq
    (by kernel_rfl) (fun s => by kernel_rfl) Pz.K15.run_ (by kernel_rfl) (by kernel_rfl) (by kernel_rfl) (by rfl) (by first | assumption | decide +kernel) (by decide +kernel) ⟨rfl, rfl, rfl, rfl, rfl, by decide +kernel⟩ ?hw ?hc
  case hw => w_witness2
  case hc =>
    refine Pz.walkG (eb := Pz.K15.eb) (file := Pz.K15.file) (l := PySem.Challenge.rw_puzzlebox_k15_whole_pieces_turned) (m := 63) (n := 30) (t := Pz.K15.tb) (Pg := Pz.K15.prog) (dl := Pz.K15.df_559) rfl (by decide) (by kernel_rfl) ⟨rfl, by decide, by decide⟩ (by kernel_rfl) ?_ Pz.K15.tbOk (by simp [Pz.K15.ds]) rfl rfl rfl rfl rfl (by first | exact .inl ⟨rfl, rfl⟩ | exact .inr ⟨_, rfl, by decide⟩) rfl (by decide +kernel) Pz.K15.law_true
    intro w h mg Y G
    exact Y
end
