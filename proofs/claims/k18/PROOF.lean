import PyProof.Rows.All
import PySem.Str
import HandS.ForMost
import HandS.ForExc
import HandS.ExcIs
import HandS.TupAny
import PyProof.StrOps2
import HandS.Deep
import HandS.DictComp
import HandS.DeepEq
import HandS.Flow
import HandS.More
import HandS.IsInst
import HandS.Text
import HandS.SortInts
import PyProof.SliceList
import HandS.SetKeys
import HandS.Strs
import HandS.TupSets
import KE.KDictSum
import HandS.Zip
import HandS.NoneIn
import HandS.TryOnly
import HandS.Call
import HandS.ExcOwn
import HandS.Words
import HandS.WordsExc
import HandS.Dict
import HandS.Ends
import PySem.Challenge.RW_callfold_k18_whens_and_turns
import Wide.All
import OpenK.AllK
import Wide.FinOn
import HandS.ForDict
set_option Elab.async false
set_option linter.all false
set_option autoImplicit false
set_option maxRecDepth 100000
set_option maxHeartbeats 4000000
/-! Mi0: a small language over data by value, and what its programs need so that they end as wanted. -/
namespace Mi
open PySem (Str)

abbrev Ad := Nat

/-- data: tuples and lists that nobody changes any more stand by value; `ref a` is a thing that may be changed (it stands in Mu);
    a dict is the list of its pairs, each a `tup [k, v]` -/
inductive Val where
  | non | bl (b : Bool) | int (i : Int) | str (s : Str)
  | tup (l : List Val) | lst (l : List Val) | dct (l : List Val)
  | ref (a : Ad)
  | exn (c : String) (l : List Val)
  | ins (c : String) (l : List Val)

abbrev Mu := Ad → Option Val
def Mu.set (μ : Mu) (a : Ad) (v : Val) : Mu := fun b => if b = a then some v else μ b
def Mu.cut (μ' μ : Mu) : Mu := fun a => if (μ a).isSome = true then μ' a else none
abbrev Env := List (Option Val)

def big : Nat := 16777216

def content (μ : Mu) : Val → Option Val
  | .ref a => μ a
  | v => some v
/-! ### plain operations -/
inductive Op where | add | sub | mul | mod | fdiv | pow
inductive Cm where | lt | le | gt | ge
inductive Eqm where | eq | ne
inductive Inm where | isin | notin
inductive Ty where | int | bool | str | list | tuple | dict
inductive Bi where | len | str | int | abs | list | tuple | dict | max | min | maxL | minL | sum | all | any | sorted | setlen | rev | keysL | valsL | sortK
inductive Me where | append | pop | get | extend | reverse | clear | count | index

def CMul (i j : Int) : Prop := (-(2 ^ 64) < i ∧ i < 2 ^ 64) ∨ (-(2 ^ 64) < j ∧ j < 2 ^ 64)
instance (i j : Int) : Decidable (CMul i j) := by unfold CMul; infer_instance

def repL (l : List Val) (k : Int) : List Val := (List.replicate k.toNat l).flatten

def repS (a : Str) (k : Int) : Str := ⟨(List.replicate k.toNat a.cps.toList).flatten.toArray⟩

/-- content of both, then the sum, product .. (none: not told) -/
def binC : Op → Val → Val → Option Val
  | .add, .int i, .int j => some (.int (i + j))
  | .add, .str a, .str b => if a.length + b.length ≤ big then some (.str (a ++ b)) else none
  | .add, .lst a, .lst b => if a.length + b.length ≤ big then some (.lst (a ++ b)) else none
  | .add, .tup a, .tup b => if a.length + b.length ≤ big then some (.tup (a ++ b)) else none
  | .sub, .int i, .int j => some (.int (i - j))
  | .mul, .int i, .int j => if CMul i j then some (.int (i * j)) else none
  | .mul, .str a, .int k => if 1 ≤ k ∧ k < 2 ^ 62 ∧ a.length * k.toNat ≤ big then some (.str (repS a k)) else none
  | .mul, .lst l, .int k => if -(2 ^ 62) ≤ k ∧ k < 2 ^ 62 ∧ l.length * k.toNat ≤ big then some (.lst (repL l k)) else none
  | .mod, .int i, .int j => if j ≠ 0 then some (.int (i.fmod j)) else none
  | .fdiv, .int i, .int j => if j ≠ 0 ∧ j.natAbs < 1073741824 then some (.int (i.fdiv j)) else none
  | .pow, .int i, .int j => if 0 ≤ j ∧ j ≤ 1000000 ∧ i.natAbs < 2 ^ 64 then some (.int (i ^ j.toNat)) else none
  | _, _, _ => none
def binV (μ : Mu) (o : Op) (v w : Val) : Option Val := (content μ v).bind fun a => (content μ w).bind fun b => binC o a b

def cmpI : Cm → Int → Int → Bool
  | .lt, i, j => decide (i < j)
  | .le, i, j => decide (i ≤ j)
  | .gt, i, j => decide (j < i)
  | .ge, i, j => decide (j ≤ i)
def cmpV (c : Cm) : Val → Val → Option Bool
  | .int i, .int j => some (cmpI c i j)
  | _, _ => none

/-- the place that an index names -/
def ixN (n : Nat) (i : Int) : Option Nat := if 0 ≤ i then (if i < n then some i.toNat else none) else if -(n : Int) ≤ i then some (i + n).toNat else none
def atI {α : Type} (xs : List α) (i : Int) : Option α := (ixN xs.length i).bind fun j => xs[j]?

def isKey : Val → Bool
  | .int _ => true
  | .str _ => true
  | _ => false
def keyEq : Val → Val → Bool
  | .int i, .int j => i == j
  | .str i, .str j => i == j
  | _, _ => false
def dLook (k : Val) : List Val → Option Val
  | .tup [k', v] :: r => if keyEq k k' = true then some v else dLook k r
  | _ :: r => dLook k r
  | [] => none
def dPut (k v : Val) : List Val → List Val
  | .tup [k', w] :: r => if keyEq k k' = true then .tup [k', v] :: r else .tup [k', w] :: dPut k v r
  | x :: r => x :: dPut k v r
  | [] => [.tup [k, v]]

def ixC : Val → Val → Option Val
  | .tup l, .int i => atI l i
  | .lst l, .int i => atI l i
  | .str s, .int i => if s.length ≤ big then (atI s.cps.toList i).map fun c => .str ⟨#[c]⟩ else none
  | .dct l, k => if isKey k = true then dLook k l else none
  | _, _ => none
def ixV (μ : Mu) (v i : Val) : Option Val := (content μ v).bind fun a => ixC a i

def sIx (n d : Nat) : Option Int → Nat
  | none => d
  | some i => if i < 0 then (max (i + (n : Int)) 0).toNat else (min i (n : Int)).toNat
def cutL {α : Type} (xs : List α) (lo hi : Option Int) : List α := (xs.drop (sIx xs.length 0 lo)).take (sIx xs.length xs.length hi - sIx xs.length 0 lo)
def slC (v : Val) (lo hi : Option Int) : Option Val :=
  match v with
  | .tup l => some (.tup (cutL l lo hi))
  | .lst l => some (.lst (cutL l lo hi))
  | .str s => if s.length ≤ big then some (.str ⟨(cutL s.cps.toList lo hi).toArray⟩) else none
  | _ => none

def truthC : Val → Option Bool
  | .non => some false
  | .bl b => some b
  | .int i => some (i != 0)
  | .str s => if s.length ≤ big then some (s.length != 0) else none
  | .tup l => some (!l.isEmpty)
  | .lst l => some (!l.isEmpty)
  | _ => none
def truthV (μ : Mu) (v : Val) : Option Bool := (content μ v).bind truthC

/-! == -/
mutual
def eqb : Val → Val → Bool
  | .non, .non => true
  | .bl a, .bl b => a == b
  | .bl a, .int j => (if a then 1 else 0) == j
  | .int i, .bl b => i == (if b then 1 else 0)
  | .int i, .int j => i == j
  | .str x, .str y => x == y
  | .lst xs, .lst ys => eqbL xs ys
  | .tup xs, .tup ys => eqbL xs ys
  | _, _ => false
def eqbL : List Val → List Val → Bool
  | [], [] => true
  | x :: xs, y :: ys => eqb x y && eqbL xs ys
  | _, _ => false
end
mutual
/-- data without things that may change, without dicts -/
def plain : Val → Bool
  | .non => true
  | .bl _ => true
  | .int _ => true
  | .str _ => true
  | .tup l => plainL l
  | .lst l => plainL l
  | _ => false
def plainL : List Val → Bool
  | [] => true
  | v :: r => plain v && plainL r
end
mutual
def dep : Val → Nat
  | .tup l => depL l + 1
  | .lst l => depL l + 1
  | _ => 0
def depL : List Val → Nat
  | [] => 0
  | v :: r => max (dep v) (depL r)
end
def flatEq : Val → Val → Bool
  | .non, .non => true
  | .bl a, .bl b => a == b
  | .int a, .int b => a == b
  | .str a, .str b => a == b
  | _, _ => false
def dctIn (b : List Val) : List Val → Bool
  | [] => true
  | .tup [k, v] :: r => isKey k && (match dLook k b with | some w => flatEq v w | none => false) && dctIn b r
  | _ => false
def eqC : Val → Val → Option Bool
  | .dct a, .dct b => if a.length = b.length ∧ dctIn b a = true then some true else none
  | v, w => if plain v = true ∧ plain w = true ∧ min (dep v) (dep w) ≤ 150 then some (eqb v w) else none
/-- equal: plain ones, dicts of plain ones -/
def eq2 : Val → Val → Bool
  | .dct a, .dct b => decide (a.length = b.length) && dctIn b a
  | v, w => plain v && plain w && decide (min (dep v) (dep w) ≤ 100) && eqb v w
def eq2L : List Val → List Val → Bool
  | [], [] => true
  | v :: r, w :: t => eq2 v w && eq2L r t
  | _, _ => false
/-- tuples, dicts within, that are equal -/
def eqT : Val → Val → Option Bool
  | .tup a, .tup b => if eq2L a b = true then some true else none
  | _, _ => none
def eqV (μ : Mu) (v w : Val) : Option Bool := (content μ v).bind fun a => (content μ w).bind fun b => match eqC a b with
  | some r => some r
  | none => eqT a b
def inV (μ : Mu) (x c : Val) : Option Bool :=
  match content μ c with
  | some (.tup l) => if plain x = true ∧ plainL l = true ∧ min (dep x) (depL l) ≤ 150 then some (l.any fun y => eqb y x) else none
  | some (.lst l) => if plain x = true ∧ plainL l = true ∧ min (dep x) (depL l) ≤ 150 then some (l.any fun y => eqb y x) else none
  | some (.dct l) => if isKey x = true then some (dLook x l).isSome else none
  | _ => none

def tyC : Ty → Val → Option Bool
  | .int, .int _ => some true
  | .int, .bl _ => some true
  | .bool, .bl _ => some true
  | .str, .str _ => some true
  | .list, .lst _ => some true
  | .tuple, .tup _ => some true
  | .dict, .dct _ => some true
  | _, .exn _ _ => none
  | _, .ins _ _ => none
  | _, .ref _ => none
  | _, _ => some false
def tyV (μ : Mu) (t : Ty) (v : Val) : Option Bool := (content μ v).bind (tyC t)

/-- the classes of refusals: what except and isinstance look at -/
def isSub (c d : String) : Bool := c == d || d == "FoldError" || d == "ValueError"

/-! ### built-ins -/
def strI (i : Int) : Str := Str.ofString (toString i)
def lenF (μ : Mu) : List Val → Option Val
  | [v] => match content μ v with
    | some (.tup l) => some (.int l.length)
    | some (.lst l) => some (.int l.length)
    | some (.str s) => if s.length ≤ big then some (.int s.length) else none
    | some (.dct l) => some (.int l.length)
    | _ => none
  | _ => none
def strF : List Val → Option Val
  | [.int i] => if i.natAbs.log2 < 1920 then some (.str (strI i)) else none
  | _ => none
def intF : List Val → Option Val
  | [.bl b] => some (.int (if b = true then 1 else 0))
  | _ => none
def absF : List Val → Option Val
  | [.int i] => some (.int i.natAbs)
  | _ => none
def listF (μ : Mu) : List Val → Option Val
  | [v] => match content μ v with
    | some (.tup l) => some (.lst l)
    | some (.lst l) => some (.lst l)
    | _ => none
  | _ => none
def tupleF (μ : Mu) : List Val → Option Val
  | [v] => match content μ v with
    | some (.tup l) => some (.tup l)
    | some (.lst l) => some (.tup l)
    | _ => none
  | _ => none
def dictF (μ : Mu) : List Val → Option Val
  | [v] => match content μ v with
    | some (.dct l) => some (.dct l)
    | _ => none
  | _ => none
def intsOf : List Val → Option (List Int)
  | [] => some []
  | .int i :: r => (intsOf r).map (i :: ·)
  | _ => none
def boolsOf : List Val → Option (List Bool)
  | [] => some []
  | .bl i :: r => (boolsOf r).map (i :: ·)
  | _ => none
/-- a list's or a tuple's items -/
def seqOf (μ : Mu) (v : Val) : Option (List Val) := match content μ v with
  | some (.lst l) => some l
  | some (.tup l) => some l
  | _ => none
def lstOf (μ : Mu) (v : Val) : Option (List Val) := match content μ v with
  | some (.lst l) => some l
  | _ => none
def maxL : List Int → Option Int
  | [] => none
  | i :: r => some (r.foldl max i)
def minL : List Int → Option Int
  | [] => none
  | i :: r => some (r.foldl min i)
def sortI (l : List Int) : List Int := l.mergeSort fun a b => decide (a ≤ b)
def maxF : List Val → Option Val
  | [.int i, .int j] => some (.int (if j > i then j else i))
  | _ => none
def minF : List Val → Option Val
  | [.int i, .int j] => some (.int (if j < i then j else i))
  | _ => none
def maxLF (μ : Mu) : List Val → Option Val
  | [v] => (lstOf μ v).bind fun l => (intsOf l).bind fun ns => (maxL ns).map Val.int
  | _ => none
def minLF (μ : Mu) : List Val → Option Val
  | [v] => (lstOf μ v).bind fun l => (intsOf l).bind fun ns => (minL ns).map Val.int
  | _ => none
def sumF (μ : Mu) : List Val → Option Val
  | [v] => (lstOf μ v).bind fun l => (intsOf l).bind fun ns => some (.int ns.sum)
  | _ => none
def allF (μ : Mu) : List Val → Option Val
  | [v] => (lstOf μ v).bind fun l => (boolsOf l).bind fun bs => some (.bl (bs.all id))
  | _ => none
def anyF (μ : Mu) : List Val → Option Val
  | [v] => (lstOf μ v).bind fun l => (boolsOf l).bind fun bs => some (.bl (bs.any id))
  | _ => none
def sortedF (μ : Mu) : List Val → Option Val
  | [v] => (lstOf μ v).bind fun l => (intsOf l).bind fun ns => some (.lst ((sortI ns).map .int))
  | _ => none
def revF (μ : Mu) : List Val → Option Val
  | [v] => match content μ v with
    | some (.lst l) => some (.lst l.reverse)
    | some (.tup l) => some (.tup l.reverse)
    | _ => none
  | _ => none
/-- the different ones, in the order in which they come -/
def distK (l : List Val) : List Val := l.foldl (fun acc v => if acc.any (fun x => keyEq x v) = true then acc else acc ++ [v]) []
def setlenF (μ : Mu) : List Val → Option Val
  | [v] => match content μ v with
    | some (.lst l) => if l.all isKey = true ∧ l.length < 4000 then some (.int (distK l).length) else none
    | some (.tup l) => if l.all isKey = true ∧ l.length < 4000 then some (.int (distK l).length) else none
    | _ => none
  | _ => none
def dKeys : List Val → List Val
  | [] => []
  | .tup [k, _] :: r => k :: dKeys r
  | _ :: r => dKeys r
def dVals : List Val → List Val
  | [] => []
  | .tup [_, v] :: r => v :: dVals r
  | _ :: r => dVals r
def keysF (μ : Mu) : List Val → Option Val
  | [v] => match content μ v with
    | some (.dct l) => (intsOf (dKeys l)).bind fun ns => some (.lst (ns.map .int))
    | _ => none
  | _ => none
def valsF (μ : Mu) : List Val → Option Val
  | [v] => match content μ v with
    | some (.dct l) => some (.lst (dVals l))
    | _ => none
  | _ => none
def sortKF (μ : Mu) : List Val → Option Val
  | [v] => match content μ v with
    | some (.dct l) => (intsOf (dKeys l)).bind fun ns => if ns.length < 64 then some (.lst ((sortI ns).map .int)) else none
    | _ => none
  | _ => none
def biV (μ : Mu) (b : Bi) (vs : List Val) : Option Val :=
  match b with
  | .len => lenF μ vs
  | .str => strF vs
  | .int => intF vs
  | .abs => absF vs
  | .list => listF μ vs
  | .tuple => tupleF μ vs
  | .dict => dictF μ vs
  | .max => maxF vs
  | .min => minF vs
  | .maxL => maxLF μ vs
  | .minL => minLF μ vs
  | .sum => sumF μ vs
  | .all => allF μ vs
  | .any => anyF μ vs
  | .sorted => sortedF μ vs
  | .setlen => setlenF μ vs
  | .rev => revF μ vs
  | .keysL => keysF μ vs
  | .valsL => valsF μ vs
  | .sortK => sortKF μ vs

/-- the fields of the program's classes, in the order in which they are set -/
def fieldsOf (c : String) : List String :=
  if c = "Running" then ["book", "said", "begun_rows", "begun_rounds", "made_calls", "counts", "way", "ways"] else []
def fIx (c f : String) : Option Nat := (fieldsOf c).idxOf? f
def attrV (μ : Mu) (v : Val) (f : String) : Option Val := match v with
  | .ref a => match μ a with
    | some (.ins c l) => (fIx c f).bind fun i => l[i]?
    | _ => none
  | _ => none
def setAttrV (μ : Mu) (v : Val) (f : String) (y : Val) : Option Mu := match v with
  | .ref a => match μ a with
    | some (.ins c l) => (fIx c f).bind fun i => if i < l.length then some (μ.set a (.ins c (l.set i y))) else if i = l.length then some (μ.set a (.ins c (l ++ [y]))) else none
    | _ => none
  | _ => none
def isIns (μ : Mu) (v : Val) (c : String) : Bool := match v with
  | .ref a => match μ a with
    | some (.ins d _) => d == c
    | _ => false
  | _ => false
def isLst (μ : Mu) (v : Val) : Bool := match content μ v with
  | some (.lst _) => true
  | _ => false
def isDct (μ : Mu) (v : Val) : Bool := match content μ v with
  | some (.dct _) => true
  | _ => false
/-- what a method is asked of -/
def meOk (μ : Mu) (m : Me) (v : Val) : Bool :=
  match m with
  | .append => isLst μ v
  | .pop => isLst μ v
  | .extend => isLst μ v
  | .get => isDct μ v
  | .reverse => isLst μ v
  | .clear => isLst μ v
  | .count => isLst μ v
  | .index => isLst μ v
def appendF (μ : Mu) : Val → List Val → Option (Val × Mu)
  | .ref a, [x] => match μ a with
    | some (.lst l) => if l.length < big then some (.non, μ.set a (.lst (l ++ [x]))) else none
    | _ => none
  | _, _ => none
def popF (μ : Mu) : Val → List Val → Option (Val × Mu)
  | .ref a, [] => match μ a with
    | some (.lst l) => (l[l.length - 1]?).map fun x => (x, μ.set a (.lst l.dropLast))
    | _ => none
  | .ref a, [.int i] => match μ a with
    | some (.lst l) => if l.length ≤ big then (ixN l.length i).bind fun k => (l[k]?).map fun x => (x, μ.set a (.lst (l.eraseIdx k))) else none
    | _ => none
  | _, _ => none
def extendF (μ : Mu) : Val → List Val → Option (Val × Mu)
  | .ref a, [v] => match μ a with
    | some (.lst l) => (seqOf μ v).bind fun r => if l.length + r.length ≤ big then some (.non, μ.set a (.lst (l ++ r))) else none
    | _ => none
  | _, _ => none
def reverseF (μ : Mu) : Val → List Val → Option (Val × Mu)
  | .ref a, [] => match μ a with
    | some (.lst l) => some (.non, μ.set a (.lst l.reverse))
    | _ => none
  | _, _ => none
def clearF (μ : Mu) : Val → List Val → Option (Val × Mu)
  | .ref a, [] => match μ a with
    | some (.lst _) => some (.non, μ.set a (.lst []))
    | _ => none
  | _, _ => none
def getF (μ : Mu) (v : Val) : List Val → Option (Val × Mu)
  | [k, d] => match content μ v with
    | some (.dct l) => if isKey k = true then some ((dLook k l).getD d, μ) else none
    | _ => none
  | _ => none
def countF (μ : Mu) (v : Val) : List Val → Option (Val × Mu)
  | [.bl b] => (lstOf μ v).bind fun l => (boolsOf l).bind fun bs => some (.int (bs.count b), μ)
  | _ => none
def indexF (μ : Mu) (v : Val) : List Val → Option (Val × Mu)
  | [.bl b] => (lstOf μ v).bind fun l => (boolsOf l).bind fun bs => if b ∈ bs then some (.int (bs.idxOf b), μ) else none
  | _ => none
/-- a built-in method: what it hands back, and what stands behind it -/
def meV (μ : Mu) (m : Me) (v : Val) (vs : List Val) : Option (Val × Mu) :=
  match m with
  | .append => appendF μ v vs
  | .pop => popF μ v vs
  | .extend => extendF μ v vs
  | .get => getF μ v vs
  | .reverse => reverseF μ v vs
  | .clear => clearF μ v vs
  | .count => countF μ v vs
  | .index => indexF μ v vs

/-- o[i] = v -/
def setV (μ : Mu) : Val → Val → Val → Option Mu
  | .ref a, i, v => match μ a, i with
    | some (.lst l), .int k => (ixN l.length k).map fun j => μ.set a (.lst (l.set j v))
    | some (.dct l), k => if isKey k = true ∧ l.length < big then some (μ.set a (.dct (dPut k v l))) else none
    | _, _ => none
  | _, _, _ => none

/-! ### the language -/
/-- how a def hands back: data by value, all that it made forgotten; one new thing; all as it stands -/
inductive Md where | val | obj | keep
inductive Tg where | n (i : Nat) | t (l : List Tg)

mutual
inductive E where
  | v (i : Nat)
  | c (v : Val)
  | tup (l : Es) | lst (l : Es) | dct (l : Es)
  | ix (a b : E) | sl (a : E) (lo hi : Es)
  | bin (o : Op) (a b : E) | cmp (o : Cm) (a b : E) | eq (o : Eqm) (a b : E) | isin (o : Inm) (a b : E)
  | isN (neg : Bool) (a : E)
  | chain (o p : Cm) (a b c : E)
  | neg (a : E) | not (a : E) | and (a b : E) | or (a b : E) | ite (c a b : E)
  | call (f : String) (m : Md) (l : Es)
  | bi (b : Bi) (l : Es)
  | me (m : Me) (o : E) (l : Es)
  | isT (a : E) (t : Ty)
  | isC (a : E) (c : String)
  | attr (a : E) (f : String)
  | mth (c : String) (o : E) (f : String) (m : Md) (l : Es)
  | mk (c : String) (f : String) (l : Es)
  | comp (elt : E) (tg : Tg) (own : List Nat) (it : It) (cond : E)
  | new (a : E)
inductive Es where
  | nil | cons (a : E) (r : Es)
inductive It where
  | e (a : E) | range (a : E) | range2 (a b : E) | enum (a : E) | zip (a b : E)
end

inductive S where
  | skip | seq (a b : S)
  | ex (e : E)
  | asg (i : Nat) (e : E)
  | asgT (t : Tg) (e : E)
  | setix (o i e : E)
  | setattr (o : E) (f : String) (e : E)
  | ite (c : E) (a b : S)
  | forS (t : Tg) (it : It) (b : S)
  | whileS (c : E) (b : S)
  | ret (e : E)
  | raise (c : String)
  | tryS (b : S) (cs : List String) (slot : Option Nat) (h : S)

structure Fn where
  ps : Nat
  slots : Nat
  body : S

/-! ### what is wanted -/
abbrev XQ := Val → Mu → Prop
/-- what calls do; the exception that is held, by class and place -/
structure Ph where
  call : String → Md → List Val → Mu → (Val → Mu → Prop) → XQ → Prop
  pin : Option (String × Ad)
instance : CoeFun Ph (fun _ => String → Md → List Val → Mu → (Val → Mu → Prop) → XQ → Prop) := ⟨Ph.call⟩
def Ph.at (Φ : Ph) (c : String) (a : Ad) : Ph := ⟨Φ.call, some (c, a)⟩
/-- what isinstance of the held exception answers -/
def pinQ (o : Option (String × Ad)) (v : Val) (c : String) (Q : Bool → Prop) : Prop := match o, v with
  | some (d, q), .ref p => p = q ∧ Q (isSub d c)
  | _, _ => False

mutual
def Tg.asg : Tg → Val → Env → Option Env
  | .n i, v, env => some (env.set i (some v))
  | .t l, .tup vs, env => if l.length = vs.length then asgL l vs env else none
  | .t l, .lst vs, env => if l.length = vs.length then asgL l vs env else none
  | .t _, _, _ => none
def asgL : List Tg → List Val → Env → Option Env
  | [], [], env => some env
  | t :: ts, v :: vs, env => (t.asg v env).bind fun e => asgL ts vs e
  | _, _, _ => none
end

def wipe (env : Env) : List Nat → Env
  | [] => env
  | v :: vs => (wipe env vs).set v none

/-- what is walked stands while it is walked -/
def gOk (a : Option (Ad × List Val)) (μ : Mu) : Prop := match a with
  | none => True
  | some (a, l) => μ a = some (.lst l)
def guard (v : Val) (l : List Val) : Option (Ad × List Val) := match v with
  | .ref a => some (a, l)
  | _ => none

def loopC (g : Mu → Prop) (step : Val → Mu → (Option Val → Mu → Prop) → Prop) : List Val → List Val → Mu → (List Val → Mu → Prop) → Prop
  | [], acc, μ, Q => g μ ∧ Q acc μ
  | v :: r, acc, μ, Q => g μ ∧ step v μ fun o μ' => match o with
    | some y => acc.length < big ∧ loopC g step r (acc ++ [y]) μ' Q
    | none => loopC g step r acc μ' Q
def loopF (g : Mu → Prop) (step : Val → Env → Mu → (Env → Mu → Prop) → Prop) (nx : Env → Mu → Prop) : List Val → Env → Mu → Prop
  | [], env, μ => g μ ∧ nx env μ
  | v :: r, env, μ => g μ ∧ step v env μ fun env' μ' => loopF g step nx r env' μ'
def loopW (step : Env → Mu → (Env → Mu → Prop) → Prop) : Nat → Env → Mu → Prop
  | 0, _, _ => False
  | n + 1, env, μ => step env μ fun env' μ' => loopW step n env' μ'

def intsFrom (i : Int) (n : Nat) : List Val := (List.range n).map fun (k : Nat) => Val.int (i + (k : Int))
def enumL (i : Int) : List Val → List Val
  | [] => []
  | v :: r => .tup [.int i, v] :: enumL (i + 1) r
def zipL : List Val → List Val → List Val
  | v :: r, w :: t => .tup [v, w] :: zipL r t
  | _, _ => []
def isCont : Val → Bool
  | .lst _ => true
  | .dct _ => true
  | _ => false
def optInt : List Val → Option (Option Int)
  | [] => some none
  | [.int i] => some (some i)
  | _ => none

mutual
def wpE (Φ : Ph) : E → Env → Mu → (Val → Mu → Prop) → XQ → Prop
  | .v i, env, μ, Q, _ => match env[i]? with
    | some (some v) => Q v μ
    | _ => False
  | .c v, _, μ, Q, _ => Q v μ
  | .tup l, env, μ, Q, X => wpEs Φ l env μ (fun vs μ' => Q (.tup vs) μ') X
  | .lst l, env, μ, Q, X => wpEs Φ l env μ (fun vs μ' => Q (.lst vs) μ') X
  | .dct l, env, μ, Q, X => wpEs Φ l env μ (fun vs μ' => Q (.dct vs) μ') X
  | .ix a b, env, μ, Q, X => wpE Φ a env μ (fun v μ1 => wpE Φ b env μ1 (fun w μ2 => match ixV μ2 v w with
    | some r => Q r μ2
    | none => False) X) X
  | .sl a lo hi, env, μ, Q, X => wpE Φ a env μ (fun v μ1 => wpEs Φ lo env μ1 (fun l μ2 => match optInt l with
    | some l' => wpEs Φ hi env μ2 (fun h μ3 => match optInt h with
      | some h' => match (content μ3 v).bind fun c => slC c l' h' with
        | some r => Q r μ3
        | none => False
      | none => False) X
    | none => False) X) X
  | .bin o a b, env, μ, Q, X => wpE Φ a env μ (fun v μ1 => wpE Φ b env μ1 (fun w μ2 => match binV μ2 o v w with
    | some r => Q r μ2
    | none => False) X) X
  | .cmp o a b, env, μ, Q, X => wpE Φ a env μ (fun v μ1 => wpE Φ b env μ1 (fun w μ2 => match cmpV o v w with
    | some r => Q (.bl r) μ2
    | none => False) X) X
  | .eq o a b, env, μ, Q, X => wpE Φ a env μ (fun v μ1 => wpE Φ b env μ1 (fun w μ2 => match eqV μ2 v w with
    | some r => Q (.bl (match o with | .eq => r | .ne => !r)) μ2
    | none => False) X) X
  | .isin o a b, env, μ, Q, X => wpE Φ a env μ (fun v μ1 => wpE Φ b env μ1 (fun w μ2 => match inV μ2 v w with
    | some r => Q (.bl (match o with | .isin => r | .notin => !r)) μ2
    | none => False) X) X
  | .isN neg a, env, μ, Q, X => wpE Φ a env μ (fun v μ' => Q (.bl (match v with | .non => !neg | _ => neg)) μ') X
  | .chain o p a b c, env, μ, Q, X => wpE Φ a env μ (fun v μ1 => wpE Φ b env μ1 (fun w μ2 => match cmpV o v w with
    | some true => wpE Φ c env μ2 (fun u μ3 => match cmpV p w u with
      | some r => Q (.bl r) μ3
      | none => False) X
    | some false => Q (.bl false) μ2
    | none => False) X) X
  | .neg a, env, μ, Q, X => wpE Φ a env μ (fun v μ' => match v with
    | .int i => Q (.int (-i)) μ'
    | _ => False) X
  | .not a, env, μ, Q, X => wpE Φ a env μ (fun v μ' => match truthV μ' v with
    | some b => Q (.bl !b) μ'
    | none => False) X
  | .and a b, env, μ, Q, X => wpE Φ a env μ (fun v μ' => match truthV μ' v with
    | some true => wpE Φ b env μ' Q X
    | some false => Q v μ'
    | none => False) X
  | .or a b, env, μ, Q, X => wpE Φ a env μ (fun v μ' => match truthV μ' v with
    | some true => Q v μ'
    | some false => wpE Φ b env μ' Q X
    | none => False) X
  | .ite c a b, env, μ, Q, X => wpE Φ c env μ (fun v μ' => match truthV μ' v with
    | some true => wpE Φ a env μ' Q X
    | some false => wpE Φ b env μ' Q X
    | none => False) X
  | .call f m l, env, μ, Q, X => wpEs Φ l env μ (fun vs μ' => Φ f m vs μ' Q X) X
  | .bi b l, env, μ, Q, X => wpEs Φ l env μ (fun vs μ' => match biV μ' b vs with
    | some r => Q r μ'
    | none => False) X
  | .me m o l, env, μ, Q, X => wpE Φ o env μ (fun v μ1 => meOk μ1 m v = true ∧ wpEs Φ l env μ1 (fun vs μ2 => match meV μ2 m v vs with
    | some (r, μ3) => Q r μ3
    | none => False) X) X
  | .isT a t, env, μ, Q, X => wpE Φ a env μ (fun v μ' => match tyV μ' t v with
    | some b => Q (.bl b) μ'
    | none => False) X
  | .isC a c, env, μ, Q, X => wpE Φ a env μ (fun v μ' => pinQ Φ.pin v c fun b => Q (.bl b) μ') X
  | .attr a f, env, μ, Q, X => wpE Φ a env μ (fun v μ' => match attrV μ' v f with
    | some r => Q r μ'
    | none => False) X
  | .mth c o f m l, env, μ, Q, X => wpE Φ o env μ (fun v μ1 => isIns μ1 v c = true ∧ wpEs Φ l env μ1 (fun vs μ2 => Φ f m (v :: vs) μ2 Q X) X) X
  | .mk c f l, env, μ, Q, X => wpEs Φ l env μ (fun vs μ1 => ∀ p, μ1 p = none → Φ f .keep (.ref p :: vs) (μ1.set p (.ins c [])) (fun r μ2 => match r with
    | .non => Q (.ref p) μ2
    | _ => False) X) X
  | .comp elt tg own it cond, env, μ, Q, X => wpI Φ it env μ (fun l a μ1 => loopC (gOk a) (fun v μ2 R => match tg.asg v (wipe env own) with
    | some env' => wpE Φ cond env' μ2 (fun t μ3 => match truthV μ3 t with
      | some true => wpE Φ elt env' μ3 (fun y μ4 => R (some y) μ4) fun _ _ => False
      | some false => R none μ3
      | none => False) fun _ _ => False
    | none => False) l [] μ1 fun r μ' => Q (.lst r) μ') X
  | .new a, env, μ, Q, X => wpE Φ a env μ (fun v μ' => isCont v = true ∧ ∀ p, μ' p = none → Q (.ref p) (μ'.set p v)) X
def wpEs (Φ : Ph) : Es → Env → Mu → (List Val → Mu → Prop) → XQ → Prop
  | .nil, _, μ, Q, _ => Q [] μ
  | .cons a r, env, μ, Q, X => wpE Φ a env μ (fun v μ1 => wpEs Φ r env μ1 (fun vs μ2 => Q (v :: vs) μ2) X) X
def wpI (Φ : Ph) : It → Env → Mu → (List Val → Option (Ad × List Val) → Mu → Prop) → XQ → Prop
  | .e a, env, μ, Q, X => wpE Φ a env μ (fun v μ' => match content μ' v with
    | some (.lst l) => Q l (guard v l) μ'
    | some (.tup l) => Q l none μ'
    | some (.str s) => Q (s.cps.toList.map fun c => .str ⟨#[c]⟩) none μ'
    | _ => False) X
  | .range a, env, μ, Q, X => wpE Φ a env μ (fun v μ' => match v with
    | .int j => -(2 ^ 62) ≤ j ∧ j < 2 ^ 62 ∧ Q (intsFrom 0 j.toNat) none μ'
    | _ => False) X
  | .range2 a b, env, μ, Q, X => wpE Φ a env μ (fun v μ1 => wpE Φ b env μ1 (fun w μ2 => match v, w with
    | .int i, .int j => (-(2 ^ 62) ≤ i ∧ i < 2 ^ 62 ∧ -(2 ^ 62) ≤ j ∧ j < 2 ^ 62) ∧ Q (intsFrom i (j - i).toNat) none μ2
    | _, _ => False) X) X
  | .enum a, env, μ, Q, X => wpE Φ a env μ (fun v μ' => match content μ' v with
    | some (.lst l) => Q (enumL 0 l) (guard v l) μ'
    | _ => False) X
  | .zip a b, env, μ, Q, X => wpE Φ a env μ (fun v μ1 => wpE Φ b env μ1 (fun w μ2 => match seqOf μ2 v, seqOf μ2 w with
    | some l, some l2 => guard v l = none ∧ Q (zipL l l2) (guard w l2) μ2
    | _, _ => False) X) X
end

structure En where
  nx : Env → Mu → Prop
  rt : Val → Mu → Prop
  ex : Val → Env → Mu → Prop

def wpS : Ph → S → Env → Mu → En → Prop
  | Φ, .skip, env, μ, D => D.nx env μ
  | Φ, .seq a b, env, μ, D => wpS Φ a env μ { D with nx := fun env' μ' => wpS Φ b env' μ' D }
  | Φ, .ex e, env, μ, D => wpE Φ e env μ (fun _ μ' => D.nx env μ') fun x μ' => D.ex x env μ'
  | Φ, .asg i e, env, μ, D => wpE Φ e env μ (fun v μ' => D.nx (env.set i (some v)) μ') fun x μ' => D.ex x env μ'
  | Φ, .asgT t e, env, μ, D => wpE Φ e env μ (fun v μ' => match t.asg v env with
    | some env' => D.nx env' μ'
    | none => False) fun x μ' => D.ex x env μ'
  | Φ, .setix o i e, env, μ, D => wpE Φ e env μ (fun v μ1 => wpE Φ o env μ1 (fun ov μ2 => wpE Φ i env μ2 (fun iv μ3 => match setV μ3 ov iv v with
    | some μ4 => D.nx env μ4
    | none => False) fun x μ' => D.ex x env μ') fun x μ' => D.ex x env μ') fun x μ' => D.ex x env μ'
  | Φ, .setattr o f e, env, μ, D => wpE Φ e env μ (fun v μ1 => wpE Φ o env μ1 (fun ov μ2 => match setAttrV μ2 ov f v with
    | some μ3 => D.nx env μ3
    | none => False) fun x μ' => D.ex x env μ') fun x μ' => D.ex x env μ'
  | Φ, .ite c a b, env, μ, D => wpE Φ c env μ (fun v μ' => match truthV μ' v with
    | some true => wpS Φ a env μ' D
    | some false => wpS Φ b env μ' D
    | none => False) fun x μ' => D.ex x env μ'
  | Φ, .forS t it b, env, μ, D => wpI Φ it env μ (fun l a μ1 => loopF (gOk a) (fun v env' μ' R => match t.asg v env' with
    | some env2 => wpS Φ b env2 μ' { D with nx := R }
    | none => False) D.nx l env μ1) fun x μ' => D.ex x env μ'
  | Φ, .whileS c b, env, μ, D => ∃ n, loopW (fun env' μ' R => wpE Φ c env' μ' (fun v μ1 => match truthV μ1 v with
    | some true => wpS Φ b env' μ1 { D with nx := R }
    | some false => D.nx env' μ1
    | none => False) fun x μ1 => D.ex x env' μ1) n env μ
  | Φ, .ret e, env, μ, D => wpE Φ e env μ (fun v μ' => D.rt v μ') fun x μ' => D.ex x env μ'
  | Φ, .raise c, env, μ, D => D.ex (.exn c []) env μ
  | Φ, .tryS b cs none h, env, μ, D => wpS Φ b env μ { D with ex := fun x env' μ' => match x with
    | .exn c l => if (cs.any fun d => isSub c d) = true then wpS Φ h env' μ' D else D.ex x env' μ'
    | _ => False }
  | Φ, .tryS b cs (some i) h, env, μ, D => wpS Φ b env μ { D with ex := fun x env' μ' => match x with
    | .exn c l => if (cs.any fun d => isSub c d) = true then ∀ a, μ' a = none → wpS (Φ.at c a) h (env'.set i (some (.ref a))) μ' { D with nx := fun e2 μ2 => D.nx (e2.set i none) μ2 } else D.ex x env' μ'
    | _ => False }

/-! ### calls -/
mutual
def mapRef (f : Ad → Option Val) : Val → Val
  | .ref a => (f a).getD (.ref a)
  | .tup l => .tup (mapRefL f l)
  | .lst l => .lst (mapRefL f l)
  | .dct l => .dct (mapRefL f l)
  | .exn c l => .exn c (mapRefL f l)
  | .ins c l => .ins c (mapRefL f l)
  | v => v
def mapRefL (f : Ad → Option Val) : List Val → List Val
  | [] => []
  | v :: r => mapRef f v :: mapRefL f r
end
/-- data by value: new things of μ' are read to the depth n -/
def resoF (μ μ' : Mu) : Nat → Ad → Option Val
  | 0 => fun _ => none
  | n + 1 => fun a => if (μ a).isSome = true then none else (μ' a).map (mapRef (resoF μ μ' n))
def reso (μ μ' : Mu) (n : Nat) (v : Val) : Val := mapRef (resoF μ μ' n) v

def finM (m : Md) (μ : Mu) (Q : Val → Mu → Prop) (v : Val) (μ' : Mu) : Prop :=
  match m with
  | .keep => Q v μ'
  | .val => Q (reso μ μ' 4 v) (μ'.cut μ)
  | .obj => match v with
    | .ref p => μ p = none ∧ match μ' p with
      | some c => Q (.ref p) ((μ'.cut μ).set p (reso (μ.set p c) μ' 4 c))
      | none => False
    | _ => False

def Prog := String → Option Fn
def phi (P : Prog) : Nat → Ph
  | 0 => ⟨fun _ _ _ _ _ _ => False, none⟩
  | n + 1 => ⟨fun f m args μ Q X => match P f with
    | some d => args.length = d.ps ∧ wpS (phi P n) d.body (args.map some ++ List.replicate (d.slots - d.ps) none) μ
        { nx := fun _ μ' => finM m μ Q .non μ', rt := fun v μ' => finM m μ Q v μ', ex := fun x _ μ' => X (reso μ μ' 4 x) (match m with | .keep => μ' | _ => μ'.cut μ) }
    | none => False, none⟩
theorem phi_succ {P : Prog} {n : Nat} {f : String} {m : Md} {args : List Val} {μ : Mu} {Q : Val → Mu → Prop} {X : XQ} : (phi P (n + 1)).call f m args μ Q X = (match P f with
    | some d => args.length = d.ps ∧ wpS (phi P n) d.body (args.map some ++ List.replicate (d.slots - d.ps) none) μ
        { nx := fun _ μ' => finM m μ Q .non μ', rt := fun v μ' => finM m μ Q v μ', ex := fun x _ μ' => X (reso μ μ' 4 x) (match m with | .keep => μ' | _ => μ'.cut μ) }
    | none => False) := rfl

end Mi
/-! Mi1: what is wanted may be weakened. -/
namespace Mi

def MonoP (Φ : Ph) : Prop := ∀ f m args μ (Q Q' : Val → Mu → Prop) (X X' : XQ), (∀ v μ, Q v μ → Q' v μ) → (∀ v μ, X v μ → X' v μ) → Φ f m args μ Q X → Φ f m args μ Q' X'

theorem loopC_mono {g : Mu → Prop} {step step' : Val → Mu → (Option Val → Mu → Prop) → Prop} (hs : ∀ v μ (R R' : Option Val → Mu → Prop), (∀ o μ, R o μ → R' o μ) → step v μ R → step' v μ R') :
    ∀ (l acc : List Val) (μ : Mu) (Q Q' : List Val → Mu → Prop), (∀ r μ, Q r μ → Q' r μ) → loopC g step l acc μ Q → loopC g step' l acc μ Q'
  | [], _, _, _, _, h, q => ⟨q.1, h _ _ q.2⟩
  | v :: r, acc, μ, Q, Q', h, q => ⟨q.1, hs v μ _ _ (fun o μ' z => by
      cases o with
      | none => exact loopC_mono hs r _ _ _ _ h z
      | some y => exact ⟨z.1, loopC_mono hs r _ _ _ _ h z.2⟩) q.2⟩
theorem loopF_mono {g : Mu → Prop} {step step' : Val → Env → Mu → (Env → Mu → Prop) → Prop} {nx nx' : Env → Mu → Prop} (hs : ∀ v env μ (R R' : Env → Mu → Prop), (∀ e μ, R e μ → R' e μ) → step v env μ R → step' v env μ R') (hn : ∀ e μ, nx e μ → nx' e μ) :
    ∀ (l : List Val) (env : Env) (μ : Mu), loopF g step nx l env μ → loopF g step' nx' l env μ
  | [], _, _, q => ⟨q.1, hn _ _ q.2⟩
  | v :: r, env, μ, q => ⟨q.1, hs v env μ _ _ (fun e μ' z => loopF_mono hs hn r e μ' z) q.2⟩
theorem loopW_mono {step step' : Env → Mu → (Env → Mu → Prop) → Prop} (hs : ∀ env μ (R R' : Env → Mu → Prop), (∀ e μ, R e μ → R' e μ) → step env μ R → step' env μ R') :
    ∀ (n : Nat) (env : Env) (μ : Mu), loopW step n env μ → loopW step' n env μ
  | 0, _, _, q => q
  | n + 1, env, μ, q => hs env μ _ _ (fun e μ' z => loopW_mono hs n e μ' z) q

theorem pinQ_mono {o : Option (String × Ad)} {v : Val} {c : String} {Q Q' : Bool → Prop} (h : ∀ b, Q b → Q' b) (z : pinQ o v c Q) : pinQ o v c Q' := by
  unfold pinQ at z ⊢
  split at z
  · exact ⟨z.1, h _ z.2⟩
  · exact z.elim
section
variable {Φ : Ph} (hΦ : MonoP Φ)
include hΦ
mutual
theorem wpE_mono : ∀ (e : E) (env : Env) (μ : Mu) (Q Q' : Val → Mu → Prop) (X X' : XQ), (∀ v μ, Q v μ → Q' v μ) → (∀ v μ, X v μ → X' v μ) → wpE Φ e env μ Q X → wpE Φ e env μ Q' X'
  | .v i, env, μ, Q, Q', X, X', hQ, hX, q => by
    simp only [wpE] at q ⊢
    split at q
    · exact hQ _ _ q
    · exact q.elim
  | .c v, env, μ, Q, Q', X, X', hQ, hX, q => hQ _ _ q
  | .tup l, env, μ, Q, Q', X, X', hQ, hX, q => wpEs_mono l env μ _ _ X X' (fun vs μ' z => hQ _ _ z) hX q
  | .lst l, env, μ, Q, Q', X, X', hQ, hX, q => wpEs_mono l env μ _ _ X X' (fun vs μ' z => hQ _ _ z) hX q
  | .dct l, env, μ, Q, Q', X, X', hQ, hX, q => wpEs_mono l env μ _ _ X X' (fun vs μ' z => hQ _ _ z) hX q
  | .ix a b, env, μ, Q, Q', X, X', hQ, hX, q => wpE_mono a env μ _ _ X X' (fun v μ1 z => wpE_mono b env μ1 _ _ X X' (fun w μ2 y => by
      split at y
      · exact hQ _ _ y
      · exact y.elim) hX z) hX q
  | .sl a lo hi, env, μ, Q, Q', X, X', hQ, hX, q => wpE_mono a env μ _ _ X X' (fun v μ1 z => wpEs_mono lo env μ1 _ _ X X' (fun w μ2 y => by
      split at y
      · exact wpEs_mono hi env μ2 _ _ X X' (fun h μ3 x => by
          split at x
          · split at x
            · exact hQ _ _ x
            · exact x.elim
          · exact x.elim) hX y
      · exact y.elim) hX z) hX q
  | .bin o a b, env, μ, Q, Q', X, X', hQ, hX, q => wpE_mono a env μ _ _ X X' (fun v μ1 z => wpE_mono b env μ1 _ _ X X' (fun w μ2 y => by
      split at y
      · exact hQ _ _ y
      · exact y.elim) hX z) hX q
  | .cmp o a b, env, μ, Q, Q', X, X', hQ, hX, q => wpE_mono a env μ _ _ X X' (fun v μ1 z => wpE_mono b env μ1 _ _ X X' (fun w μ2 y => by
      split at y
      · exact hQ _ _ y
      · exact y.elim) hX z) hX q
  | .eq o a b, env, μ, Q, Q', X, X', hQ, hX, q => wpE_mono a env μ _ _ X X' (fun v μ1 z => wpE_mono b env μ1 _ _ X X' (fun w μ2 y => by
      split at y
      · exact hQ _ _ y
      · exact y.elim) hX z) hX q
  | .isin o a b, env, μ, Q, Q', X, X', hQ, hX, q => wpE_mono a env μ _ _ X X' (fun v μ1 z => wpE_mono b env μ1 _ _ X X' (fun w μ2 y => by
      split at y
      · exact hQ _ _ y
      · exact y.elim) hX z) hX q
  | .isN neg a, env, μ, Q, Q', X, X', hQ, hX, q => wpE_mono a env μ _ _ X X' (fun v μ1 z => hQ _ _ z) hX q
  | .chain o p a b c, env, μ, Q, Q', X, X', hQ, hX, q => wpE_mono a env μ _ _ X X' (fun v μ1 z => wpE_mono b env μ1 _ _ X X' (fun w μ2 y => by
      split at y
      · exact wpE_mono c env μ2 _ _ X X' (fun u μ3 x => by
          split at x
          · exact hQ _ _ x
          · exact x.elim) hX y
      · exact hQ _ _ y
      · exact y.elim) hX z) hX q
  | .neg a, env, μ, Q, Q', X, X', hQ, hX, q => wpE_mono a env μ _ _ X X' (fun v μ1 z => by
      split at z
      · exact hQ _ _ z
      · exact z.elim) hX q
  | .not a, env, μ, Q, Q', X, X', hQ, hX, q => wpE_mono a env μ _ _ X X' (fun v μ1 z => by
      split at z
      · exact hQ _ _ z
      · exact z.elim) hX q
  | .and a b, env, μ, Q, Q', X, X', hQ, hX, q => wpE_mono a env μ _ _ X X' (fun v μ1 z => by
      split at z
      · exact wpE_mono b env μ1 _ _ X X' hQ hX z
      · exact hQ _ _ z
      · exact z.elim) hX q
  | .or a b, env, μ, Q, Q', X, X', hQ, hX, q => wpE_mono a env μ _ _ X X' (fun v μ1 z => by
      split at z
      · exact hQ _ _ z
      · exact wpE_mono b env μ1 _ _ X X' hQ hX z
      · exact z.elim) hX q
  | .ite c a b, env, μ, Q, Q', X, X', hQ, hX, q => wpE_mono c env μ _ _ X X' (fun v μ1 z => by
      split at z
      · exact wpE_mono a env μ1 _ _ X X' hQ hX z
      · exact wpE_mono b env μ1 _ _ X X' hQ hX z
      · exact z.elim) hX q
  | .call f m l, env, μ, Q, Q', X, X', hQ, hX, q => wpEs_mono l env μ _ _ X X' (fun vs μ' z => hΦ f m vs μ' Q Q' X X' hQ hX z) hX q
  | .bi b l, env, μ, Q, Q', X, X', hQ, hX, q => wpEs_mono l env μ _ _ X X' (fun vs μ' z => by
      split at z
      · exact hQ _ _ z
      · exact z.elim) hX q
  | .me m o l, env, μ, Q, Q', X, X', hQ, hX, q => wpE_mono o env μ _ _ X X' (fun v μ1 z => ⟨z.1, wpEs_mono l env μ1 _ _ X X' (fun vs μ' y => by
      split at y
      · exact hQ _ _ y
      · exact y.elim) hX z.2⟩) hX q
  | .isT a t, env, μ, Q, Q', X, X', hQ, hX, q => wpE_mono a env μ _ _ X X' (fun v μ1 z => by
      split at z
      · exact hQ _ _ z
      · exact z.elim) hX q
  | .isC a c, env, μ, Q, Q', X, X', hQ, hX, q => wpE_mono a env μ _ _ X X' (fun v μ1 z => pinQ_mono (fun b y => hQ _ _ y) z) hX q
  | .attr a f, env, μ, Q, Q', X, X', hQ, hX, q => wpE_mono a env μ _ _ X X' (fun v μ1 z => by
      split at z
      · exact hQ _ _ z
      · exact z.elim) hX q
  | .mth c o f m l, env, μ, Q, Q', X, X', hQ, hX, q => wpE_mono o env μ _ _ X X' (fun v μ1 z => ⟨z.1, wpEs_mono l env μ1 _ _ X X' (fun vs μ2 y => hΦ f m _ μ2 _ _ _ _ hQ hX y) hX z.2⟩) hX q
  | .mk c f l, env, μ, Q, Q', X, X', hQ, hX, q => wpEs_mono l env μ _ _ X X' (fun vs μ1 z p hp => hΦ f .keep _ _ _ _ _ _ (fun r μ2 y => by
      split at y
      · exact hQ _ _ y
      · exact y.elim) hX (z p hp)) hX q
  | .comp elt tg own it cond, env, μ, Q, Q', X, X', hQ, hX, q => wpI_mono it env μ _ _ X X' (fun l a μ1 z => loopC_mono (fun v μ2 R R' hR y => by
      split at y
      · rename_i env' _
        exact wpE_mono cond env' μ2 _ _ _ _ (fun t μ3 x => by
          split at x
          · exact wpE_mono elt env' μ3 _ _ _ _ (fun w μ4 u => hR _ _ u) (fun _ _ u => u) x
          · exact hR _ _ x
          · exact x.elim) (fun _ _ u => u) y
      · exact y.elim) l [] μ1 _ _ (fun r μ' x => hQ _ _ x) z) hX q
  | .new a, env, μ, Q, Q', X, X', hQ, hX, q => wpE_mono a env μ _ _ X X' (fun v μ1 z => ⟨z.1, fun p hp => hQ _ _ (z.2 p hp)⟩) hX q
theorem wpEs_mono : ∀ (l : Es) (env : Env) (μ : Mu) (Q Q' : List Val → Mu → Prop) (X X' : XQ), (∀ v μ, Q v μ → Q' v μ) → (∀ v μ, X v μ → X' v μ) → wpEs Φ l env μ Q X → wpEs Φ l env μ Q' X'
  | .nil, env, μ, Q, Q', X, X', hQ, hX, q => hQ _ _ q
  | .cons a r, env, μ, Q, Q', X, X', hQ, hX, q => wpE_mono a env μ _ _ X X' (fun v μ1 z => wpEs_mono r env μ1 _ _ X X' (fun vs μ2 y => hQ _ _ y) hX z) hX q
theorem wpI_mono : ∀ (i : It) (env : Env) (μ : Mu) (Q Q' : List Val → Option (Ad × List Val) → Mu → Prop) (X X' : XQ), (∀ l a μ, Q l a μ → Q' l a μ) → (∀ v μ, X v μ → X' v μ) → wpI Φ i env μ Q X → wpI Φ i env μ Q' X'
  | .e a, env, μ, Q, Q', X, X', hQ, hX, q => wpE_mono a env μ _ _ X X' (fun v μ1 z => by
      split at z
      · exact hQ _ _ _ z
      · exact hQ _ _ _ z
      · exact hQ _ _ _ z
      · exact z.elim) hX q
  | .range a, env, μ, Q, Q', X, X', hQ, hX, q => wpE_mono a env μ _ _ X X' (fun v μ1 z => by
      split at z
      · exact ⟨z.1, z.2.1, hQ _ _ _ z.2.2⟩
      · exact z.elim) hX q
  | .range2 a b, env, μ, Q, Q', X, X', hQ, hX, q => wpE_mono a env μ _ _ X X' (fun v μ1 z => wpE_mono b env μ1 _ _ X X' (fun w μ2 y => by
      split at y
      · exact ⟨y.1, hQ _ _ _ y.2⟩
      · exact y.elim) hX z) hX q
  | .enum a, env, μ, Q, Q', X, X', hQ, hX, q => wpE_mono a env μ _ _ X X' (fun v μ1 z => by
      split at z
      · exact hQ _ _ _ z
      · exact z.elim) hX q
  | .zip a b, env, μ, Q, Q', X, X', hQ, hX, q => wpE_mono a env μ _ _ X X' (fun v μ1 z => wpE_mono b env μ1 _ _ X X' (fun w μ2 y => by
      split at y
      · exact ⟨y.1, hQ _ _ _ y.2⟩
      · exact y.elim) hX z) hX q
end

structure En.Le (D D' : En) : Prop where
  nx : ∀ e μ, D.nx e μ → D'.nx e μ
  rt : ∀ v μ, D.rt v μ → D'.rt v μ
  ex : ∀ v e μ, D.ex v e μ → D'.ex v e μ
end
theorem wpS_mono : ∀ {Φ : Ph} (hΦ : MonoP Φ) (s : S) (env : Env) (μ : Mu) (D D' : En), D.Le D' → wpS Φ s env μ D → wpS Φ s env μ D'
  | Φ, hΦ, .skip, env, μ, D, D', h, q => h.nx _ _ q
  | Φ, hΦ, .seq a b, env, μ, D, D', h, q => by
    rw [wpS] at q ⊢
    refine wpS_mono hΦ a env μ _ _ ?_ q
    exact ⟨fun e μ' z => wpS_mono hΦ b e μ' D D' h z, h.rt, h.ex⟩
  | Φ, hΦ, .ex e, env, μ, D, D', h, q => by
    rw [wpS] at q ⊢
    exact wpE_mono hΦ e env μ _ _ _ _ (fun _ _ z => h.nx _ _ z) (fun _ _ z => h.ex _ _ _ z) q
  | Φ, hΦ, .asg i e, env, μ, D, D', h, q => by
    rw [wpS] at q ⊢
    exact wpE_mono hΦ e env μ _ _ _ _ (fun _ _ z => h.nx _ _ z) (fun _ _ z => h.ex _ _ _ z) q
  | Φ, hΦ, .asgT t e, env, μ, D, D', h, q => by
    rw [wpS] at q ⊢
    exact wpE_mono hΦ e env μ _ _ _ _ (fun _ _ z => by
      split at z
      · exact h.nx _ _ z
      · exact z.elim) (fun _ _ z => h.ex _ _ _ z) q
  | Φ, hΦ, .setix o i e, env, μ, D, D', h, q => by
    rw [wpS] at q ⊢
    exact wpE_mono hΦ e env μ _ _ _ _ (fun _ μ1 z => wpE_mono hΦ o env μ1 _ _ _ _ (fun _ μ2 y => wpE_mono hΦ i env μ2 _ _ _ _ (fun _ μ3 x => by
      split at x
      · exact h.nx _ _ x
      · exact x.elim) (fun _ _ z => h.ex _ _ _ z) y) (fun _ _ z => h.ex _ _ _ z) z) (fun _ _ z => h.ex _ _ _ z) q
  | Φ, hΦ, .setattr o f e, env, μ, D, D', h, q => by
    rw [wpS] at q ⊢
    exact wpE_mono hΦ e env μ _ _ _ _ (fun _ μ1 z => wpE_mono hΦ o env μ1 _ _ _ _ (fun _ μ2 y => by
      split at y
      · exact h.nx _ _ y
      · exact y.elim) (fun _ _ z => h.ex _ _ _ z) z) (fun _ _ z => h.ex _ _ _ z) q
  | Φ, hΦ, .ite c a b, env, μ, D, D', h, q => by
    rw [wpS] at q ⊢
    exact wpE_mono hΦ c env μ _ _ _ _ (fun _ μ1 z => by
      split at z
      · exact wpS_mono hΦ a env μ1 D D' h z
      · exact wpS_mono hΦ b env μ1 D D' h z
      · exact z.elim) (fun _ _ z => h.ex _ _ _ z) q
  | Φ, hΦ, .forS t it b, env, μ, D, D', h, q => by
    rw [wpS] at q ⊢
    exact wpI_mono hΦ it env μ _ _ _ _ (fun l a μ1 z => loopF_mono (fun v env' μ2 R R' hR y => by
      split at y
      · refine wpS_mono hΦ b _ μ2 _ _ ?_ y
        exact ⟨hR, h.rt, h.ex⟩
      · exact y.elim) h.nx l env μ1 z) (fun _ _ z => h.ex _ _ _ z) q
  | Φ, hΦ, .whileS c b, env, μ, D, D', h, q => by
    rw [wpS] at q ⊢
    obtain ⟨n, q⟩ := q
    exact ⟨n, loopW_mono (fun env' μ2 R R' hR y => wpE_mono hΦ c env' μ2 _ _ _ _ (fun _ μ3 x => by
      split at x
      · refine wpS_mono hΦ b _ μ3 _ _ ?_ x
        exact ⟨hR, h.rt, h.ex⟩
      · exact h.nx _ _ x
      · exact x.elim) (fun _ _ z => h.ex _ _ _ z) y) n env μ q⟩
  | Φ, hΦ, .ret e, env, μ, D, D', h, q => by
    rw [wpS] at q ⊢
    exact wpE_mono hΦ e env μ _ _ _ _ (fun _ _ z => h.rt _ _ z) (fun _ _ z => h.ex _ _ _ z) q
  | Φ, hΦ, .raise c, env, μ, D, D', h, q => h.ex _ _ _ q
  | Φ, hΦ, .tryS b cs none hb, env, μ, D, D', h, q => by
    rw [wpS] at q ⊢
    refine wpS_mono hΦ b env μ _ _ ?_ q
    refine ⟨h.nx, h.rt, fun v e μ' z => ?_⟩
    dsimp only at z ⊢
    split at z
    · rename_i c l
      by_cases hc : (cs.any fun d => isSub c d) = true
      · rw [if_pos hc] at z ⊢
        exact wpS_mono hΦ hb _ _ _ _ h z
      · rw [if_neg hc] at z ⊢
        exact h.ex _ _ _ z
    · exact z.elim
  | Φ, hΦ, .tryS b cs (some i) hb, env, μ, D, D', h, q => by
    rw [wpS] at q ⊢
    refine wpS_mono hΦ b env μ _ _ ?_ q
    refine ⟨h.nx, h.rt, fun v e μ' z => ?_⟩
    dsimp only at z ⊢
    split at z
    · rename_i c l
      by_cases hc : (cs.any fun d => isSub c d) = true
      · rw [if_pos hc] at z ⊢
        exact fun a ha => wpS_mono (Φ := Φ.at c a) hΦ hb _ _ { D with nx := fun e2 μ2 => D.nx (e2.set i none) μ2 } { D' with nx := fun e2 μ2 => D'.nx (e2.set i none) μ2 } ⟨fun e2 μ2 y => h.nx _ _ y, h.rt, h.ex⟩ (z a ha)
      · rw [if_neg hc] at z ⊢
        exact h.ex _ _ _ z
    · exact z.elim

theorem finM_mono {m : Md} {μ : Mu} {Q Q' : Val → Mu → Prop} (hQ : ∀ v μ, Q v μ → Q' v μ) {v : Val} {μ' : Mu} (h : finM m μ Q v μ') : finM m μ Q' v μ' := by
  cases m with
  | keep => exact hQ _ _ h
  | val => exact hQ _ _ h
  | obj =>
    simp only [finM] at h ⊢
    split at h
    · refine ⟨h.1, ?_⟩
      have h2 := h.2
      split at h2
      · exact hQ _ _ h2
      · exact h2.elim
    · exact h.elim
theorem phi_mono (P : Prog) : ∀ n, MonoP (phi P n)
  | 0 => fun _ _ _ _ _ _ _ _ _ _ h => h.elim
  | n + 1 => fun f m args μ Q Q' X X' hQ hX h => by
    rw [phi_succ] at h ⊢
    split at h
    · exact ⟨h.1, wpS_mono (phi_mono P n) _ _ _ _ _ ⟨fun _ _ z => finM_mono hQ z, fun _ _ z => finM_mono hQ z, fun _ _ _ z => hX _ _ z⟩ h.2⟩
    · exact h.elim

/-- more calls within one another do no harm -/
def LeP (Φ Ψ : Ph) : Prop := ∀ f m args μ Q X, Φ f m args μ Q X → Ψ f m args μ Q X
/-! ### sorted -/
theorem sortI_perm (l : List Int) : (sortI l).Perm l := List.mergeSort_perm _ _
theorem sortI_sorted (l : List Int) : (sortI l).Pairwise (· ≤ ·) := by
  have := List.pairwise_mergeSort (le := fun a b : Int => decide (a ≤ b)) (fun a b c h1 h2 => by simp at *; omega) (fun a b => by simp; omega) l
  exact this.imp fun h => by simpa using h
theorem sort_uniq {l ns : List Int} (h1 : l.Perm ns) (h2 : l.Pairwise (· ≤ ·)) : l = sortI ns :=
  List.Perm.eq_of_pairwise (fun a b _ _ h h' => Int.le_antisymm h h') h2 (sortI_sorted ns) (h1.trans (sortI_perm ns).symm)
end Mi
/-! Mi2: data by value against the layer's heap. -/
namespace Mi
open PySem PySem.Spec PyProof.Rows L2

abbrev Fr := PySem.W.Frag

/-- a list, a tuple of the written part -/
def WL (K : Fr) (a : Addr) (xs : List V) : Prop := ∃ (o : Obj) (its : Array Value) (n : Nat), K.lookup a = some o ∧ o.cls = .type "list" ∧ o.dict = none ∧ o.data = .seq its n ∧ its.size ≤ sizeLine ∧ Vals xs its.toList
def WT (K : Fr) (a : Addr) (xs : List V) : Prop := ∃ (o : Obj) (its : Array Value) (n : Nat), K.lookup a = some o ∧ o.cls = .type "tuple" ∧ o.data = .seq its n ∧ its.size ≤ sizeLine ∧ Vals xs its.toList

/-- the class c of the program stands at C -/
def clsAt (K : Fr) (c : String) (C : Addr) : Prop := PySem.W.nsIn K mainGlobals (Str.ofString c) = some (some (.ref C))
def flds (c : String) (xs : List V) : List (Str × V) := ((fieldsOf c).map Str.ofString).zip xs
def keyOf : Val → Option Key
  | .int i => some (.inl i)
  | .str s => some (.inr s)
  | _ => none

mutual
/-- the datum v stands at x; D: what may be changed -/
def Den (K : Fr) (D : Addr → Prop) (H : Hp) : Val → V → Prop
  | .non, x => x = .non
  | .bl b, x => x = .bl b
  | .int i, x => x = .int i
  | .str s, x => x = .str s ∧ PyData.strOk s = true
  | .tup l, x => ∃ a xs, x = .ref a ∧ ((¬ D a ∧ Rd H a (.tup xs)) ∨ WT K a xs) ∧ DenL K D H l xs
  | .lst l, x => ∃ a xs, x = .ref a ∧ ((¬ D a ∧ Rd H a (.lst xs)) ∨ WL K a xs) ∧ DenL K D H l xs
  | .dct l, x => ∃ a kvs, x = .ref a ∧ ¬ D a ∧ Rd H a (.dK kvs) ∧ DenP K D H l kvs
  | .ref a, x => x = .ref a
  | .exn _ _, _ => False
  | .ins c l, x => ∃ a C dx xs, x = .ref a ∧ ¬ D a ∧ Rd H a (.ins C dx (flds c xs)) ∧ clsAt K c C ∧ DenL K D H l xs
def DenL (K : Fr) (D : Addr → Prop) (H : Hp) : List Val → List V → Prop
  | [], xs => xs = []
  | v :: r, xs => ∃ x t, xs = x :: t ∧ Den K D H v x ∧ DenL K D H r t
def DenP (K : Fr) (D : Addr → Prop) (H : Hp) : List Val → List (Key × V) → Prop
  | [], kvs => kvs = []
  | .tup [kv, v] :: r, kvs => ∃ k x t, kvs = (k, x) :: t ∧ keyOf kv = some k ∧ Den K D H v x ∧ DenP K D H r t
  | _ :: _, _ => False
end

def Dn (Xc : Addr → Prop) (μ : Mu) : Addr → Prop := fun a => (μ a).isSome = true ∨ Xc a

/-- what stands at a thing that may be changed -/
def CRel (K : Fr) (D : Addr → Prop) (H : Hp) : Val → HO → Prop
  | .lst l, o => ∃ xs, o = .lst xs ∧ DenL K D H l xs
  | .dct l, o => ∃ kvs, o = .dK kvs ∧ DenP K D H l kvs
  | .ins c l, o => ∃ C dx xs, o = .ins C dx (flds c xs) ∧ clsAt K c C ∧ DenL K D H l xs
  | _, _ => False

structure MRel (K : Fr) (Xc : Addr → Prop) (μ : Mu) (H : Hp) : Prop where
  obj : ∀ a c, μ a = some c → ∃ o, H a = some o ∧ CRel K (Dn Xc μ) H c o
  xc : ∀ a, Xc a → H a ≠ none
structure SRel (K : Fr) (Xc : Addr → Prop) (σ : List (Option V)) (H : Hp) (env : Env) (μ : Mu) : Prop where
  m : MRel K Xc μ H
  slot : ∀ (i : Nat) (v : Val), env[i]? = some (some v) → ∃ x, σ[i]? = some (some x) ∧ Den K (Dn Xc μ) H v x
  len : env.length = σ.length

structure Ext (μ : Mu) (H : Hp) (μ' : Mu) (H' : Hp) : Prop where
  keepO : ∀ a o, H a = some o → μ a = none → H' a = some o
  nonew : ∀ a, H a ≠ none → μ a = none → μ' a = none
  there : ∀ a, H a ≠ none → H' a ≠ none

theorem Ext.refl {μ : Mu} {H : Hp} : Ext μ H μ H := ⟨fun _ _ h _ => h, fun _ _ h => h, fun _ h => h⟩
theorem Ext.keep {μ μ' : Mu} {H H' : Hp} (e : Ext μ H μ' H') (a : Addr) (u : HO) (h : Rd H a u) (n : μ a = none) : Rd H' a u := by
  rcases h with h | ⟨o, h⟩
  · exact .inl (e.keepO a _ h n)
  · exact .inr ⟨o, e.keepO a _ h n⟩
theorem rdSome {H : Hp} {a : Addr} {u : HO} (h : Rd H a u) : H a ≠ none := by
  rcases h with h | ⟨o, h⟩ <;> (rw [h]; intro z; cases z)
theorem Ext.trans {μ μ1 μ2 : Mu} {H H1 H2 : Hp} (a : Ext μ H μ1 H1) (b : Ext μ1 H1 μ2 H2) : Ext μ H μ2 H2 where
  keepO := fun c u h n => b.keepO c u (a.keepO c u h n) (a.nonew c (by rw [h]; intro z; cases z) n)
  nonew := fun c h n => b.nonew c (a.there c h) (a.nonew c h n)
  there := fun c h => b.there c (a.there c h)

section
variable {K : Fr} {Xc : Addr → Prop} {μ μ' : Mu} {H H' : Hp} {σ : List (Option V)} {env : Env}
theorem Ext.dn (e : Ext μ H μ' H') {a : Addr} (h : H a ≠ none) (n : ¬ Dn Xc μ a) : ¬ Dn Xc μ' a := by
  intro z
  rcases z with z | z
  · have hn : μ a = none := by
      cases q : μ a with
      | none => rfl
      | some c => exact (n (.inl (by rw [q]; rfl))).elim
    rw [e.nonew a h hn] at z
    cases z
  · exact n (.inr z)
theorem dn_none {a : Addr} (n : ¬ Dn Xc μ a) : μ a = none := by
  cases q : μ a with
  | none => rfl
  | some c => exact (n (.inl (by rw [q]; rfl))).elim
mutual
theorem Den.ext (e : Ext μ H μ' H') : ∀ (v : Val) (x : V), Den K (Dn Xc μ) H v x → Den K (Dn Xc μ') H' v x
  | .non, x, h => h
  | .bl _, x, h => h
  | .int _, x, h => h
  | .str _, x, h => h
  | .ref _, x, h => h
  | .exn _ _, x, h => h
  | .ins c l, x, ⟨a, C, dx, xs, e1, n, r, hc, hl⟩ => ⟨a, C, dx, xs, e1, e.dn (rdSome r) n, e.keep a _ r (dn_none n), hc, DenL.ext e l xs hl⟩
  | .tup l, x, ⟨a, xs, e1, h, hl⟩ => ⟨a, xs, e1, h.imp (fun ⟨n, r⟩ => ⟨e.dn (rdSome r) n, e.keep a _ r (dn_none n)⟩) id, DenL.ext e l xs hl⟩
  | .lst l, x, ⟨a, xs, e1, h, hl⟩ => ⟨a, xs, e1, h.imp (fun ⟨n, r⟩ => ⟨e.dn (rdSome r) n, e.keep a _ r (dn_none n)⟩) id, DenL.ext e l xs hl⟩
  | .dct l, x, ⟨a, kvs, e1, n, r, hl⟩ => ⟨a, kvs, e1, e.dn (rdSome r) n, e.keep a _ r (dn_none n), DenP.ext e l kvs hl⟩
theorem DenL.ext (e : Ext μ H μ' H') : ∀ (l : List Val) (xs : List V), DenL K (Dn Xc μ) H l xs → DenL K (Dn Xc μ') H' l xs
  | [], xs, h => h
  | v :: r, xs, ⟨x, t, e1, h1, h2⟩ => ⟨x, t, e1, Den.ext e v x h1, DenL.ext e r t h2⟩
theorem DenP.ext (e : Ext μ H μ' H') : ∀ (l : List Val) (kvs : List (Key × V)), DenP K (Dn Xc μ) H l kvs → DenP K (Dn Xc μ') H' l kvs
  | [], kvs, h => h
  | .tup [kv, v] :: r, kvs, ⟨k, x, t, e1, ek, h1, h2⟩ => ⟨k, x, t, e1, ek, Den.ext e v x h1, DenP.ext e r t h2⟩
  | .tup [] :: _, kvs, h => h
  | .tup [_] :: _, kvs, h => h
  | .tup (_ :: _ :: _ :: _) :: _, kvs, h => h
  | .non :: _, kvs, h => h
  | .bl _ :: _, kvs, h => h
  | .int _ :: _, kvs, h => h
  | .str _ :: _, kvs, h => h
  | .lst _ :: _, kvs, h => h
  | .dct _ :: _, kvs, h => h
  | .ref _ :: _, kvs, h => h
  | .exn _ _ :: _, kvs, h => h
  | .ins _ _ :: _, kvs, h => h
end
theorem CRel.ext (e : Ext μ H μ' H') {c : Val} {o : HO} (h : CRel K (Dn Xc μ) H c o) : CRel K (Dn Xc μ') H' c o := by
  cases c with
  | lst l => obtain ⟨xs, e1, hl⟩ := h; exact ⟨xs, e1, DenL.ext e l xs hl⟩
  | dct l => obtain ⟨kvs, e1, hl⟩ := h; exact ⟨kvs, e1, DenP.ext e l kvs hl⟩
  | ins c l => obtain ⟨C, dx, xs, e1, hc, hl⟩ := h; exact ⟨C, dx, xs, e1, hc, DenL.ext e l xs hl⟩
  | _ => exact h.elim

theorem DenL.length : ∀ {l : List Val} {xs : List V} {D : Addr → Prop}, DenL K D H l xs → l.length = xs.length
  | [], xs, D, h => by rw [show xs = [] from h]; rfl
  | v :: r, xs, D, ⟨x, t, e1, h1, h2⟩ => by rw [e1, List.length_cons, List.length_cons, DenL.length h2]
theorem DenL.get : ∀ {l : List Val} {xs : List V} {D : Addr → Prop} {i : Nat} {v : Val}, DenL K D H l xs → l[i]? = some v → ∃ x, xs[i]? = some x ∧ Den K D H v x
  | [], xs, D, i, v, h, e => by simp at e
  | w :: r, xs, D, 0, v, ⟨x, t, e1, h1, h2⟩, e => by
    simp only [List.getElem?_cons_zero, Option.some.injEq] at e
    subst e; subst e1
    exact ⟨x, rfl, h1⟩
  | w :: r, xs, D, i + 1, v, ⟨x, t, e1, h1, h2⟩, e => by
    subst e1
    obtain ⟨y, e2, h3⟩ := DenL.get (i := i) (v := v) h2 (by simpa using e)
    exact ⟨y, by simpa using e2, h3⟩
theorem DenL.append : ∀ {l r : List Val} {xs ys : List V} {D : Addr → Prop}, DenL K D H l xs → DenL K D H r ys → DenL K D H (l ++ r) (xs ++ ys)
  | [], r, xs, ys, D, h, h' => by rw [show xs = [] from h]; exact h'
  | v :: l, r, xs, ys, D, ⟨x, t, e1, h1, h2⟩, h' => by subst e1; exact ⟨x, t ++ ys, rfl, h1, DenL.append h2 h'⟩
theorem DenL.drop : ∀ {l : List Val} {xs : List V} {D : Addr → Prop} (n : Nat), DenL K D H l xs → DenL K D H (l.drop n) (xs.drop n)
  | l, xs, D, 0, h => h
  | [], xs, D, n + 1, h => by rw [show xs = [] from h]; exact rfl
  | v :: l, xs, D, n + 1, ⟨x, t, e1, h1, h2⟩ => by subst e1; exact DenL.drop n h2
theorem DenL.take : ∀ {l : List Val} {xs : List V} {D : Addr → Prop} (n : Nat), DenL K D H l xs → DenL K D H (l.take n) (xs.take n)
  | l, xs, D, 0, h => rfl
  | [], xs, D, n + 1, h => by rw [show xs = [] from h]; exact rfl
  | v :: l, xs, D, n + 1, ⟨x, t, e1, h1, h2⟩ => by subst e1; exact ⟨x, t.take n, rfl, h1, DenL.take n h2⟩
theorem DenL.set : ∀ {l : List Val} {xs : List V} {D : Addr → Prop} {v : Val} {x : V} (n : Nat), DenL K D H l xs → Den K D H v x → DenL K D H (l.set n v) (xs.set n x)
  | [], xs, D, v, x, n, h, hv => by rw [show xs = [] from h]; exact rfl
  | w :: l, xs, D, v, x, 0, ⟨y, t, e1, h1, h2⟩, hv => by subst e1; exact ⟨x, t, rfl, hv, h2⟩
  | w :: l, xs, D, v, x, n + 1, ⟨y, t, e1, h1, h2⟩, hv => by subst e1; exact ⟨y, t.set n x, rfl, h1, DenL.set n h2 hv⟩
theorem DenL.eraseIdx : ∀ {l : List Val} {xs : List V} {D : Addr → Prop} (n : Nat), DenL K D H l xs → DenL K D H (l.eraseIdx n) (xs.eraseIdx n)
  | [], xs, D, n, h => by rw [show xs = [] from h]; exact rfl
  | w :: l, xs, D, 0, ⟨y, t, e1, h1, h2⟩ => by subst e1; exact h2
  | w :: l, xs, D, n + 1, ⟨y, t, e1, h1, h2⟩ => by subst e1; exact ⟨y, t.eraseIdx n, rfl, h1, DenL.eraseIdx n h2⟩
theorem DenL.dropLast {l : List Val} {xs : List V} {D : Addr → Prop} (h : DenL K D H l xs) : DenL K D H l.dropLast xs.dropLast := by
  rw [List.dropLast_eq_take, List.dropLast_eq_take, h.length]
  exact h.take _
theorem DenL.nil_iff {l : List Val} {xs : List V} {D : Addr → Prop} (h : DenL K D H l xs) : l.isEmpty = xs.isEmpty := by
  cases l with
  | nil => rw [show xs = [] from h]; rfl
  | cons v r => obtain ⟨x, t, e1, _⟩ := h; rw [e1]; rfl

/-! ### a new object -/
theorem Ext.laid {p : Addr} {o : HO} (hp : H p = none) : Ext μ H μ (upd H p o) where
  keepO := fun a u h n => by
    have ne : a ≠ p := fun z => by rw [z, hp] at h; cases h
    rw [upd_ne ne]; exact h
  nonew := fun _ _ n => n
  there := fun a h => by
    by_cases e : a = p
    · rw [e, upd_same]; intro z; cases z
    · rw [upd_ne e]; exact h
theorem MRel.fresh (m : MRel K Xc μ H) {p : Addr} (hp : H p = none) : ¬ Dn Xc μ p := by
  intro z
  rcases z with z | z
  · cases q : μ p with
    | none => rw [q] at z; cases z
    | some c =>
      obtain ⟨o, e, _⟩ := m.obj p c q
      rw [hp] at e; cases e
  · exact m.xc p z hp
theorem MRel.laid (m : MRel K Xc μ H) {p : Addr} {o : HO} (hp : H p = none) : MRel K Xc μ (upd H p o) where
  obj := fun a c h => by
    obtain ⟨u, e, r⟩ := m.obj a c h
    exact ⟨u, by rw [upd_ne (ne_of_none e hp)]; exact e, r.ext (Ext.laid hp)⟩
  xc := fun a h => (Ext.laid (μ := μ) hp).there a (m.xc a h)
theorem SRel.of_ext {H' : Hp} {μ' : Mu} (s : SRel K Xc σ H env μ) (m : MRel K Xc μ' H') (e : Ext μ H μ' H') : SRel K Xc σ H' env μ' where
  m := m
  slot := fun i v h => by
    obtain ⟨x, e1, d⟩ := s.slot i v h
    exact ⟨x, e1, d.ext e⟩
  len := s.len
theorem SRel.laid (s : SRel K Xc σ H env μ) {p : Addr} {o : HO} (hp : H p = none) : SRel K Xc σ (upd H p o) env μ := s.of_ext (s.m.laid hp) (Ext.laid hp)

/-- .. that may be changed from now on -/
theorem Mu.set_same {a : Addr} {c : Val} : (μ.set a c) a = some c := by unfold Mu.set; rw [if_pos rfl]
theorem Mu.set_ne {a b : Addr} {c : Val} (h : b ≠ a) : (μ.set a c) b = μ b := by unfold Mu.set; rw [if_neg h]
theorem Ext.laidM {p : Addr} {o : HO} {c : Val} (hp : H p = none) : Ext μ H (μ.set p c) (upd H p o) where
  keepO := (Ext.laid (μ := μ) hp).keepO
  nonew := fun a h n => by
    have ne : a ≠ p := fun z => h (by rw [z]; exact hp)
    rw [Mu.set_ne ne]; exact n
  there := (Ext.laid (μ := μ) hp).there
theorem MRel.laidM (m : MRel K Xc μ H) {p : Addr} {o : HO} {c : Val} (hp : H p = none) (r : CRel K (Dn Xc μ) H c o) : MRel K Xc (μ.set p c) (upd H p o) where
  obj := fun a c' h => by
    by_cases e : a = p
    · subst e
      rw [Mu.set_same] at h; cases h
      exact ⟨o, upd_same, r.ext (Ext.laidM hp)⟩
    · rw [Mu.set_ne e] at h
      obtain ⟨u, e1, r1⟩ := m.obj a c' h
      exact ⟨u, by rw [upd_ne e]; exact e1, r1.ext (Ext.laidM hp)⟩
  xc := fun a h => (Ext.laid (μ := μ) hp).there a (m.xc a h)
theorem SRel.laidM (s : SRel K Xc σ H env μ) {p : Addr} {o : HO} {c : Val} (hp : H p = none) (r : CRel K (Dn Xc μ) H c o) : SRel K Xc σ (upd H p o) env (μ.set p c) := s.of_ext (s.m.laidM hp r) (Ext.laidM hp)

/-- a change -/
theorem Ext.put {a : Addr} {c c' : Val} {o : HO} (h : μ a = some c) : Ext μ H (μ.set a c') (upd H a o) where
  keepO := fun b u r n => by
    have ne : b ≠ a := fun z => by rw [z, h] at n; cases n
    rw [upd_ne ne]; exact r
  nonew := fun b _ n => by
    have ne : b ≠ a := fun z => by rw [z, h] at n; cases n
    rw [Mu.set_ne ne]; exact n
  there := fun b q => by
    by_cases e : b = a
    · rw [e, upd_same]; intro z; cases z
    · rw [upd_ne e]; exact q
theorem MRel.put (m : MRel K Xc μ H) {a : Addr} {c c' : Val} {o : HO} (h : μ a = some c) (r : CRel K (Dn Xc μ) H c' o) : MRel K Xc (μ.set a c') (upd H a o) where
  obj := fun b d hb => by
    by_cases e : b = a
    · subst e
      rw [Mu.set_same] at hb; cases hb
      exact ⟨o, upd_same, r.ext (Ext.put h)⟩
    · rw [Mu.set_ne e] at hb
      obtain ⟨u, e1, r1⟩ := m.obj b d hb
      exact ⟨u, by rw [upd_ne e]; exact e1, r1.ext (Ext.put h)⟩
  xc := fun b q => (Ext.put (H := H) (o := o) (c' := c') h).there b (m.xc b q)
theorem SRel.put (s : SRel K Xc σ H env μ) {a : Addr} {c c' : Val} {o : HO} (h : μ a = some c) (r : CRel K (Dn Xc μ) H c' o) : SRel K Xc σ (upd H a o) env (μ.set a c') := s.of_ext (s.m.put h r) (Ext.put h)

/-! ### what is seen of a value -/
theorem MRel.lst (m : MRel K Xc μ H) {v : Val} {x : V} {l : List Val} (d : Den K (Dn Xc μ) H v x) (h : content μ v = some (.lst l)) : ∃ a xs, x = .ref a ∧ SqL K H a xs ∧ DenL K (Dn Xc μ) H l xs := by
  cases v with
  | ref a =>
    obtain ⟨o, e, xs, e1, hl⟩ := m.obj a _ h
    subst e1
    exact ⟨a, xs, d, SqL.of e, hl⟩
  | lst l' =>
    cases h
    obtain ⟨a, xs, e1, q, hl⟩ := d
    refine ⟨a, xs, e1, ?_, hl⟩
    rcases q with ⟨_, q⟩ | q
    · exact .inl q
    · exact .inr q
  | _ => cases h
theorem MRel.lstM (m : MRel K Xc μ H) {a : Addr} {l : List Val} (h : μ a = some (.lst l)) : ∃ xs, H a = some (.lst xs) ∧ DenL K (Dn Xc μ) H l xs := by
  obtain ⟨o, e, xs, e1, hl⟩ := m.obj a _ h
  subst e1
  exact ⟨xs, e, hl⟩
theorem MRel.dctM (m : MRel K Xc μ H) {a : Addr} {l : List Val} (h : μ a = some (.dct l)) : ∃ kvs, H a = some (.dK kvs) ∧ DenP K (Dn Xc μ) H l kvs := by
  obtain ⟨o, e, kvs, e1, hl⟩ := m.obj a _ h
  subst e1
  exact ⟨kvs, e, hl⟩
theorem MRel.tup (m : MRel K Xc μ H) {v : Val} {x : V} {l : List Val} (d : Den K (Dn Xc μ) H v x) (h : content μ v = some (.tup l)) : ∃ a xs, x = .ref a ∧ SqT K H a xs ∧ DenL K (Dn Xc μ) H l xs := by
  cases v with
  | ref a =>
    obtain ⟨o, e, r⟩ := m.obj a _ h
    exact r.elim
  | tup l' =>
    cases h
    obtain ⟨a, xs, e1, q, hl⟩ := d
    refine ⟨a, xs, e1, ?_, hl⟩
    rcases q with ⟨_, q⟩ | q
    · exact .inl q
    · exact .inr q
  | _ => cases h
theorem MRel.dct (m : MRel K Xc μ H) {v : Val} {x : V} {l : List Val} (d : Den K (Dn Xc μ) H v x) (h : content μ v = some (.dct l)) : ∃ a kvs, x = .ref a ∧ Rd H a (.dK kvs) ∧ DenP K (Dn Xc μ) H l kvs := by
  cases v with
  | ref a =>
    obtain ⟨o, e, kvs, e1, hl⟩ := m.obj a _ h
    subst e1
    exact ⟨a, kvs, d, .inl e, hl⟩
  | dct l' =>
    cases h
    obtain ⟨a, kvs, e1, n, q, hl⟩ := d
    exact ⟨a, kvs, e1, q, hl⟩
  | _ => cases h
/-- the content of a value that is none of these is the value -/
theorem MRel.flat (m : MRel K Xc μ H) {v w : Val} {x : V} (d : Den K (Dn Xc μ) H v x) (h : content μ v = some w) (hw : match w with | .non | .bl _ | .int _ | .str _ => True | _ => False) : Den K (Dn Xc μ) H w x := by
  cases v with
  | ref a =>
    obtain ⟨o, e, r⟩ := m.obj a _ h
    cases w <;> first | exact r.elim | exact hw.elim
  | _ => cases h; exact d
end
end Mi
/-! Mi3: the language's expressions against the layer's judgements. -/
namespace Mi
open PySem PySem.Spec PyProof.Rows L2

/-! ### readings -/
def excNames : List String := ["FoldError", "Twice", "NoDeed", "WrongCount", "TooDeep", "TooLong", "TooBig", "NoCall", "NoMark", "TooMany", "Called", "NoWay", "NoRow", "NoBack", "Broken", "Ringed", "BadRun", "NoText"]
/-- the class c is told apart from the others, by except and by isinstance -/
structure IsExc (K : Fr) (mg : Str → Option Value) (c : String) : Prop where
  ex : ∀ cls, mg (Str.ofString c) = some cls → ∀ h ∈ excNames, ∀ c', mg (Str.ofString h) = some c' → PySem.W.exmOne K cls c' = some (isSub c h)
  kit : ∀ cls, mg (Str.ofString c) = some cls → ∃ D, cls = .ref D ∧ ExcC K D ∧ (∀ h ∈ excNames, ∀ c', mg (Str.ofString h) = some c' → (∃ C, c' = .ref C) ∧ PySem.W.kitOne K cls c' = some (isSub c h)) ∧ PySem.W.kitOne K cls (.type "ValueError") = some true
def ExR (K : Fr) (mg : Str → Option Value) (e : Val) (cls : Value) (d : Option Addr) : Prop := ∃ c, e = .exn c [] ∧ mg (Str.ofString c) = some cls ∧ IsExc K mg c ∧ d = none
section
variable (K : Fr) (mg : Str → Option Value) (W : WX) (Xc : Addr → Prop) (σ : List (Option V)) (H : Hp) (env : Env) (μ : Mu)
/-- an end with a value, from (H, μ) on -/
def EPost (Q : VK) : Val → Mu → Prop := fun v μ' => ∀ x H', SRel K Xc σ H' env μ' → Ext μ H μ' H' → Den K (Dn Xc μ') H' v x → Q x H'
def LPost (Q : List V → Hp → Prop) : List Val → Mu → Prop := fun vs μ' => ∀ xs H', SRel K Xc σ H' env μ' → Ext μ H μ' H' → DenL K (Dn Xc μ') H' vs xs → Q xs H'
def TPost (Q : Bool → Hp → Prop) : Val → Mu → Prop := fun v μ' => match truthV μ' v with
  | some b => ∀ H', SRel K Xc σ H' env μ' → Ext μ H μ' H' → Q b H'
  | none => False
def XPost : XQ := fun e μ' => ∀ cls d H', SRel K Xc σ H' env μ' → Ext μ H μ' H' → ExR K mg e cls d → W cls d σ H'
end
def rdE (K : Fr) (mg : Str → Option Value) (Φ : Ph) (W : WX) (e : E) : TE := fun σ H Q => ∃ Xc env μ, SRel K Xc σ H env μ ∧ wpE Φ e env μ (EPost K Xc σ H env μ Q) (XPost K mg W Xc σ H env μ)
def rdA (K : Fr) (mg : Str → Option Value) (Φ : Ph) (W : WX) (l : Es) : TA := fun σ H Q => ∃ Xc env μ, SRel K Xc σ H env μ ∧ wpEs Φ l env μ (LPost K Xc σ H env μ Q) (XPost K mg W Xc σ H env μ)
def rdT (K : Fr) (mg : Str → Option Value) (Φ : Ph) (W : WX) (e : E) : TT := fun σ H Q => ∃ Xc env μ, SRel K Xc σ H env μ ∧ wpE Φ e env μ (TPost K Xc σ H env μ Q) (XPost K mg W Xc σ H env μ)

/-- of an expression that makes a new thing: nothing else knows it -/
def NewRel (K : Fr) (D : Addr → Prop) (H : Hp) (v : Val) (o : HO) : Prop := match v with
  | .tup l => ∃ xs, o = .tup xs ∧ DenL K D H l xs
  | v => CRel K D H v o
def FPost (K : Fr) (Xc : Addr → Prop) (σ : List (Option V)) (H : Hp) (env : Env) (μ : Mu) (Q : VK) : Val → Mu → Prop := fun v μ' => ∀ p o H1, SRel K Xc σ H1 env μ' → Ext μ H μ' H1 → H1 p = none → NewRel K (Dn Xc μ') H1 v o → Q (.ref p) (upd H1 p o)
def rdF (K : Fr) (mg : Str → Option Value) (Φ : Ph) (W : WX) (e : E) : TE := fun σ H Q => ∃ Xc env μ, SRel K Xc σ H env μ ∧ wpE Φ e env μ (FPost K Xc σ H env μ Q) (XPost K mg W Xc σ H env μ)

abbrev SE (X : Cx) (Φ : Ph) (W : WX) (a : Expr) (e : E) : Prop := PE X a (rdE X.K X.mg Φ W e)
abbrev SA (X : Cx) (Φ : Ph) (W : WX) (a : List Expr) (e : Es) : Prop := PA X a (rdA X.K X.mg Φ W e)
abbrev ST (X : Cx) (Φ : Ph) (W : WX) (a : Expr) (e : E) : Prop := PT X a (rdT X.K X.mg Φ W e)
abbrev SW (X : Cx) (Φ : Ph) (W : WX) (a : Expr) (e : E) : Prop := PW X a (rdT X.K X.mg Φ W e)
abbrev SF (X : Cx) (Φ : Ph) (W : WX) (a : Expr) (e : E) : Prop := PE X a (rdF X.K X.mg Φ W e)

theorem PE.imp {X : Cx} {a : Expr} {t t' : TE} (h : PE X a t) (f : ∀ σ H Q, t' σ H Q → t σ H Q) : PE X a t' := ⟨fun pins s σ H Q I q => h.run pins s σ H Q I (f _ _ _ q)⟩
theorem PA.imp {X : Cx} {a : List Expr} {t t' : TA} (h : PA X a t) (f : ∀ σ H Q, t' σ H Q → t σ H Q) : PA X a t' := ⟨fun pos pins s σ H Q I q => h.run pos pins s σ H Q I (f _ _ _ q)⟩
theorem PT.imp {X : Cx} {a : Expr} {t t' : TT} (h : PT X a t) (f : ∀ σ H Q, t' σ H Q → t σ H Q) : PT X a t' := ⟨fun pins s σ H Q I q => h.run pins s σ H Q I (f _ _ _ q)⟩
theorem PW.imp {X : Cx} {a : Expr} {t t' : TT} (h : PW X a t) (f : ∀ σ H Q, t' σ H Q → t σ H Q) : PW X a t' := ⟨fun wh pins s σ H Q I q => h.run wh pins s σ H Q I (f _ _ _ q)⟩

section
variable {K : Fr} {mg : Str → Option Value} {Φ : Ph} {W : WX} {Xc : Addr → Prop} {σ : List (Option V)} {H H0 : Hp} {env : Env} {μ μ0 : Mu}
theorem XPost.from {e : Val} {μ' : Mu} (E0 : Ext μ0 H0 μ H) (h : XPost K mg W Xc σ H0 env μ0 e μ') : XPost K mg W Xc σ H env μ e μ' := fun cls d H' S E r => h cls d H' S (E0.trans E) r
/-- a part is reckoned -/
theorem use (hΦ : MonoP Φ) {e : E} {F : Val → Mu → Prop} {R : VK} (S : SRel K Xc σ H env μ) (E0 : Ext μ0 H0 μ H) (q : wpE Φ e env μ F (XPost K mg W Xc σ H0 env μ0))
    (k : ∀ v μ1 x H1, SRel K Xc σ H1 env μ1 → Ext μ H μ1 H1 → Ext μ0 H0 μ1 H1 → Den K (Dn Xc μ1) H1 v x → F v μ1 → R x H1) : rdE K mg Φ W e σ H R :=
  ⟨Xc, env, μ, S, wpE_mono hΦ e env μ _ _ _ _ (fun v μ1 f x H1 S1 E1 d => k v μ1 x H1 S1 E1 (E0.trans E1) d f) (fun v μ1 f => XPost.from E0 f) q⟩
theorem useT (hΦ : MonoP Φ) {e : E} {F : Val → Mu → Prop} {R : Bool → Hp → Prop} (S : SRel K Xc σ H env μ) (E0 : Ext μ0 H0 μ H) (q : wpE Φ e env μ F (XPost K mg W Xc σ H0 env μ0))
    (t : ∀ v μ1, F v μ1 → truthV μ1 v ≠ none)
    (k : ∀ v μ1 b H1, SRel K Xc σ H1 env μ1 → Ext μ0 H0 μ1 H1 → truthV μ1 v = some b → F v μ1 → R b H1) : rdT K mg Φ W e σ H R :=
  ⟨Xc, env, μ, S, wpE_mono hΦ e env μ _ _ _ _ (fun v μ1 f => by
      unfold TPost
      cases hb : truthV μ1 v with
      | none => exact (t v μ1 f hb).elim
      | some b => exact fun H1 S1 E1 => k v μ1 b H1 S1 (E0.trans E1) hb f) (fun v μ1 f => XPost.from E0 f) q⟩
theorem useA (hΦ : MonoP Φ) {l : Es} {F : List Val → Mu → Prop} {R : List V → Hp → Prop} (S : SRel K Xc σ H env μ) (E0 : Ext μ0 H0 μ H) (q : wpEs Φ l env μ F (XPost K mg W Xc σ H0 env μ0))
    (k : ∀ vs μ1 xs H1, SRel K Xc σ H1 env μ1 → Ext μ H μ1 H1 → Ext μ0 H0 μ1 H1 → DenL K (Dn Xc μ1) H1 vs xs → F vs μ1 → R xs H1) : rdA K mg Φ W l σ H R :=
  ⟨Xc, env, μ, S, wpEs_mono hΦ l env μ _ _ _ _ (fun v μ1 f x H1 S1 E1 d => k v μ1 x H1 S1 E1 (E0.trans E1) d f) (fun v μ1 f => XPost.from E0 f) q⟩

/-- a new thing is data, too -/
theorem NewRel.den {v : Val} {o : HO} {p : Addr} (m : MRel K Xc μ H) (hp : H p = none) (r : NewRel K (Dn Xc μ) H v o) : Den K (Dn Xc μ) (upd H p o) v (.ref p) := by
  have n := m.fresh hp
  have e : Ext μ H μ (upd H p o) := Ext.laid hp
  cases v with
  | tup l => obtain ⟨xs, rfl, h⟩ := r; exact ⟨p, xs, rfl, .inl ⟨n, .inl upd_same⟩, h.ext e⟩
  | lst l => obtain ⟨xs, rfl, h⟩ := r; exact ⟨p, xs, rfl, .inl ⟨n, .inl upd_same⟩, h.ext e⟩
  | dct l => obtain ⟨xs, rfl, h⟩ := r; exact ⟨p, xs, rfl, n, .inl upd_same, h.ext e⟩
  | ins c l => obtain ⟨C, dx, xs, rfl, hc, h⟩ := r; exact ⟨p, C, dx, xs, rfl, n, .inl upd_same, hc, h.ext e⟩
  | _ => exact r.elim
theorem EPost.new {Q : VK} {v : Val} {μ' : Mu} (q : EPost K Xc σ H env μ Q v μ') : FPost K Xc σ H env μ Q v μ' := fun p o H1 S E hp r => q _ _ (S.laid hp) (E.trans (Ext.laid hp)) (r.den S.m hp)
end

section
variable {X : Cx} {Φ : Ph} {W : WX} {a b c : Expr} {pos : Pos}
/-- .. by value -/
theorem SF.val (hΦ : MonoP Φ) {e : E} (h : SF X Φ W a e) : SE X Φ W a e := PE.imp h fun σ H Q ⟨Xc, env, μ, S, q⟩ => ⟨Xc, env, μ, S, wpE_mono hΦ e env μ _ _ _ _ (fun v μ1 f => f.new) (fun _ _ z => z) q⟩
/-- .. as a thing that may be changed -/
theorem SF.new (hΦ : MonoP Φ) {e : E} (h : SF X Φ W a e) : SE X Φ W a (.new e) := PE.imp h fun σ H Q ⟨Xc, env, μ, S, q⟩ => ⟨Xc, env, μ, S, wpE_mono hΦ e env μ _ _ _ _ (fun v μ1 f p o H1 S1 E1 hp r => by
    obtain ⟨hc, k⟩ := f
    have hm : μ1 p = none := dn_none (S1.m.fresh hp)
    have r' : CRel X.K (Dn Xc μ1) H1 v o := by
      cases v with
      | lst l => exact r
      | dct l => exact r
      | _ => cases hc
    exact k p hm _ _ (S1.laidM hp r') (E1.trans (Ext.laidM hp)) rfl) (fun _ _ z => z) q⟩

/-! ### names, constants -/
theorem se_v {i : Nat} {x : Str} (h : PE X (.Name x pos) (tVar i)) : SE X Φ W (.Name x pos) (.v i) := PE.imp h fun σ H Q ⟨Xc, env, μ, S, q⟩ => by
  simp only [wpE] at q
  split at q
  · rename_i v hv
    obtain ⟨x, e, d⟩ := S.slot i v hv
    exact ⟨x, e, q x H S Ext.refl d⟩
  · exact q.elim
theorem se_int {i j} : SE X Φ W (.Constant (.int i) j pos) (.c (.int i)) := PE.imp pe_int fun σ H Q ⟨Xc, env, μ, S, q⟩ => q _ H S Ext.refl rfl
theorem se_bl {i j} : SE X Φ W (.Constant (.bool i) j pos) (.c (.bl i)) := PE.imp pe_bl fun σ H Q ⟨Xc, env, μ, S, q⟩ => q _ H S Ext.refl rfl
theorem se_non {j} : SE X Φ W (.Constant .none j pos) (.c .non) := PE.imp pe_non fun σ H Q ⟨Xc, env, μ, S, q⟩ => q _ H S Ext.refl rfl
theorem se_str {x : Str} {j} (h : PyData.strOk x = true) : SE X Φ W (.Constant (.str x) j pos) (.c (.str x)) := PE.imp pe_str fun σ H Q ⟨Xc, env, μ, S, q⟩ => q _ H S Ext.refl ⟨rfl, h⟩

/-! ### argument lists, displays -/
theorem sa_nil : SA X Φ W [] .nil := PA.imp pa_nil fun σ H Q ⟨Xc, env, μ, S, q⟩ => q _ H S Ext.refl rfl
theorem sa_cons (hΦ : MonoP Φ) {es : List Expr} {e : E} {l : Es} (ha : SE X Φ W a e) (hr : SA X Φ W es l) (hs : starEach (a :: es) X.env = (false, eval a X.env) :: starEach es X.env := by rfl) : SA X Φ W (a :: es) (.cons e l) :=
  PA.imp (pa_cons ha hr hs) fun σ H Q ⟨Xc, env, μ, S, q⟩ => by
    rw [wpEs] at q
    exact use hΦ S Ext.refl q fun v μ1 x H1 S1 E1 _ d q1 => useA hΦ S1 E1 q1 fun vs μ2 xs H2 S2 E2 E2' d2 q2 => q2 (x :: xs) H2 S2 E2' ⟨x, xs, rfl, d.ext E2, d2⟩
theorem len_line {l : List Val} {xs : List V} {K : Fr} {D : Addr → Prop} {H : Hp} (h : DenL K D H l xs) (n : Nat) (hl : l.length = n) (hn : n ≤ 1000) : xs.length ≤ sizeLine := by
  rw [← h.length, hl, sizeLine_eq]; omega
/-- how many -/
def Es.len : Es → Nat
  | .nil => 0
  | .cons _ r => r.len + 1
theorem wpEs_len (hΦ : MonoP Φ) : ∀ (l : Es) (env : Env) (μ : Mu) (F : List Val → Mu → Prop) (Y : XQ), wpEs Φ l env μ F Y → wpEs Φ l env μ (fun vs μ' => vs.length = l.len ∧ F vs μ') Y
  | .nil, env, μ, F, Y, q => ⟨rfl, q⟩
  | .cons e r, env, μ, F, Y, q => by
    rw [wpEs] at q ⊢
    exact wpE_mono hΦ e env μ _ _ _ _ (fun v μ1 q1 => wpEs_mono hΦ r env μ1 _ _ _ _ (fun vs μ2 z => ⟨by rw [List.length_cons, z.1]; rfl, z.2⟩) (fun _ _ z => z) (wpEs_len hΦ r env μ1 _ _ q1)) (fun _ _ z => z) q
theorem sf_lst (hΦ : MonoP Φ) {es : List Expr} {l : Es} (h : SA X Φ W es l) (hl : l.len ≤ 1000 := by decide) : SF X Φ W (.List es pos) (.lst l) :=
  PE.imp (pe_lst h) fun σ H Q ⟨Xc, env, μ, S, q⟩ => by
    rw [wpE] at q
    exact useA hΦ S Ext.refl (wpEs_len hΦ l env μ _ _ q) fun vs μ1 xs H1 S1 E1 _ d ⟨n, q1⟩ => ⟨len_line d _ n hl, fun p hp => q1 p _ H1 S1 E1 hp ⟨xs, rfl, d⟩⟩
theorem se_tup (hΦ : MonoP Φ) {es : List Expr} {l : Es} {k} (h : SA X Φ W es l) (hl : l.len ≤ 1000 := by decide) : SE X Φ W (.Tuple es k pos) (.tup l) := by
  refine SF.val hΦ (PE.imp (pe_tup h) fun σ H Q ⟨Xc, env, μ, S, q⟩ => ?_)
  rw [wpE] at q
  exact useA hΦ S Ext.refl (wpEs_len hΦ l env μ _ _ q) fun vs μ1 xs H1 S1 E1 _ d ⟨n, q1⟩ => ⟨len_line d _ n hl, fun p hp => q1 p _ H1 S1 E1 hp ⟨xs, rfl, d⟩⟩
theorem sf_dct0 : SF X Φ W (.Dict [] [] pos) (.dct .nil) := PE.imp pe_dnewK fun σ H Q ⟨Xc, env, μ, S, q⟩ => fun p hp => q p _ H S Ext.refl hp ⟨[], rfl, rfl⟩
end
end Mi
/-! Mi3b: text times int, list times int. -/
namespace Mi
open PySem PySem.Spec PyProof.Rows L2
open AutoSeq1 (wpAny_loadPart')

theorem list_mulW (l : Addr) (items : Array Value) (n : Nat) (dd : Option Addr) (sl : Array (Option Value)) (x : Int) (u : Tok) (hc0 : ¬(!Builtin.List.listFitsIndex x) = true) (hc1 : ¬items.size * x.toNat > (2 ^ 63 - 1) / 8) (hc2 : ¬Builtin.List.listTooLong (items.size * x.toNat) = true) :
    Meets (Builtin.«list.__mul__» ⟨[.ref l, .int x u], []⟩) (fun _ R s => s.heap.get? l = some { cls := .type "list", dict := dd, data := .seq items n, slots := sl } ∧ R (.ok (.ret (Value.ref s.heap.objs.size))) { s with heap := s.heap.push { cls := Value.type "list", data := Data.seq (List.foldl (fun x1 x2 => x1 ++ x2) #[] (List.replicate (if items.isEmpty = true then 0 else x.toNat) items)) }, toks := s.toks }) :=
  .of_wp fun prog w A R s h => by
    obtain ⟨hp, g, d, tk, os⟩ := s; obtain ⟨hl, h⟩ := h
    have hsz := PySem.AutoListH.joined_fits hc2
    wp_walk using wpAny_loadPart' hl; refine wpAny_ite_false (decide_eq_false (Nat.not_lt.mpr hsz)) ?_; wp_walk; exact ⟨_, rfl, h⟩
theorem int_rmulW (a : Int) (t : Tok) (l : Addr) (items : Array Value) (n : Nat) (dd : Option Addr) (sl : Array (Option Value)) :
    Meets (Builtin.«int.__rmul__» ⟨[.int a t, .ref l], []⟩) (fun _ R s => s.heap.get? l = some { cls := .type "list", dict := dd, data := .seq items n, slots := sl } ∧ R (.ok (.ret Value.notImplemented)) s) :=
  .of_wp fun prog w A R s h => by obtain ⟨hp, g, d, tk, os⟩ := s; obtain ⟨hl, h⟩ := h; wp_walk using wpAny_loadPart' hl; exact ⟨_, rfl, h⟩
section
variable {X : Cx}
def rRepR (K : Fr) : R2 := fun x y H Q => ∃ l k xs, x = .ref l ∧ y = .int k ∧ SqL K H l xs ∧ -(2 ^ 63) ≤ k ∧ k < 2 ^ 63 ∧ xs.length * k.toNat ≤ sizeLine ∧
  ∀ p, H p = none → Q (.ref p) (upd H p (.lst (List.replicate k.toNat xs).flatten))
theorem op_repR : OpR X (binaryOp .Mult) (rRepR X.K) := by
  intro pins s σ H x y v u Q I rx ry h
  obtain ⟨l, k, xs, rfl, rfl, hH, h1, h2, hz, q⟩ := h
  cases rx
  obtain ⟨t, rfl⟩ := ry
  obtain ⟨its, r, hl, z⟩ := I.list hH
  have el := r.length
  obtain ⟨⟨cls, dd, data, sl⟩, ho, hc, n, hd⟩ := id hl.isList
  simp only at hc hd
  subst hc hd
  have hlen : its.toArray.size * k.toNat ≤ sizeLine := by rw [List.size_toArray, ← el]; exact hz
  have hcap : ¬ its.toArray.size * k.toNat > (2 ^ 63 - 1) / 8 := by
    have : (sizeLine : Nat) ≤ (2 ^ 63 - 1) / 8 := by decide
    omega
  have hfit : ¬ (!Builtin.List.listFitsIndex k) = true := by
    rw [fitsIndex_both h1 h2]
    exact Bool.false_ne_true
  have hlong : ¬ Builtin.List.listTooLong (its.toArray.size * k.toNat) = true := by
    rw [notLongL hlen]
    exact Bool.false_ne_true
  have hnew : List.foldl (fun x1 x2 => x1 ++ x2) #[] (List.replicate (if its.toArray.isEmpty = true then 0 else k.toNat) its.toArray) = (List.replicate k.toNat its).flatten.toArray := by
    have f0 : ∀ m : Nat, List.foldl (fun x1 x2 => x1 ++ x2) #[] (List.replicate m its.toArray) = (List.replicate m its).flatten.toArray := fun m => by
      have := foldl_rep its m []
      rw [List.nil_append] at this
      exact this
    rw [f0]
    cases its with
    | nil => simp
    | cons a r' => rw [if_neg (by simp)]
  refine wpAny_binaryOp_repeat_ref (T := "list") (U := "int") (by decide) ⟨_, ho, rfl⟩ (fun s' => typeIs_int s' k t) noFill_list_mul F.fills_int_mul F.slot_int_rmul repeat_list F.slot_int_index.lookup
    (call_meets F.slot_int_rmul (typeIs_int s k t) F.entry_int_rmul (F.args_int_rmul_2 _ _) (int_rmulW k t l its.toArray n dd sl)
      ⟨ho, rfl, ⟨_, ho, rfl⟩, call_meets F.slot_list_mul ⟨_, ho, rfl⟩ F.entry_list_mul (F.args_list_mul_2 _ _) (list_mulW l its.toArray n dd sl k t hfit hcap hlong) ⟨ho, ?_⟩⟩)
  rw [hnew]
  exact ⟨.ref _, _, I.lnew (t' := s.toks) (r.rep k.toNat) (by rw [PyProof.Rows.lm_len_rep_flat, Nat.mul_comm]; exact hz), rfl, q _ I.fresh⟩

theorem foldl_repS (its : List Nat) : ∀ (k : Nat) (acc : List Nat),
    List.foldl (fun x1 x2 => x1 ++ x2) acc.toArray (List.replicate k its.toArray) = (acc ++ (List.replicate k its).flatten).toArray
  | 0, acc => by simp
  | k + 1, acc => by
    have e : acc.toArray ++ its.toArray = (acc ++ its).toArray := by simp
    have e2 : (acc ++ its) ++ (List.replicate k its).flatten = acc ++ (List.replicate (k + 1) its).flatten := by
      rw [List.replicate_succ, List.flatten_cons, List.append_assoc]
    rw [← e2, ← foldl_repS its k (acc ++ its), ← e, List.replicate_succ, List.foldl_cons]
end
section
variable {X : Cx}
def rRepS : R2 := fun x y H Q => ∃ a k, x = .str a ∧ y = .int k ∧ 1 ≤ k ∧ k < 2 ^ 62 ∧ a.length * k.toNat ≤ sizeLine ∧ Q (.str ⟨(List.replicate k.toNat a.cps.toList).flatten.toArray⟩) H
theorem op_repS : OpR X (binaryOp .Mult) rRepS := by
  intro pins s σ H x y v u Q I rx ry h
  obtain ⟨a, k, rfl, rfl, h1, h2, hz, q⟩ := h
  obtain ⟨t, rfl⟩ := rx
  obtain ⟨t', rfl⟩ := ry
  have hs : (sizeLine : Nat) < 2 ^ 25 := by decide
  have ea : ⟨(List.replicate k.toNat a.cps.toList).flatten.toArray⟩ = (⟨(List.replicate k.toNat a.cps).foldl (· ++ ·) #[]⟩ : Str) := by
    have := foldl_repS a.cps.toList k.toNat []
    rw [List.nil_append] at this
    rw [← this]
  refine PySem.P.mul_str ?_ (fun _ hc => ?_) (fun _ _ => ?_) ?_
  · rw [decide_eq_false (by omega), decide_eq_false (by omega)]; rfl
  · have hk : (0 : Int) < k := by omega
    intro hgt
    have h3 := (Int.ediv_lt_iff_lt_mul hk).mp hgt
    have h4 : ((a.length * k.toNat : Nat) : Int) = (a.length : Int) * k := by
      rw [Int.natCast_mul, Int.toNat_of_nonneg (by omega)]
    omega
  · unfold Builtin.Str.tooLong
    exact decide_eq_false (by omega)
  · rw [if_neg (by omega)]
    have hfit : (⟨(List.replicate k.toNat a.cps).foldl (· ++ ·) #[]⟩ : Str).length ≤ sizeLine := by
      rw [← ea]
      show (List.replicate k.toNat a.cps.toList).flatten.toArray.size ≤ sizeLine
      rw [List.size_toArray, PyProof.Rows.lm_len_rep_flat]
      show k.toNat * a.cps.toList.length ≤ sizeLine
      rw [Array.length_toList, Nat.mul_comm]
      exact hz
    split
    · rename_i hc
      have : a = (⟨(List.replicate k.toNat a.cps.toList).flatten.toArray⟩ : Str) := by
        rcases (Bool.or_eq_true _ _).mp hc with z | z
        · have : k = 1 := by simpa using z
          subst this
          cases a
          simp
        · have z0 : a.length = 0 := by simpa using z
          have : a.cps = #[] := Array.eq_empty_of_size_eq_zero z0
          cases a
          simp only at this
          subst this
          simp
      rw [← this] at q
      exact ⟨.str a, H, I, ⟨_, rfl⟩, q⟩
    · refine ⟨hfit, ?_⟩
      rw [← ea]
      exact ⟨.str _, H, I.tok _, ⟨_, rfl⟩, q⟩
end
end Mi
/-! Mi4: operators. -/
namespace Mi
open PySem PySem.Spec PyProof.Rows L2

/-- a result: it stands, or it is new -/
structure Fin (K : Fr) (D : Addr → Prop) (H : Hp) (r : Val) (Q : VK) : Prop where
  now : ∀ x, Den K D H r x → Q x H
  new : ∀ p o, H p = none → NewRel K D H r o → Q (.ref p) (upd H p o)
theorem big_line : big = sizeLine := by rw [sizeLine_eq]; rfl

section
variable {K : Fr} {W : WX} {Xc : Addr → Prop} {σ : List (Option V)} {H H0 : Hp} {env : Env} {μ μ0 : Mu}
theorem EPost.fin {Q : VK} {v : Val} (q : EPost K Xc σ H0 env μ0 Q v μ) (S : SRel K Xc σ H env μ) (E : Ext μ0 H0 μ H) : Fin K (Dn Xc μ) H v Q :=
  ⟨fun x d => q x H S E d, fun p o hp r => q.new p o H S E hp r⟩
theorem FPost.fin {Q : VK} {v : Val} (q : FPost K Xc σ H0 env μ0 Q v μ) (S : SRel K Xc σ H env μ) (E : Ext μ0 H0 μ H) {p : Addr} {o : HO} (hp : H p = none) (r : NewRel K (Dn Xc μ) H v o) : Q (.ref p) (upd H p o) := q p o H S E hp r
theorem DenL.nil_l {D : Addr → Prop} {l : List Val} (h : DenL K D H l []) : l = [] := by
  cases l with
  | nil => rfl
  | cons _ _ => obtain ⟨_, _, h, _⟩ := h; cases h
/-- the content of a scalar -/
theorem MRel.int (m : MRel K Xc μ H) {v : Val} {x : V} {i : Int} (d : Den K (Dn Xc μ) H v x) (h : content μ v = some (.int i)) : x = .int i := m.flat d h trivial
theorem MRel.strV (m : MRel K Xc μ H) {v : Val} {x : V} {i : Str} (d : Den K (Dn Xc μ) H v x) (h : content μ v = some (.str i)) : x = .str i ∧ PyData.strOk i = true := m.flat d h trivial
end

section
variable {X : Cx} {pins : List (Addr × Obj)} {σ : List (Option V)} {H : Hp} {s : Shared} {l : Addr} {xs : List V}
/-- list + list, read -/
def rCatR (K : Fr) : R2 := fun x y H Q => ∃ l b xs zs, x = .ref l ∧ y = .ref b ∧ SqL K H l xs ∧ SqL K H b zs ∧ xs.length + zs.length ≤ sizeLine ∧ ∀ p, H p = none → Q (.ref p) (upd H p (.lst (xs ++ zs)))
theorem op_catR : OpR X (binaryOp .Add) (rCatR X.K) := by
  intro pins s σ H x y v u Q I rx ry h
  obtain ⟨l, b, xs, zs, rfl, rfl, hH, hB, hz, q⟩ := h
  cases rx
  cases ry
  obtain ⟨its, r, hl, z⟩ := I.list hH
  obtain ⟨its2, r2, hl2, z2⟩ := I.list hB
  have el := r.length
  have el2 := r2.length
  obtain ⟨⟨cls, dd, data, sl⟩, ho, hc, n, hd⟩ := id hl.isList
  obtain ⟨⟨cls2, dd2, data2, sl2⟩, ho2, hc2, n2, hd2⟩ := id hl2.isList
  simp only at hc hd hc2 hd2
  subst hc hd hc2 hd2
  have ea : its.toArray ++ its2.toArray = (its ++ its2).toArray := by simp
  refine concat_meets ⟨_, ho, rfl⟩ ⟨_, ho2, rfl⟩ noFill_list_add seq_list_add PySem.F.slot_list_add PySem.F.entry_list_add (PySem.F.args_list_add_2 _ _) (list_addW l b its.toArray its2.toArray n n2 dd dd2 sl sl2 (by rw [List.size_toArray, List.size_toArray]; omega)) ⟨ho, ho2, ?_⟩
  rw [ea]
  exact ⟨.ref _, _, I.lnew (t' := s.toks) (r.append r2) (by rw [List.length_append]; omega), rfl, q _ I.fresh⟩
end

theorem strOk_append {a b : Str} (ha : PyData.strOk a = true) (hb : PyData.strOk b = true) : PyData.strOk (a ++ b) = true := by
  unfold PyData.strOk at *
  show ((a.cps ++ b.cps).all _) = true
  rw [Array.all_append, ha, hb]; rfl

theorem all_rep {p : Nat → Bool} {l : List Nat} (h : l.all p = true) : ∀ k : Nat, (List.replicate k l).flatten.all p = true
  | 0 => rfl
  | k + 1 => by rw [List.replicate_succ, List.flatten_cons, List.all_append, h, all_rep h k]; rfl
theorem strOk_rep {a : Str} (k : Int) (ha : PyData.strOk a = true) : PyData.strOk (repS a k) = true := by
  unfold PyData.strOk at *
  show ((List.replicate k.toNat a.cps.toList).flatten.toArray.all _) = true
  rw [List.all_toArray]
  rw [← Array.all_toList] at ha
  exact all_rep ha _
theorem DenL.rep {K : Fr} {D : Addr → Prop} {H : Hp} {l : List Val} {xs : List V} (h : DenL K D H l xs) : ∀ k : Nat, DenL K D H (List.replicate k l).flatten (List.replicate k xs).flatten
  | 0 => rfl
  | k + 1 => by
    rw [List.replicate_succ, List.flatten_cons, List.replicate_succ, List.flatten_cons]
    exact h.append (h.rep k)

def pyOp : Op → Operator
  | .add => .Add
  | .sub => .Sub
  | .mul => .Mult
  | .mod => .Mod
  | .fdiv => .FloorDiv
  | .pow => .Pow

section
variable {X : Cx} {Φ : Ph} {W : WX} {a b c : Expr} {pos : Pos}
/-- what an operator is by values -/
def rBin (K : Fr) (o : Op) : R2 := fun x y H Q => ∃ Xc μ v w r, MRel K Xc μ H ∧ Den K (Dn Xc μ) H v x ∧ Den K (Dn Xc μ) H w y ∧ binV μ o v w = some r ∧ Fin K (Dn Xc μ) H r Q
theorem op_bin (o : Op) : OpR X (binaryOp (pyOp o)) (rBin X.K o) := by
  intro pins s σ H x y v u Q I rx ry h
  obtain ⟨Xc, μ, v', w', r, m, d1, d2, e, f⟩ := h
  unfold binV at e
  cases e1 : content μ v' with
  | none => rw [e1] at e; cases e
  | some a =>
    cases e2 : content μ w' with
    | none => rw [e1, e2] at e; cases e
    | some b =>
      rw [e1, e2] at e
      replace e : binC o a b = some r := e
      unfold binC at e
      split at e
      · cases e
        exact op_add pins s σ H x y v u Q I rx ry ⟨_, _, m.int d1 e1, m.int d2 e2, f.now _ rfl⟩
      · split at e
        · rename_i hz
          cases e
          obtain ⟨h1, o1⟩ := m.strV d1 e1
          obtain ⟨h2, o2⟩ := m.strV d2 e2
          exact op_add_str pins s σ H x y v u Q I rx ry ⟨_, _, h1, h2, by rw [← big_line]; exact hz, f.now _ ⟨rfl, strOk_append o1 o2⟩⟩
        · cases e
      · split at e
        · rename_i hz
          cases e
          obtain ⟨a1, xs, h1, q1, l1⟩ := m.lst d1 e1
          obtain ⟨a2, ys, h2, q2, l2⟩ := m.lst d2 e2
          exact op_catR pins s σ H x y v u Q I rx ry ⟨a1, a2, xs, ys, h1, h2, q1, q2, by rw [← big_line, ← l1.length, ← l2.length]; exact hz, fun p hp => f.new p _ hp ⟨_, rfl, l1.append l2⟩⟩
        · cases e
      · split at e
        · rename_i hz
          cases e
          obtain ⟨a1, xs, h1, q1, l1⟩ := m.tup d1 e1
          obtain ⟨a2, ys, h2, q2, l2⟩ := m.tup d2 e2
          subst h1; subst h2
          have side : ∀ {v : Val} {a : Addr} {l : List Val}, Den X.K (Dn Xc μ) H v (.ref a) → content μ v = some (.tup l) → Den X.K (Dn Xc μ) H (.tup l) (.ref a) := fun {v a l} d h => by
            cases v with
            | ref b => obtain ⟨o, _, z⟩ := m.obj b _ h; exact z.elim
            | tup _ => cases h; exact d
            | _ => cases h
          refine op_catA pins s σ H _ _ v u Q I rx ry ⟨a1, a2, xs, ys, rfl, rfl, q1, q2, by rw [← big_line, ← l1.length, ← l2.length]; exact hz, fun z => ?_, fun z z2 => ?_, fun z z2 p hp => f.new p _ hp ⟨_, rfl, l1.append l2⟩⟩
          · subst z
            have h0 := DenL.nil_l l1
            subst h0
            exact f.now _ (by rw [List.nil_append]; exact side d2 e2)
          · subst z2
            have h0 := DenL.nil_l l2
            subst h0
            exact f.now _ (by rw [List.append_nil]; exact side d1 e1)
        · cases e
      · cases e
        exact op_sub pins s σ H x y v u Q I rx ry ⟨_, _, m.int d1 e1, m.int d2 e2, f.now _ rfl⟩
      · split at e
        · rename_i hz
          cases e
          exact op_mul pins s σ H x y v u Q I rx ry ⟨_, _, m.int d1 e1, m.int d2 e2, hz, f.now _ rfl⟩
        · cases e
      · split at e
        · rename_i hz
          cases e
          obtain ⟨h1, o1⟩ := m.strV d1 e1
          exact op_repS pins s σ H x y v u Q I rx ry ⟨_, _, h1, m.int d2 e2, hz.1, hz.2.1, by rw [← big_line]; exact hz.2.2, f.now _ ⟨rfl, strOk_rep _ o1⟩⟩
        · cases e
      · split at e
        · rename_i hz
          cases e
          obtain ⟨a1, xs, h1, q1, l1⟩ := m.lst d1 e1
          exact op_repR pins s σ H x y v u Q I rx ry ⟨a1, _, xs, h1, m.int d2 e2, q1, by omega, by omega, by rw [← big_line, ← l1.length]; exact hz.2.2, fun p hp => f.new p _ hp ⟨_, rfl, l1.rep _⟩⟩
        · cases e
      · split at e
        · rename_i hz
          cases e
          exact op_modN pins s σ H x y v u Q I rx ry ⟨_, _, m.int d1 e1, m.int d2 e2, hz, f.now _ rfl⟩
        · cases e
      · split at e
        · rename_i hz
          cases e
          exact op_fdivN pins s σ H x y v u Q I rx ry ⟨_, _, m.int d1 e1, m.int d2 e2, hz, f.now _ rfl⟩
        · cases e
      · split at e
        · rename_i hz
          cases e
          exact op_pow pins s σ H x y v u Q I rx ry ⟨_, _, m.int d1 e1, m.int d2 e2, hz, f.now _ rfl⟩
        · cases e
      · cases e
theorem se_bin (hΦ : MonoP Φ) (o : Op) {ea eb : E} (ha : SE X Φ W a ea) (hb : SE X Φ W b eb) : SE X Φ W (.BinOp a (pyOp o) b pos) (.bin o ea eb) :=
  PE.imp (pe_op (op_bin o) ha hb) fun σ H Q ⟨Xc, env, μ, S, q⟩ => by
    rw [wpE] at q
    refine use hΦ S Ext.refl q fun v μ1 x H1 S1 E1 _ d q1 => use hΦ S1 E1 q1 fun w μ2 y H2 S2 E2 E2' d2 q2 => ?_
    split at q2
    · rename_i r hr
      exact ⟨Xc, μ2, v, w, r, S2.m, d.ext E2, d2, hr, q2.fin S2 E2'⟩
    · exact q2.elim
/-- list + list, as a new thing -/
theorem sf_cat (hΦ : MonoP Φ) {ea eb : E} (ha : SE X Φ W a ea) (hb : SE X Φ W b eb) : SE X Φ W (.BinOp a .Add b pos) (.new (.bin .add ea eb)) :=
  PE.imp (pe_op op_catR ha hb) fun σ H Q ⟨Xc, env, μ, S, q⟩ => by
    simp only [wpE] at q
    refine use hΦ S Ext.refl q fun v μ1 x H1 S1 E1 _ d q1 => use hΦ S1 E1 q1 fun w μ2 y H2 S2 E2 E2' d2 q2 => ?_
    split at q2
    · rename_i r hr
      obtain ⟨hc, k⟩ := q2
      unfold binV at hr
      cases e1 : content μ2 v with
      | none => rw [e1] at hr; cases hr
      | some a =>
        cases e2 : content μ2 w with
        | none => rw [e1, e2] at hr; cases hr
        | some b =>
          rw [e1, e2] at hr
          replace hr : binC .add a b = some r := hr
          cases a <;> cases b <;> simp only [binC] at hr <;> first
            | (cases hr; done)
            | (split at hr <;> first | (cases hr; done) | skip)
            | skip
          all_goals first
            | (cases hr; cases hc; done)
            | skip
          rename_i la lb hz
          cases hr
          obtain ⟨a1, xs, h1, p1, l1⟩ := S2.m.lst (d.ext E2) e1
          obtain ⟨a2, ys, h2, p2, l2⟩ := S2.m.lst d2 e2
          refine ⟨a1, a2, xs, ys, h1, h2, p1, p2, by rw [← big_line, ← l1.length, ← l2.length]; exact hz, fun p hp => ?_⟩
          exact k p (dn_none (S2.m.fresh hp)) _ _ (S2.laidM hp ⟨_, rfl, l1.append l2⟩) (E2'.trans (Ext.laidM hp)) rfl
    · exact q2.elim

/-- list * int, as a new thing -/
theorem sf_rep (hΦ : MonoP Φ) {ea eb : E} (ha : SE X Φ W a ea) (hb : SE X Φ W b eb) : SE X Φ W (.BinOp a .Mult b pos) (.new (.bin .mul ea eb)) :=
  PE.imp (pe_op op_repR ha hb) fun σ H Q ⟨Xc, env, μ, S, q⟩ => by
    simp only [wpE] at q
    refine use hΦ S Ext.refl q fun v μ1 x H1 S1 E1 _ d q1 => use hΦ S1 E1 q1 fun w μ2 y H2 S2 E2 E2' d2 q2 => ?_
    split at q2
    · rename_i r hr
      obtain ⟨hc, k⟩ := q2
      unfold binV at hr
      cases e1 : content μ2 v with
      | none => rw [e1] at hr; cases hr
      | some a =>
        cases e2 : content μ2 w with
        | none => rw [e1, e2] at hr; cases hr
        | some b =>
          rw [e1, e2] at hr
          replace hr : binC .mul a b = some r := hr
          cases a <;> cases b <;> simp only [binC] at hr <;> first
            | (cases hr; done)
            | (split at hr <;> first | (cases hr; done) | skip)
            | skip
          all_goals first
            | (cases hr; cases hc; done)
            | skip
          rename_i la lb hz
          cases hr
          obtain ⟨a1, xs, h1, p1, l1⟩ := S2.m.lst (d.ext E2) e1
          refine ⟨a1, _, xs, h1, S2.m.int d2 e2, p1, by omega, by omega, by rw [← big_line, ← l1.length]; exact hz.2.2, fun p hp => ?_⟩
          exact k p (dn_none (S2.m.fresh hp)) _ _ (S2.laidM hp ⟨_, rfl, l1.rep _⟩) (E2'.trans (Ext.laidM hp)) rfl
    · exact q2.elim

/-! ### comparisons of ints -/
def pyCm : Cm → CmpOp
  | .lt => .Lt
  | .le => .LtE
  | .gt => .Gt
  | .ge => .GtE
theorem op_cm (o : Cm) : OpR X (compareOp (pyCm o)) (rI0 fun i j => .bl (cmpI o i j)) := by
  cases o with
  | lt => exact op_lt
  | le => exact op_le
  | gt => exact op_gt
  | ge => exact op_ge
theorem mark_cm (o : Cm) (b : Expr) : behindInMarks (pyCm o) b = false := by cases o <;> exact nomark _
theorem cmpV_ints {c : Cm} {v w : Val} {r : Bool} (h : cmpV c v w = some r) : ∃ i j, v = .int i ∧ w = .int j ∧ r = cmpI c i j := by
  unfold cmpV at h
  split at h
  · cases h; exact ⟨_, _, rfl, rfl, rfl⟩
  · cases h
theorem cmp_read (hΦ : MonoP Φ) {K : Fr} {mg : Str → Option Value} (o : Cm) {ea eb : E} {σ : List (Option V)} {H : Hp} {Q : VK} (h : rdE K mg Φ W (.cmp o ea eb) σ H Q) : tOp (rI0 fun i j => .bl (cmpI o i j)) (rdE K mg Φ W ea) (rdE K mg Φ W eb) σ H Q := by
  obtain ⟨Xc, env, μ, S, q⟩ := h
  rw [wpE] at q
  refine use hΦ S Ext.refl q fun v μ1 x H1 S1 E1 _ d q1 => use hΦ S1 E1 q1 fun w μ2 y H2 S2 E2 E2' d2 q2 => ?_
  split at q2
  · rename_i r hr
    obtain ⟨i, j, rfl, rfl, rfl⟩ := cmpV_ints hr
    exact ⟨i, j, d, d2, q2 _ _ S2 E2' rfl⟩
  · exact q2.elim
theorem se_cmp (hΦ : MonoP Φ) (o : Cm) {ea eb : E} (ha : SE X Φ W a ea) (hb : SE X Φ W b eb) : SE X Φ W (.Compare a [pyCm o] [b] pos) (.cmp o ea eb) :=
  PE.imp (pe_cmpR (op_cm o) ha hb (mark_cm o b)) fun σ H Q h => cmp_read hΦ o h
end
end Mi
/-! Mi4b: == of tuples whose items are equal, whatever they are. -/
namespace Mi
open PySem PySem.Spec PyProof.Rows L2
open AutoSeq1 (wpAny_loadPart')
section
variable {prog : Program} {w : World}
/-- the two tuples at a and b, their items equal one by one -/
structure TupTwin (prog : Program) (w : World) (A : Around) (s : Shared) (a b : Addr) (xs ys : Array Value) : Prop where
  fst : ∃ n dd sl, s.heap.get? a = some { cls := .type "tuple", dict := dd, data := .seq xs n, slots := sl }
  snd : ∃ n dd sl, s.heap.get? b = some { cls := .type "tuple", dict := dd, data := .seq ys n, slots := sl }
  size : xs.size = ys.size
  eq : ∀ p ∈ xs.toList.zip ys.toList, SeqAt.EqP prog w A.in1 s p.1 p.2 true
theorem twin_eq (a b : Addr) (xs ys : Array Value) : MeetsIn prog w (Builtin.«tuple.__eq__» ⟨[.ref a, .ref b], []⟩) (fun A R s => TupTwin prog w A s a b xs ys ∧ R (.ok (.ret (.bool true))) s) := by
  intro A R s h
  obtain ⟨hp, g, d, tk, os⟩ := s
  obtain ⟨⟨⟨n, dd, sl, ha⟩, ⟨n2, dd2, sl2, hb⟩, hsz, he⟩, h⟩ := h
  have f2 := AutoSeq1.sub_tuple_tuple
  wp_walk using wpAny_loadPart' ha, wpAny_loadPart' hb, wpAny_forIn_list _ (fun rest b s' => b.1 = none ∧ s' = ⟨hp, g, d, tk, os⟩ ∧ ∀ p ∈ rest, SeqAt.EqP prog w A.in1 ⟨hp, g, d, tk, os⟩ p.1 p.2 true) _
  case turn =>
    rintro ⟨y, x⟩ rest b s' ⟨hb', rfl, hall⟩
    refine wpAny_bind (hall _ List.mem_cons_self _ _ ?_)
    wp_walk
    exact ⟨rfl, rfl, fun p hp => hall p (List.mem_cons_of_mem _ hp)⟩
  case fin =>
    rintro ⟨b1, b2⟩ s' ⟨hb', rfl, hall⟩
    simp only at hb'
    subst hb'
    wp_walk
    simpa [Builtin.Tuple.tupleCompareSizes, hsz] using h
  case h => exact ⟨rfl, rfl, he⟩
theorem twin_ne (a b : Addr) (xs ys : Array Value) : MeetsIn prog w (Builtin.«tuple.__ne__» ⟨[.ref a, .ref b], []⟩) (fun A R s => TupTwin prog w A s a b xs ys ∧ R (.ok (.ret (.bool false))) s) := by
  intro A R s h
  obtain ⟨hp, g, d, tk, os⟩ := s
  obtain ⟨⟨⟨n, dd, sl, ha⟩, ⟨n2, dd2, sl2, hb⟩, hsz, he⟩, h⟩ := h
  have f2 := AutoSeq1.sub_tuple_tuple
  wp_walk using wpAny_loadPart' ha, wpAny_loadPart' hb, wpAny_forIn_list _ (fun rest b s' => b.1 = none ∧ s' = ⟨hp, g, d, tk, os⟩ ∧ ∀ p ∈ rest, SeqAt.EqP prog w A.in1 ⟨hp, g, d, tk, os⟩ p.1 p.2 true) _
  case turn =>
    rintro ⟨y, x⟩ rest b s' ⟨hb', rfl, hall⟩
    refine wpAny_bind (hall _ List.mem_cons_self _ _ ?_)
    wp_walk
    exact ⟨rfl, rfl, fun p hp => hall p (List.mem_cons_of_mem _ hp)⟩
  case fin =>
    rintro ⟨b1, b2⟩ s' ⟨hb', rfl, hall⟩
    simp only at hb'
    subst hb'
    wp_walk
    simpa [Builtin.Tuple.tupleCompareSizes, hsz] using h
  case h => exact ⟨rfl, rfl, he⟩
variable {A : Around} {s : Shared} {a b : Addr} {xs ys : Array Value}
theorem twin_cmpEq (t : TupTwin prog w A s a b xs ys) (hu : A.units < cLine) (E Q : Value → Shared → Prop) (q : Q (.bool true) s) : wpAny (model prog w) A (richCompare .Eq (.ref a) (.ref b)) Q E s := by
  obtain ⟨n, dd, sl, ha⟩ := t.fst
  obtain ⟨n2, dd2, sl2, hb⟩ := t.snd
  have ta : s.TypeIs (.ref a) "tuple" := ⟨_, ha, rfl⟩
  exact wpAny_richCompare_same_room (op := .Eq) ta ⟨_, hb, rfl⟩ PySem.F.slot_tuple_eq (call_meetsIn PySem.F.slot_tuple_eq ta PySem.F.entry_tuple_eq (PySem.F.args_tuple_eq_2 _ _) (twin_eq a b xs ys) ⟨t, show Value.bool true ≠ Value.notImplemented ∧ Q (.bool true) s from ⟨(fun x => nomatch x), q⟩⟩) hu
theorem twin_cmpNe (t : TupTwin prog w A s a b xs ys) (hu : A.units < cLine) (E Q : Value → Shared → Prop) (q : Q (.bool false) s) : wpAny (model prog w) A (richCompare .NotEq (.ref a) (.ref b)) Q E s := by
  obtain ⟨n, dd, sl, ha⟩ := t.fst
  obtain ⟨n2, dd2, sl2, hb⟩ := t.snd
  have ta : s.TypeIs (.ref a) "tuple" := ⟨_, ha, rfl⟩
  exact wpAny_richCompare_same_room (op := .NotEq) ta ⟨_, hb, rfl⟩ PySem.F.slot_tuple_ne (call_meetsIn PySem.F.slot_tuple_ne ta PySem.F.entry_tuple_ne (PySem.F.args_tuple_ne_2 _ _) (twin_ne a b xs ys) ⟨t, show Value.bool false ≠ Value.notImplemented ∧ Q (.bool false) s from ⟨(fun x => nomatch x), q⟩⟩) hu
end
end Mi
/-! Mi5: ==, in, None, and, or, not. -/
namespace Mi
open PySem PySem.Spec PyProof.Rows L2
/-- room for what compares deeply -/
structure RoomH (k : Nat) (A : Around) : Prop where
  un : A.units + 16 * k + 200 < cLine
theorem roomH_of {k : Nat} {A : Around} (r : Room k A) : RoomH k A := ⟨r.un⟩

mutual
def toPy : Val → PyData
  | .bl b => .bool b
  | .int i => .int i
  | .str s => .str s
  | .tup l => .tuple (toPyL l)
  | .lst l => .list (toPyL l)
  | _ => .none
def toPyL : List Val → List PyData
  | [] => []
  | v :: r => toPy v :: toPyL r
end
mutual
theorem dep_py : ∀ v : Val, (toPy v).depth = dep v
  | .non => rfl
  | .bl _ => rfl
  | .int _ => rfl
  | .str _ => rfl
  | .tup l => by simp only [toPy, dep, PyData.depth, depL_py l]
  | .lst l => by simp only [toPy, dep, PyData.depth, depL_py l]
  | .dct _ => rfl
  | .ref _ => rfl
  | .exn _ _ => rfl
  | .ins _ _ => rfl
theorem depL_py : ∀ l : List Val, PyData.depthAll (toPyL l) = depL l
  | [] => rfl
  | v :: r => by simp only [toPyL, depL, PyData.depthAll, dep_py v, depL_py r]
end
mutual
theorem eqb_py : ∀ v w : Val, plain v = true → plain w = true → PyData.eqv (toPy v) (toPy w) = eqb v w
  | .non, w, h, h' => by cases w <;> first | rfl | cases h'
  | .bl _, w, h, h' => by cases w <;> first | rfl | cases h'
  | .int _, w, h, h' => by cases w <;> first | rfl | cases h'
  | .str _, w, h, h' => by cases w <;> first | rfl | cases h'
  | .tup l, w, h, h' => by
    cases w with
    | tup r => exact eqbL_py l r h h'
    | _ => first | rfl | cases h'
  | .lst l, w, h, h' => by
    cases w with
    | lst r => exact eqbL_py l r h h'
    | _ => first | rfl | cases h'
  | .dct _, _, h, _ => by cases h
  | .ref _, _, h, _ => by cases h
  | .exn _ _, _, h, _ => by cases h
  | .ins _ _, _, h, _ => by cases h
theorem eqbL_py : ∀ l r : List Val, plainL l = true → plainL r = true → PyData.eqvAll (toPyL l) (toPyL r) = eqbL l r
  | [], [], _, _ => rfl
  | [], _ :: _, _, _ => rfl
  | _ :: _, [], _, _ => rfl
  | v :: l, w :: r, h, h' => by
    have h1 := Bool.and_eq_true_iff.mp h
    have h2 := Bool.and_eq_true_iff.mp h'
    simp only [toPyL, PyData.eqvAll, eqbL, eqb_py v w h1.1 h2.1, eqbL_py l r h1.2 h2.2]
end
theorem any_py : ∀ (l : List Val) (x : Val), plain x = true → plainL l = true → (toPyL l).any (fun y => PyData.eqv y (toPy x)) = l.any fun y => eqb y x
  | [], _, _, _ => rfl
  | v :: r, x, hx, h => by
    have h1 := Bool.and_eq_true_iff.mp h
    simp only [toPyL, List.any_cons, eqb_py v x h1.1 hx, any_py r x hx h1.2]
section
variable {K : Fr} {D : Addr → Prop} {H : Hp}
mutual
theorem dp_of : ∀ (v : Val) (x : V), plain v = true → Den K D H v x → Dp K H x (toPy v) ∧ (toPy v).canLay0 = true
  | .non, x, _, h => by rw [show x = _ from h]; exact ⟨.non, by simp [toPy, PyData.canLay0]⟩
  | .bl b, x, _, h => by rw [show x = _ from h]; exact ⟨.bl b, by simp [toPy, PyData.canLay0]⟩
  | .int b, x, _, h => by rw [show x = _ from h]; exact ⟨.int b, by simp [toPy, PyData.canLay0]⟩
  | .str b, x, _, h => by
    obtain ⟨e, o⟩ := h
    rw [e]
    exact ⟨.str b, by simpa [toPy, PyData.canLay0] using o⟩
  | .tup l, x, p, ⟨a, xs, e, q, hl⟩ => by
    obtain ⟨h1, h2⟩ := dpL_of l xs p hl
    rw [e]
    refine ⟨.tup ?_ h1, by simpa [toPy, PyData.canLay0] using h2⟩
    rcases q with ⟨_, q⟩ | q
    · exact .inl q
    · exact .inr q
  | .lst l, x, p, ⟨a, xs, e, q, hl⟩ => by
    obtain ⟨h1, h2⟩ := dpL_of l xs p hl
    rw [e]
    refine ⟨.lst ?_ h1, by simpa [toPy, PyData.canLay0] using h2⟩
    rcases q with ⟨_, q⟩ | q
    · exact .inl q
    · exact .inr q
  | .dct _, _, h, _ => by cases h
  | .ref _, _, h, _ => by cases h
  | .exn _ _, _, h, _ => by cases h
  | .ins _ _, _, h, _ => by cases h
theorem dpL_of : ∀ (l : List Val) (xs : List V), plainL l = true → DenL K D H l xs → DpAll K H xs (toPyL l) ∧ PyData.canLayAll0 (toPyL l) = true
  | [], xs, _, h => by rw [show xs = _ from h]; exact ⟨.nil, by simp [toPyL, PyData.canLayAll0]⟩
  | v :: r, xs, p, ⟨x, t, e, h1, h2⟩ => by
    have p1 := Bool.and_eq_true_iff.mp p
    obtain ⟨a1, a2⟩ := dp_of v x p1.1 h1
    obtain ⟨b1, b2⟩ := dpL_of r t p1.2 h2
    rw [e]
    exact ⟨.cons a1 b1, by simp [toPyL, PyData.canLayAll0, a2, b2]⟩
end
end
section
variable {K : Fr} {Xc : Addr → Prop} {H : Hp} {μ : Mu}
/-- the content stands there as well -/
theorem MRel.dp (m : MRel K Xc μ H) {v w : Val} {x : V} (d : Den K (Dn Xc μ) H v x) (e : content μ v = some w) (p : plain w = true) : Dp K H x (toPy w) ∧ (toPy w).canLay0 = true := by
  cases v with
  | ref a =>
    obtain ⟨o, ho, r⟩ := m.obj a w e
    cases w with
    | lst l =>
      obtain ⟨xs, rfl, hl⟩ := r
      obtain ⟨h1, h2⟩ := dpL_of l xs p hl
      rw [show x = V.ref a from d]
      exact ⟨.lst (SqL.of ho) h1, by simpa [toPy, PyData.canLay0] using h2⟩
    | dct l => cases p
    | ins _ _ => cases p
    | _ => exact r.elim
  | _ => cases e; exact dp_of _ x p d
end

section
variable {X : Cx} {Φ : Ph} {W : WX} {a b c : Expr} {pos : Pos}
def pyEq : Eqm → CmpOp
  | .eq => .Eq
  | .ne => .NotEq
def flip (o : Eqm) (r : Bool) : Bool := match o with | .eq => r | .ne => !r
def pyIn : Inm → CmpOp
  | .isin => .In
  | .notin => .NotIn
def flipI (o : Inm) (r : Bool) : Bool := match o with | .isin => r | .notin => !r

theorem den_flat {K : Fr} {D : Addr → Prop} {H : Hp} {v w : Val} {x y : V} (d : Den K D H v x) (d' : Den K D H w y) (h : flatEq v w = true) : x = y ∧ flatB x = true := by
  unfold flatEq at h
  split at h
  · rw [show x = _ from d, show y = _ from d']; exact ⟨rfl, rfl⟩
  · rw [show x = _ from d, show y = _ from d', eq_of_beq h]; exact ⟨rfl, rfl⟩
  · rw [show x = _ from d, show y = _ from d', eq_of_beq h]; exact ⟨rfl, rfl⟩
  · rw [d.1, d'.1, eq_of_beq h]; exact ⟨rfl, rfl⟩
  · cases h
theorem keyEq_of {k k' : Val} {j j' : Key} (h : keyOf k = some j) (h' : keyOf k' = some j') : keyEq k k' = decide (j = j') := by
  cases k <;> first | (cases h; done) | skip
  all_goals (cases k' <;> first | (cases h'; done) | skip)
  all_goals (cases h; cases h'; simp only [keyEq])
  · exact (key_ll _ _).symm
  · exact (key_lr _ _).symm
  · exact (key_rl _ _).symm
  · rw [key_rr]; rfl
theorem DenP.look {K : Fr} {D : Addr → Prop} {H : Hp} {k : Val} {j : Key} (hk : keyOf k = some j) : ∀ {l : List Val} {kvs : List (Key × V)}, DenP K D H l kvs →
    (match dLook k l with | some v => ∃ x, valV kvs j = some x ∧ Den K D H v x | none => valV kvs j = none)
  | [], kvs, h => by rw [show kvs = [] from h]; rfl
  | .tup [k', v] :: r, kvs, ⟨j', x, t, e, hk', d, dr⟩ => by
    subst e
    have ih := DenP.look hk dr
    simp only [dLook]
    rw [keyEq_of hk hk']
    by_cases z : j = j'
    · rw [decide_eq_true z, if_pos rfl]
      exact ⟨x, valV_pos z.symm, d⟩
    · rw [decide_eq_false z, if_neg Bool.false_ne_true]
      have e2 : valV ((j', x) :: t) j = valV t j := valV_neg (fun q => z q.symm)
      rw [e2]
      exact ih
  | .tup [] :: _, _, h => h.elim
  | .tup [_] :: _, _, h => h.elim
  | .tup (_ :: _ :: _ :: _) :: _, _, h => h.elim
  | .non :: _, _, h => h.elim
  | .bl _ :: _, _, h => h.elim
  | .int _ :: _, _, h => h.elim
  | .str _ :: _, _, h => h.elim
  | .lst _ :: _, _, h => h.elim
  | .dct _ :: _, _, h => h.elim
  | .ref _ :: _, _, h => h.elim
  | .exn _ _ :: _, _, h => h.elim
  | .ins _ _ :: _, _, h => h.elim
theorem DenP.length {K : Fr} {D : Addr → Prop} {H : Hp} : ∀ {l : List Val} {kvs : List (Key × V)}, DenP K D H l kvs → l.length = kvs.length
  | [], kvs, h => by rw [show kvs = [] from h]; rfl
  | .tup [k', v] :: r, kvs, ⟨j', x, t, e, hk', d, dr⟩ => by subst e; rw [List.length_cons, List.length_cons, DenP.length dr]
  | .tup [] :: _, _, h => h.elim
  | .tup [_] :: _, _, h => h.elim
  | .tup (_ :: _ :: _ :: _) :: _, _, h => h.elim
  | .non :: _, _, h => h.elim
  | .bl _ :: _, _, h => h.elim
  | .int _ :: _, _, h => h.elim
  | .str _ :: _, _, h => h.elim
  | .lst _ :: _, _, h => h.elim
  | .dct _ :: _, _, h => h.elim
  | .ref _ :: _, _, h => h.elim
  | .exn _ _ :: _, _, h => h.elim
  | .ins _ _ :: _, _, h => h.elim
theorem dct_hits {K : Fr} {D : Addr → Prop} {H : Hp} {b : List Val} {ls : List (Key × V)} (hb : DenP K D H b ls) : ∀ {a : List Val} {ks : List (Key × V)}, DenP K D H a ks → dctIn b a = true → ∀ p ∈ ks, valV ls p.1 = some p.2 ∧ flatB p.2 = true
  | [], ks, h, _, p, hp => by rw [show ks = [] from h] at hp; cases hp
  | .tup [k', v] :: r, kvs, ⟨j', x, t, e, hk', d, dr⟩, hd, p, hp => by
    subst e
    simp only [dctIn, Bool.and_eq_true] at hd
    obtain ⟨⟨_, h1⟩, h2⟩ := hd
    rcases List.mem_cons.mp hp with rfl | hp
    · have := DenP.look hk' hb
      cases q : dLook k' b with
      | none => rw [q] at h1; cases h1
      | some w =>
        rw [q] at h1 this
        obtain ⟨y, e1, d1⟩ := this
        obtain ⟨e2, e3⟩ := den_flat d d1 h1
        refine ⟨?_, e3⟩
        show valV ls j' = some x
        rw [e1, e2]
    · exact dct_hits hb dr h2 p hp
  | .tup [] :: _, _, h, _, _, _ => h.elim
  | .tup [_] :: _, _, h, _, _, _ => h.elim
  | .tup (_ :: _ :: _ :: _) :: _, _, h, _, _, _ => h.elim
  | .non :: _, _, h, _, _, _ => h.elim
  | .bl _ :: _, _, h, _, _, _ => h.elim
  | .int _ :: _, _, h, _, _, _ => h.elim
  | .str _ :: _, _, h, _, _, _ => h.elim
  | .lst _ :: _, _, h, _, _, _ => h.elim
  | .dct _ :: _, _, h, _, _, _ => h.elim
  | .ref _ :: _, _, h, _, _, _ => h.elim
  | .exn _ _ :: _, _, h, _, _, _ => h.elim
  | .ins _ _ :: _, _, h, _, _, _ => h.elim

def rEqM (K : Fr) (o : Eqm) : R2 := fun x y H Q => ∃ Xc μ v w r, MRel K Xc μ H ∧ Den K (Dn Xc μ) H v x ∧ Den K (Dn Xc μ) H w y ∧ eqV μ v w = some r ∧ Q (.bl (flip o r)) H
section
variable {X : Cx} {pins : List (Addr × Obj)} {σ : L2.St} {H : Hp} {s : Shared} {Xc : Addr → Prop} {μ : Mu}
theorem eq2_run (m : MRel X.K Xc μ H) (I : Inv X pins σ H s) {A : Around} (hu : A.units + 110 < cLine) {v w : Val} {x y : V} {u u' : Value} (d : Den X.K (Dn Xc μ) H v x) (d' : Den X.K (Dn Xc μ) H w y) (rx : RelV x u) (ry : RelV y u') (h : eq2 v w = true) : SeqAt.EqP X.prog X.w A s u u' true := by
  have main : (plain v && plain w && decide (min (dep v) (dep w) ≤ 100) && eqb v w) = true → SeqAt.EqP X.prog X.w A s u u' true := fun h => by
    simp only [Bool.and_eq_true, decide_eq_true_eq] at h
    obtain ⟨⟨⟨pv, pw⟩, hd⟩, he⟩ := h
    obtain ⟨p1, c1⟩ := dp_of v x pv d
    obtain ⟨p2, c2⟩ := dp_of w y pw d'
    obtain ⟨as, r1⟩ := Dp.reads I _ x u p1 rx
    obtain ⟨bs, r2⟩ := Dp.reads I _ y u' p2 ry
    have k := SeqAt.eqAt_reads (toPy v) (toPy w) A s u u' as bs r1 r2 c1 c2 (by rw [dep_py, dep_py]; omega)
    rw [eqb_py v w pv pw, he] at k
    exact k.eqP
  unfold eq2 at h
  split at h
  · rename_i la lb
    simp only [Bool.and_eq_true, decide_eq_true_eq] at h
    obtain ⟨p, ks, h1, q1, l1⟩ := m.dct d rfl
    obtain ⟨p', ls, h2, q2, l2⟩ := m.dct d' rfl
    subst h1; subst h2
    obtain rfl : u = Value.ref p := rx
    obtain rfl : u' = Value.ref p' := ry
    obtain ⟨_, ya, va, ra, da⟩ := dk_rd I.hok q1
    obtain ⟨_, yb, vb, rb, db⟩ := dk_rd I.hok q2
    by_cases e : p = p'
    · subst e
      exact (SeqAt.EqAt.same _).eqP
    · refine SeqAt.eqP_refs e fun E Q q => PySem.W.rcP_dicts (knd := mixKind X.prog X.w) (r := true) ya yb da db (by omega) (fun _ => hits_run (F := fun x y => x = y ∧ flatB x = true) (fun x y v u ⟨e, f⟩ rx ry => ?_) rb ra fun p hp => ?_) E Q ?_
      · subst e
        exact (eqAt_same rx ry f).eqP
      · obtain ⟨e1, e2⟩ := dct_hits l2 l1 h.2 p hp
        exact ⟨_, e1, rfl, e2⟩
      · have e3 : va.length = vb.length := by rw [← ra.length, ← rb.length, ← l1.length, ← l2.length]; exact h.1
        rw [show (va.length == vb.length && true) = true from by rw [e3]; simp]
        exact q
  · exact main h
theorem eq2L_run (m : MRel X.K Xc μ H) (I : Inv X pins σ H s) {A : Around} (hu : A.units + 110 < cLine) : ∀ {l t : List Val} {xs ys : List V} {us ws : List Value}, DenL X.K (Dn Xc μ) H l xs → DenL X.K (Dn Xc μ) H t ys → Vals xs us → Vals ys ws → eq2L l t = true →
    us.length = ws.length ∧ ∀ p ∈ us.zip ws, SeqAt.EqP X.prog X.w A s p.1 p.2 true
  | [], [], xs, ys, us, ws, h1, h2, r1, r2, _ => by
    rw [show xs = [] from h1] at r1
    rw [show ys = [] from h2] at r2
    cases r1
    cases r2
    exact ⟨rfl, fun p hp => by cases hp⟩
  | [], _ :: _, _, _, _, _, _, _, _, _, h => by cases h
  | _ :: _, [], _, _, _, _, _, _, _, _, h => by cases h
  | v :: l, w :: t, xs, ys, us, ws, ⟨x, xr, e1, d1, dr1⟩, ⟨y, yr, e2, d2, dr2⟩, r1, r2, h => by
    subst e1
    subst e2
    cases r1 with
    | cons a1 b1 =>
      cases r2 with
      | cons a2 b2 =>
        have h' : eq2 v w = true ∧ eq2L l t = true := by simpa [eq2L] using h
        obtain ⟨i1, i2⟩ := eq2L_run m I hu dr1 dr2 b1 b2 h'.2
        refine ⟨by rw [List.length_cons, List.length_cons, i1], fun p hp => ?_⟩
        rw [List.zip_cons_cons] at hp
        rcases List.mem_cons.mp hp with rfl | hp
        · exact eq2_run m I hu d1 d2 a1 a2 h'.1
        · exact i2 p hp
end
theorem op_eqM {k : Nat} (hr : RoomH k X.A) (o : Eqm) : OpR X (compareOp (pyEq o)) (rEqM X.K o) := by
  intro pins s σ H x y v u Q I rx ry h
  obtain ⟨Xc, μ, v', w', r, m, d1, d2, e, q⟩ := h
  have hu := hr.un
  unfold eqV at e
  cases e1 : content μ v' with
  | none => rw [e1] at e; cases e
  | some a =>
    cases e2 : content μ w' with
    | none => rw [e1, e2] at e; cases e
    | some b =>
      rw [e1, e2] at e
      replace e : (match eqC a b with | some r => some r | none => eqT a b) = some r := e
      cases hE : eqC a b with
      | none =>
        rw [hE] at e
        replace e : eqT a b = some r := e
        unfold eqT at e
        split at e
        · rename_i la lb
          split at e
          · rename_i hc
            cases e
            obtain ⟨p, ks, h1, q1, l1⟩ := m.tup d1 e1
            obtain ⟨p', ls, h2, q2, l2⟩ := m.tup d2 e2
            subst h1; subst h2
            obtain rfl : v = Value.ref p := rx
            obtain rfl : u = Value.ref p' := ry
            obtain ⟨us, r1, ⟨o1, g1, c1, n1, w1⟩, _⟩ := I.tuple q1
            obtain ⟨ws, r2, ⟨o2, g2, c2, n2, w2⟩, _⟩ := I.tuple q2
            obtain ⟨i1, i2⟩ := eq2L_run m I (A := X.A.in1) (by show X.A.units + 1 + 110 < cLine; omega) l1 l2 r1 r2 hc
            obtain ⟨cl, dd, da, sl⟩ := o1
            obtain ⟨cl2, dd2, da2, sl2⟩ := o2
            simp only at c1 w1 c2 w2
            subst c1 w1 c2 w2
            have t : TupTwin X.prog X.w X.A s p p' us.toArray ws.toArray := ⟨⟨_, _, _, g1⟩, ⟨_, _, _, g2⟩, by simpa using i1, i2⟩
            cases o with
            | eq => exact twin_cmpEq t (by omega) _ _ ⟨.bl true, H, I, rfl, q⟩
            | ne => exact twin_cmpNe t (by omega) _ _ ⟨.bl false, H, I, rfl, q⟩
          · cases e
        · cases e
      | some r' =>
      rw [hE] at e
      cases (show some r' = some r from e)
      replace e : eqC a b = some r := hE
      have main : plain a = true → plain b = true → min (dep a) (dep b) ≤ 150 → r = eqb a b → wpAny (model X.prog X.w) X.A (compareOp (pyEq o) v u) (EP X pins σ Q) X.xe s := fun pa pb hd hr => by
        obtain ⟨p1, c1⟩ := m.dp d1 e1 pa
        obtain ⟨p2, c2⟩ := m.dp d2 e2 pb
        obtain ⟨as, r1⟩ := Dp.reads I _ x v p1 rx
        obtain ⟨bs, r2⟩ := Dp.reads I _ y u p2 ry
        subst hr
        rw [← eqb_py a b pa pb] at q
        have hm : X.A.units + min (toPy a).depth (toPy b).depth < cLine := by rw [dep_py, dep_py]; omega
        cases o with
        | eq => exact SeqAt.compareEq_reads r1 r2 c1 c2 hm ⟨.bl _, H, I, rfl, q⟩
        | ne => exact SeqAt.compareNe_reads r1 r2 c1 c2 hm ⟨.bl _, H, I, rfl, q⟩
      unfold eqC at e
      split at e
      · rename_i la lb
        split at e
        · rename_i hc
          cases e
          have two : ∀ {v : Val} {x : V} {l : List Val}, Den X.K (Dn Xc μ) H v x → content μ v = some (.dct l) → ∃ a kvs, x = .ref a ∧ Rd H a (.dK kvs) ∧ DenP X.K (Dn Xc μ) H l kvs := fun d h => m.dct d h
          obtain ⟨p, ks, h1, q1, l1⟩ := m.dct d1 e1
          obtain ⟨p', ls, h2, q2, l2⟩ := m.dct d2 e2
          subst h1; subst h2
          obtain rfl : v = Value.ref p := rx
          obtain rfl : u = Value.ref p' := ry
          obtain ⟨_, ya, va, ra, da⟩ := dk_rd I.hok q1
          obtain ⟨_, yb, vb, rb, db⟩ := dk_rd I.hok q2
          have hl : va.length = vb.length := by rw [← ra.length, ← rb.length, ← l1.length, ← l2.length]; exact hc.1
          have hits := dct_hits l2 l1 hc.2
          cases o with
          | eq => exact PySem.W.keq_eq (knd := mixKind X.prog X.w) (r := true) ya yb da db (by omega) (fun _ => hits_all rb ra hits) (fin_bl I q (by simp [flip, hl]))
          | ne => exact PySem.W.keq_ne (knd := mixKind X.prog X.w) (r := true) ya yb da db (by omega) (fun _ => hits_all rb ra hits) (fin_bl I q (by simp [flip, hl]))
        · cases e
      · split at e
        · rename_i hc
          cases e
          exact main hc.1 hc.2.1 hc.2.2 rfl
        · cases e
theorem mark_eq (o : Eqm) (b : Expr) : behindInMarks (pyEq o) b = false := by cases o <;> exact nomark _
theorem eq_read (hΦ : MonoP Φ) {K : Fr} {mg : Str → Option Value} (o : Eqm) {ea eb : E} {σ : List (Option V)} {H : Hp} {Q : VK} (h : rdE K mg Φ W (.eq o ea eb) σ H Q) : tOp (rEqM K o) (rdE K mg Φ W ea) (rdE K mg Φ W eb) σ H Q := by
  obtain ⟨Xc, env, μ, S, q⟩ := h
  rw [wpE] at q
  refine use hΦ S Ext.refl q fun v μ1 x H1 S1 E1 _ d q1 => use hΦ S1 E1 q1 fun w μ2 y H2 S2 E2 E2' d2 q2 => ?_
  split at q2
  · rename_i r hr
    exact ⟨Xc, μ2, v, w, r, S2.m, d.ext E2, d2, hr, q2 _ _ S2 E2' rfl⟩
  · exact q2.elim
theorem se_eq {k : Nat} (hΦ : MonoP Φ) (hr : RoomH k X.A) (o : Eqm) {ea eb : E} (ha : SE X Φ W a ea) (hb : SE X Φ W b eb) : SE X Φ W (.Compare a [pyEq o] [b] pos) (.eq o ea eb) :=
  PE.imp (pe_cmpR (op_eqM hr o) ha hb (mark_eq o b)) fun σ H Q h => eq_read hΦ o h

theorem key_isKey {k : Val} (h : isKey k = true) : ∃ j, keyOf k = some j := by
  cases k <;> first | exact ⟨_, rfl⟩ | cases h
theorem keyOf_den {K : Fr} {D : Addr → Prop} {H : Hp} {k : Val} {j : Key} {x : V} (h : keyOf k = some j) (d : Den K D H k x) : x = kV j := by
  cases k <;> first | (cases h; exact d) | (cases h; exact d.1) | (cases h; done)

def rInM (K : Fr) (o : Inm) : R2 := fun x y H Q => ∃ Xc μ v w r, MRel K Xc μ H ∧ Den K (Dn Xc μ) H v x ∧ Den K (Dn Xc μ) H w y ∧ inV μ v w = some r ∧ Q (.bl (flipI o r)) H
theorem op_inM {k : Nat} (hr : RoomH k X.A) (o : Inm) : OpR X (compareOp (pyIn o)) (rInM X.K o) := by
  intro pins s σ H x y v u Q I rx ry h
  obtain ⟨Xc, μ, v', w', r, m, d1, d2, e, q⟩ := h
  have hu := hr.un
  unfold inV at e
  split at e
  · rename_i l hl
    split at e
    · rename_i hc
      cases e
      obtain ⟨p1, c1⟩ := dp_of v' x hc.1 d1
      obtain ⟨p2, c2⟩ := m.dp d2 hl hc.2.1
      obtain ⟨as, r1⟩ := Dp.reads I _ x v p1 rx
      obtain ⟨bs, r2⟩ := Dp.reads I _ y u p2 ry
      rw [← any_py l v' hc.1 hc.2.1] at q
      have c2' : PyData.canLayAll0 (toPyL l) = true := by simpa [toPy, PyData.canLay0] using c2
      have hm : X.A.units + 1 + min (PyData.depthAll (toPyL l)) (toPy v').depth < cLine := by rw [dep_py, depL_py]; omega
      cases o with
      | isin => exact SeqAt.in_tuple_reads r2 r1 c2' c1 hm ⟨.bl _, H, I, rfl, q⟩
      | notin => exact SeqAt.notIn_tuple_reads r2 r1 c2' c1 hm ⟨.bl _, H, I, rfl, q⟩
    · cases e
  · rename_i l hl
    split at e
    · rename_i hc
      cases e
      obtain ⟨p1, c1⟩ := dp_of v' x hc.1 d1
      obtain ⟨p2, c2⟩ := m.dp d2 hl hc.2.1
      obtain ⟨as, r1⟩ := Dp.reads I _ x v p1 rx
      obtain ⟨bs, r2⟩ := Dp.reads I _ y u p2 ry
      rw [← any_py l v' hc.1 hc.2.1] at q
      have c2' : PyData.canLayAll0 (toPyL l) = true := by simpa [toPy, PyData.canLay0] using c2
      have hm : X.A.units + 1 + min (PyData.depthAll (toPyL l)) (toPy v').depth < cLine := by rw [dep_py, depL_py]; omega
      cases o with
      | isin => exact SeqAt.in_list_reads r2 r1 c2' c1 hm ⟨.bl _, H, I, rfl, q⟩
      | notin => exact SeqAt.notIn_list_reads r2 r1 c2' c1 hm ⟨.bl _, H, I, rfl, q⟩
    · cases e
  · rename_i l hl
    split at e
    · rename_i hk
      cases e
      obtain ⟨j, hj⟩ := key_isKey hk
      obtain ⟨p, kvs, h2, q2, l2⟩ := m.dct d2 hl
      subst h2
      obtain rfl : u = Value.ref p := ry
      have g : DGet H p x (valV kvs j) := .inl ⟨kvs, j, q2, keyOf_den hj d1, rfl⟩
      have hs : (dLook v' l).isSome = (valV kvs j).isSome := by
        have := DenP.look hj l2
        cases z : dLook v' l with
        | none => rw [z] at this; rw [show valV kvs j = none from this]; rfl
        | some w => rw [z] at this; obtain ⟨_, e1, _⟩ := this; rw [e1]; rfl
      rw [hs] at q
      cases o with
      | isin => exact d_in (by omega) I g rx fun s' I' => ⟨.bl _, H, I', rfl, q⟩
      | notin => exact d_notIn (by omega) I g rx fun s' I' => ⟨.bl _, H, I', rfl, q⟩
    · cases e
  · cases e
theorem in_read (hΦ : MonoP Φ) {K : Fr} {mg : Str → Option Value} (o : Inm) {ea eb : E} {σ : List (Option V)} {H : Hp} {Q : VK} (h : rdE K mg Φ W (.isin o ea eb) σ H Q) : tOp (rInM K o) (rdE K mg Φ W ea) (rdE K mg Φ W eb) σ H Q := by
  obtain ⟨Xc, env, μ, S, q⟩ := h
  rw [wpE] at q
  refine use hΦ S Ext.refl q fun v μ1 x H1 S1 E1 _ d q1 => use hΦ S1 E1 q1 fun w μ2 y H2 S2 E2 E2' d2 q2 => ?_
  split at q2
  · rename_i r hr
    exact ⟨Xc, μ2, v, w, r, S2.m, d.ext E2, d2, hr, q2 _ _ S2 E2' rfl⟩
  · exact q2.elim
theorem se_in {k : Nat} (hΦ : MonoP Φ) (hr : RoomH k X.A) (o : Inm) {ea eb : E} (ha : SE X Φ W a ea) (hb : SE X Φ W b eb) (hm : behindInMarks (pyIn o) b = false := by rfl) : SE X Φ W (.Compare a [pyIn o] [b] pos) (.isin o ea eb) :=
  PE.imp (pe_cmpR (op_inM hr o) ha hb hm) fun σ H Q h => in_read hΦ o h

def isNon : Val → Bool
  | .non => true
  | _ => false
theorem den_non {K : Fr} {D : Addr → Prop} {H : Hp} {v : Val} {x : V} (d : Den K D H v x) : decide (x = V.non) = isNon v := by
  cases v with
  | non => rw [show x = _ from d]; rfl
  | bl _ => rw [show x = _ from d]; rfl
  | int _ => rw [show x = _ from d]; rfl
  | str _ => rw [d.1]; rfl
  | ref _ => rw [show x = _ from d]; rfl
  | tup _ => obtain ⟨_, _, e, _⟩ := d; rw [e]; rfl
  | lst _ => obtain ⟨_, _, e, _⟩ := d; rw [e]; rfl
  | dct _ => obtain ⟨_, _, e, _⟩ := d; rw [e]; rfl
  | exn _ _ => exact d.elim
  | ins _ _ => obtain ⟨_, _, _, _, e, _⟩ := d; rw [e]; rfl
theorem isN_read (hΦ : MonoP Φ) {K : Fr} {mg : Str → Option Value} {ea : E} {σ : List (Option V)} {H : Hp} {Q : VK} (h : rdE K mg Φ W (.isN false ea) σ H Q) : tOp (fun x y H Q => y = .non ∧ Q (.bl (decide (x = .non))) H) (rdE K mg Φ W ea) (tC .non) σ H Q := by
  obtain ⟨Xc, env, μ, S, q⟩ := h
  rw [wpE] at q
  refine use hΦ S Ext.refl q fun v μ1 x H1 S1 E1 E1' d q1 => ⟨rfl, ?_⟩
  rw [den_non d]
  cases v <;> exact q1 _ _ S1 E1' rfl
theorem notN_read (hΦ : MonoP Φ) {K : Fr} {mg : Str → Option Value} {ea : E} {σ : List (Option V)} {H : Hp} {Q : VK} (h : rdE K mg Φ W (.isN true ea) σ H Q) : tOp (fun x y H Q => y = .non ∧ Q (.bl (!decide (x = .non))) H) (rdE K mg Φ W ea) (tC .non) σ H Q := by
  obtain ⟨Xc, env, μ, S, q⟩ := h
  rw [wpE] at q
  refine use hΦ S Ext.refl q fun v μ1 x H1 S1 E1 E1' d q1 => ⟨rfl, ?_⟩
  rw [den_non d]
  cases v <;> exact q1 _ _ S1 E1' rfl
theorem se_isN (hΦ : MonoP Φ) {ea : E} {j pos'} (ha : SE X Φ W a ea) : SE X Φ W (.Compare a [.Is] [.Constant .none j pos'] pos) (.isN false ea) :=
  PE.imp (pe_cmpR op_isN ha pe_non (nomark _)) fun σ H Q h => isN_read hΦ h
theorem se_notN (hΦ : MonoP Φ) {ea : E} {j pos'} (ha : SE X Φ W a ea) : SE X Φ W (.Compare a [.IsNot] [.Constant .none j pos'] pos) (.isN true ea) :=
  PE.imp (pe_cmpR op_notN ha pe_non (nomark _)) fun σ H Q h => notN_read hΦ h
end
end Mi
/-! Mi6: truth, subscripts, slices. -/
namespace Mi
open PySem PySem.Spec PyProof.Rows L2

theorem natbne (n : Nat) : (n != 0) = ((n : Int) != 0) := by
  cases n with
  | zero => rfl
  | succ n =>
    rw [show (n + 1 != 0) = true by simp]
    symm
    simp only [bne_iff_ne, ne_eq]
    omega
section
variable {K : Fr} {Xc : Addr → Prop} {H : Hp} {μ : Mu}
theorem MRel.tru (m : MRel K Xc μ H) {v : Val} {x : V} {b : Bool} (d : Den K (Dn Xc μ) H v x) (e : truthV μ v = some b) : TruV K x H b := by
  unfold truthV at e
  cases e1 : content μ v with
  | none => rw [e1] at e; cases e
  | some w =>
    rw [e1] at e
    replace e : truthC w = some b := e
    unfold truthC at e
    split at e
    · cases e; rw [m.flat d e1 trivial]; rfl
    · cases e; rw [m.flat d e1 trivial]; rfl
    · cases e; rw [m.int d e1]; rfl
    · split at e
      · rename_i hz
        cases e
        rw [(m.strV d e1).1]
        exact ⟨by rw [← big_line]; exact hz, natbne _⟩
      · cases e
    · cases e
      obtain ⟨a, xs, rfl, q, hl⟩ := m.tup d e1
      exact .inr (.inl ⟨xs, q, by rw [hl.nil_iff]⟩)
    · cases e
      obtain ⟨a, xs, rfl, q, hl⟩ := m.lst d e1
      exact .inl ⟨xs, q, by rw [hl.nil_iff]⟩
    · cases e
end

section
variable {X : Cx} {Φ : Ph} {W : WX} {a b c : Expr} {pos : Pos}
theorem TPost.from {K : Fr} {Xc : Addr → Prop} {σ : List (Option V)} {H H0 : Hp} {env : Env} {μ μ0 : Mu} {Q : Bool → Hp → Prop} {v : Val} {μ' : Mu} (E0 : Ext μ0 H0 μ H) (h : TPost K Xc σ H0 env μ0 Q v μ') : TPost K Xc σ H env μ Q v μ' := by
  unfold TPost at *
  split at h
  · exact fun H' S E => h H' S (E0.trans E)
  · exact h.elim
theorem EPost.from {K : Fr} {Xc : Addr → Prop} {σ : List (Option V)} {H H0 : Hp} {env : Env} {μ μ0 : Mu} {Q : VK} {v : Val} {μ' : Mu} (E0 : Ext μ0 H0 μ H) (h : EPost K Xc σ H0 env μ0 Q v μ') : EPost K Xc σ H env μ Q v μ' := fun x H' S E => h x H' S (E0.trans E)
/-- a value's truth -/
theorem st_of {e : E} (hΦ : MonoP Φ) (ha : SE X Φ W a e) (he : ∀ whole, isTrue a X.env whole = (do let v ← whole; standAt a.pos; holding [v] (truthy v)) := by intro _; rfl) : ST X Φ W a e :=
  PT.imp (pt_truth ha he) fun σ H Q ⟨Xc, env, μ, S, q⟩ => ⟨Xc, env, μ, S, wpE_mono hΦ e env μ _ _ _ _ (fun v μ1 f x H1 S1 E1 d => by
    unfold TPost at f
    split at f
    · rename_i b hb
      exact ⟨b, S1.m.tru d hb, f H1 S1 E1⟩
    · exact f.elim) (fun _ _ z => z) q⟩
/-- what gives a bool for certain -/
def isB : E → Bool
  | .cmp _ _ _ => true
  | .eq _ _ _ => true
  | .isin _ _ _ => true
  | .isN _ _ => true
  | _ => false
theorem wpE_isB (hΦ : MonoP Φ) {e : E} (h : isB e = true) {env : Env} {μ : Mu} {Q : Val → Mu → Prop} {Y : XQ} (q : wpE Φ e env μ Q Y) : wpE Φ e env μ (fun v μ' => (∃ b, v = .bl b) ∧ Q v μ') Y := by
  unfold isB at h
  split at h
  · simp only [wpE] at q ⊢
    exact wpE_mono hΦ _ env μ _ _ _ _ (fun v μ1 z => wpE_mono hΦ _ env μ1 _ _ _ _ (fun w μ2 y => by
      split at y
      · exact ⟨⟨_, rfl⟩, y⟩
      · exact y.elim) (fun _ _ z => z) z) (fun _ _ z => z) q
  · simp only [wpE] at q ⊢
    exact wpE_mono hΦ _ env μ _ _ _ _ (fun v μ1 z => wpE_mono hΦ _ env μ1 _ _ _ _ (fun w μ2 y => by
      split at y
      · exact ⟨⟨_, rfl⟩, y⟩
      · exact y.elim) (fun _ _ z => z) z) (fun _ _ z => z) q
  · simp only [wpE] at q ⊢
    exact wpE_mono hΦ _ env μ _ _ _ _ (fun v μ1 z => wpE_mono hΦ _ env μ1 _ _ _ _ (fun w μ2 y => by
      split at y
      · exact ⟨⟨_, rfl⟩, y⟩
      · exact y.elim) (fun _ _ z => z) z) (fun _ _ z => z) q
  · simp only [wpE] at q ⊢
    exact wpE_mono hΦ _ env μ _ _ _ _ (fun v μ1 z => ⟨⟨_, rfl⟩, z⟩) (fun _ _ z => z) q
  · cases h
theorem rdT_E (hΦ : MonoP Φ) {K : Fr} {mg : Str → Option Value} {e : E} (hB : isB e = true) {σ : List (Option V)} {H : Hp} {Q : Bool → Hp → Prop} (h : rdT K mg Φ W e σ H Q) : rdE K mg Φ W e σ H (fun x H' => ∃ k, x = .bl k ∧ Q k H') := by
  obtain ⟨Xc, env, μ, S, q⟩ := h
  refine ⟨Xc, env, μ, S, wpE_mono hΦ e env μ _ _ _ _ (fun v μ' z x H' S' E' d => ?_) (fun _ _ z => z) (wpE_isB hΦ hB q)⟩
  obtain ⟨⟨b, rfl⟩, z⟩ := z
  exact ⟨b, d, z H' S' E'⟩
theorem st_cmp (hΦ : MonoP Φ) (o : Cm) {ea eb : E} (ha : SE X Φ W a ea) (hb : SE X Φ W b eb) : ST X Φ W (.Compare a [pyCm o] [b] pos) (.cmp o ea eb) :=
  PT.imp (pt_cmpR (op_cm o) ha hb (mark_cm o b)) fun σ H Q h => cmp_read hΦ o (rdT_E hΦ rfl h)
theorem st_eq {k : Nat} (hΦ : MonoP Φ) (hr : RoomH k X.A) (o : Eqm) {ea eb : E} (ha : SE X Φ W a ea) (hb : SE X Φ W b eb) : ST X Φ W (.Compare a [pyEq o] [b] pos) (.eq o ea eb) :=
  PT.imp (pt_cmpR (op_eqM hr o) ha hb (mark_eq o b)) fun σ H Q h => eq_read hΦ o (rdT_E hΦ rfl h)
theorem st_in {k : Nat} (hΦ : MonoP Φ) (hr : RoomH k X.A) (o : Inm) {ea eb : E} (ha : SE X Φ W a ea) (hb : SE X Φ W b eb) (hm : behindInMarks (pyIn o) b = false := by rfl) : ST X Φ W (.Compare a [pyIn o] [b] pos) (.isin o ea eb) :=
  PT.imp (pt_cmpR (op_inM hr o) ha hb hm) fun σ H Q h => in_read hΦ o (rdT_E hΦ rfl h)
theorem st_isN (hΦ : MonoP Φ) {ea : E} {j pos'} (ha : SE X Φ W a ea) : ST X Φ W (.Compare a [.Is] [.Constant .none j pos'] pos) (.isN false ea) :=
  PT.imp (pt_cmpR op_isN ha pe_non (nomark _)) fun σ H Q h => isN_read hΦ (rdT_E hΦ rfl h)
theorem st_notN (hΦ : MonoP Φ) {ea : E} {j pos'} (ha : SE X Φ W a ea) : ST X Φ W (.Compare a [.IsNot] [.Constant .none j pos'] pos) (.isN true ea) :=
  PT.imp (pt_cmpR op_notN ha pe_non (nomark _)) fun σ H Q h => notN_read hΦ (rdT_E hΦ rfl h)
theorem sw_and1 {e : E} (ha : ST X Φ W a e) : SW X Φ W (.BoolOp .And [a] pos) e := pw_and1 ha
theorem sw_or1 {e : E} (ha : ST X Φ W a e) : SW X Φ W (.BoolOp .Or [a] pos) e := pw_or1 ha
theorem sw_and (hΦ : MonoP Φ) {rest : List Expr} {ea eb : E} (ha : ST X Φ W a ea) (hb : SW X Φ W (.BoolOp .And (b :: rest) pos) eb) : SW X Φ W (.BoolOp .And (a :: b :: rest) pos) (.and ea eb) :=
  PW.imp (pw_and ha hb) fun σ H Q ⟨Xc, env, μ, S, q⟩ => by
    simp only [wpE] at q
    refine useT hΦ S Ext.refl q (fun v μ1 f z => ?_) fun v μ1 b H1 S1 E1 hb f => ?_
    · rw [z] at f; exact f
    · rw [hb] at f
      cases b with
      | true => exact iteT ⟨Xc, env, μ1, S1, wpE_mono hΦ eb env μ1 _ _ _ _ (fun v μ2 z => TPost.from E1 z) (fun v μ2 z => XPost.from E1 z) f⟩
      | false =>
        refine iteF ?_
        unfold TPost at f
        rw [hb] at f
        exact f H1 S1 E1
theorem sw_or (hΦ : MonoP Φ) {rest : List Expr} {ea eb : E} (ha : ST X Φ W a ea) (hb : SW X Φ W (.BoolOp .Or (b :: rest) pos) eb) : SW X Φ W (.BoolOp .Or (a :: b :: rest) pos) (.or ea eb) :=
  PW.imp (pw_or ha hb) fun σ H Q ⟨Xc, env, μ, S, q⟩ => by
    simp only [wpE] at q
    refine useT hΦ S Ext.refl q (fun v μ1 f z => ?_) fun v μ1 b H1 S1 E1 hb f => ?_
    · rw [z] at f; exact f
    · rw [hb] at f
      cases b with
      | false => exact iteF ⟨Xc, env, μ1, S1, wpE_mono hΦ eb env μ1 _ _ _ _ (fun v μ2 z => TPost.from E1 z) (fun v μ2 z => XPost.from E1 z) f⟩
      | true =>
        refine iteT ?_
        unfold TPost at f
        rw [hb] at f
        exact f H1 S1 E1
theorem SW.t {e : E} (h : SW X Φ W a e) : ST X Φ W a e := h.pt
theorem st_not (hΦ : MonoP Φ) {e : E} (ha : ST X Φ W a e) : ST X Φ W (.UnaryOp .Not a pos) (.not e) :=
  PT.imp (pt_not ha) fun σ H Q ⟨Xc, env, μ, S, q⟩ => by
    simp only [wpE] at q
    refine useT hΦ S Ext.refl q (fun v μ1 f z => ?_) fun v μ1 b H1 S1 E1 hb f => ?_
    · rw [z] at f; exact f
    · rw [hb] at f
      exact f H1 S1 E1
/-- .. as values -/
theorem se_one {op} {e : E} (ha : SE X Φ W a e) : SE X Φ W (.BoolOp op [a] pos) e := pe_one ha
theorem se_and (hΦ : MonoP Φ) {rest : List Expr} {ea eb : E} (ha : SE X Φ W a ea) (hb : SE X Φ W (.BoolOp .And (b :: rest) pos) eb) : SE X Φ W (.BoolOp .And (a :: b :: rest) pos) (.and ea eb) :=
  PE.imp (pe_andT ha hb) fun σ H Q ⟨Xc, env, μ, S, q⟩ => by
    simp only [wpE] at q
    refine use hΦ S Ext.refl q fun v μ1 x H1 S1 E1 E1' d f => ?_
    cases hb : truthV μ1 v with
    | none => rw [hb] at f; exact f.elim
    | some b =>
      rw [hb] at f
      refine ⟨b, S1.m.tru d hb, ?_⟩
      cases b with
      | true => exact iteT ⟨Xc, env, μ1, S1, wpE_mono hΦ eb env μ1 _ _ _ _ (fun v μ2 z => EPost.from E1 z) (fun v μ2 z => XPost.from E1 z) f⟩
      | false => exact iteF (f x H1 S1 E1 d)
theorem se_or (hΦ : MonoP Φ) {rest : List Expr} {ea eb : E} (ha : SE X Φ W a ea) (hb : SE X Φ W (.BoolOp .Or (b :: rest) pos) eb) : SE X Φ W (.BoolOp .Or (a :: b :: rest) pos) (.or ea eb) :=
  PE.imp (pe_orT ha hb) fun σ H Q ⟨Xc, env, μ, S, q⟩ => by
    simp only [wpE] at q
    refine use hΦ S Ext.refl q fun v μ1 x H1 S1 E1 E1' d f => ?_
    cases hb : truthV μ1 v with
    | none => rw [hb] at f; exact f.elim
    | some b =>
      rw [hb] at f
      refine ⟨b, S1.m.tru d hb, ?_⟩
      cases b with
      | false => exact iteF ⟨Xc, env, μ1, S1, wpE_mono hΦ eb env μ1 _ _ _ _ (fun v μ2 z => EPost.from E1 z) (fun v μ2 z => XPost.from E1 z) f⟩
      | true => exact iteT (f x H1 S1 E1 d)
theorem se_not (hΦ : MonoP Φ) {e : E} (ha : SE X Φ W a e) : SE X Φ W (.UnaryOp .Not a pos) (.not e) :=
  PE.imp (pe_notT ha) fun σ H Q ⟨Xc, env, μ, S, q⟩ => by
    simp only [wpE] at q
    refine use hΦ S Ext.refl q fun v μ1 x H1 S1 E1 E1' d f => ?_
    cases hb : truthV μ1 v with
    | none => rw [hb] at f; exact f.elim
    | some b =>
      rw [hb] at f
      exact ⟨b, S1.m.tru d hb, f _ H1 S1 E1 rfl⟩
theorem se_ite (hΦ : MonoP Φ) {ec ea eb : E} (hc : ST X Φ W c ec) (ha : SE X Φ W a ea) (hb : SE X Φ W b eb) : SE X Φ W (.IfExp c a b pos) (.ite ec ea eb) :=
  PE.imp (pe_ifExp hc ha hb) fun σ H Q ⟨Xc, env, μ, S, q⟩ => by
    simp only [wpE] at q
    refine useT hΦ S Ext.refl q (fun v μ1 f z => ?_) fun v μ1 b H1 S1 E1 hb f => ?_
    · rw [z] at f; exact f
    · rw [hb] at f
      cases b with
      | true => exact iteT ⟨Xc, env, μ1, S1, wpE_mono hΦ ea env μ1 _ _ _ _ (fun v μ2 z => EPost.from E1 z) (fun v μ2 z => XPost.from E1 z) f⟩
      | false => exact iteF ⟨Xc, env, μ1, S1, wpE_mono hΦ eb env μ1 _ _ _ _ (fun v μ2 z => EPost.from E1 z) (fun v μ2 z => XPost.from E1 z) f⟩
theorem se_neg (hΦ : MonoP Φ) {e : E} (ha : SE X Φ W a e) : SE X Φ W (.UnaryOp .USub a pos) (.neg e) :=
  PE.imp (pe_un un_neg ha) fun σ H Q ⟨Xc, env, μ, S, q⟩ => by
    simp only [wpE] at q
    refine use hΦ S Ext.refl q fun v μ1 x H1 S1 E1 E1' d f => ?_
    split at f
    · rename_i i
      exact ⟨i, d, f _ H1 S1 E1 rfl⟩
    · exact f.elim
/-- a op b op c -/
theorem se_chain (hΦ : MonoP Φ) (o p : Cm) {ea eb ec : E} (ha : SE X Φ W a ea) (hb : SE X Φ W b eb) (hc : SE X Φ W c ec) (hm : lastMarks [pyCm o, pyCm p] [b, c] = false := by with_unfolding_all rfl) :
    SE X Φ W (.Compare a [pyCm o, pyCm p] [b, c] pos) (.chain o p ea eb ec) :=
  PE.imp (pe_chain (op_cm o) (op_cm p) ha hb hc hm) fun σ H Q ⟨Xc, env, μ, S, q⟩ => by
    simp only [wpE] at q
    refine use hΦ S Ext.refl q fun v μ1 x H1 S1 E1 _ d q1 => use hΦ S1 E1 q1 fun w μ2 y H2 S2 E2 E2' d2 q2 => ?_
    cases hr : cmpV o v w with
    | none => rw [hr] at q2; exact q2.elim
    | some r =>
      rw [hr] at q2
      obtain ⟨i, j, rfl, rfl, rfl⟩ := cmpV_ints hr
      refine ⟨i, j, d, d2, _, rfl, ?_⟩
      cases hk : cmpI o i j with
      | false =>
        rw [hk] at q2
        exact iteF (q2 _ H2 S2 E2' rfl)
      | true =>
        rw [hk] at q2
        refine iteT (use hΦ S2 E2' q2 fun u μ3 z H3 S3 E3 E3' d3 q3 => ?_)
        cases hr2 : cmpV p (.int j) u with
        | none => rw [hr2] at q3; exact q3.elim
        | some r =>
          rw [hr2] at q3
          obtain ⟨i', j', e1, rfl, rfl⟩ := cmpV_ints hr2
          cases e1
          exact ⟨j, j', d2, d3, q3 _ H3 S3 E3' rfl⟩
theorem st_chain (hΦ : MonoP Φ) (o p : Cm) {ea eb ec : E} (ha : SE X Φ W a ea) (hb : SE X Φ W b eb) (hc : SE X Φ W c ec) (hm : lastMarks [pyCm o, pyCm p] [b, c] = false := by with_unfolding_all rfl) :
    ST X Φ W (.Compare a [pyCm o, pyCm p] [b, c] pos) (.chain o p ea eb ec) :=
  PT.imp (pt_chain (op_cm o) (op_cm p) ha hb hc hm) fun σ H Q ⟨Xc, env, μ, S, q⟩ => by
    simp only [wpE] at q
    refine use hΦ S Ext.refl q fun v μ1 x H1 S1 E1 _ d q1 => use hΦ S1 E1 q1 fun w μ2 y H2 S2 E2 E2' d2 q2 => ?_
    cases hr : cmpV o v w with
    | none => rw [hr] at q2; exact q2.elim
    | some r =>
      rw [hr] at q2
      obtain ⟨i, j, rfl, rfl, rfl⟩ := cmpV_ints hr
      refine ⟨i, j, d, d2, _, rfl, ?_⟩
      cases hk : cmpI o i j with
      | false =>
        rw [hk] at q2
        exact iteF ⟨_, rfl, q2 H2 S2 E2'⟩
      | true =>
        rw [hk] at q2
        refine iteT (use hΦ S2 E2' q2 fun u μ3 z H3 S3 E3 E3' d3 q3 => ?_)
        cases hr2 : cmpV p (.int j) u with
        | none => rw [hr2] at q3; exact q3.elim
        | some r =>
          rw [hr2] at q3
          obtain ⟨i', j', e1, rfl, rfl⟩ := cmpV_ints hr2
          cases e1
          exact ⟨j, j', d2, d3, _, rfl, q3 H3 S3 E3'⟩

/-! ### subscripts -/
theorem DenL.at {K : Fr} {D : Addr → Prop} {H : Hp} {l : List Val} {xs : List V} {i : Int} {v : Val} (h : DenL K D H l xs) (e : Mi.atI l i = some v) : ∃ x, L2.atI xs i = some x ∧ Den K D H v x := by
  unfold Mi.atI at e
  unfold L2.atI
  rw [h.length] at e
  show ∃ x, ((Mi.ixN xs.length i).bind fun j => xs[j]?) = some x ∧ _
  cases q : Mi.ixN xs.length i with
  | none => rw [q] at e; cases e
  | some j =>
    rw [q] at e
    exact h.get e
theorem strOk_sign {s : Str} {c : Nat} (h : PyData.strOk s = true) (hc : c ∈ s.cps.toList) : PyData.strOk ⟨#[c]⟩ = true := by
  unfold PyData.strOk at *
  rw [Array.all_eq_true'] at h
  have := h c (by simpa using hc)
  simpa using this
theorem atI_mem {α : Type} {l : List α} {i : Int} {c : α} (h : Mi.atI l i = some c) : c ∈ l := by
  unfold Mi.atI at h
  cases q : Mi.ixN l.length i with
  | none => rw [q] at h; cases h
  | some j => rw [q] at h; exact List.mem_of_getElem? h
def rIxM (K : Fr) : R2 := fun x y H Q => ∃ Xc μ v w r, MRel K Xc μ H ∧ Den K (Dn Xc μ) H v x ∧ Den K (Dn Xc μ) H w y ∧ ixV μ v w = some r ∧ ∀ x, Den K (Dn Xc μ) H r x → Q x H
theorem ix_dict (hu : X.A.units + 1 < cLine) : IxR X (fun x y H Q => ∃ a v, x = .ref a ∧ DGet H a y (some v) ∧ Q v H) := by
  intro value slice pins s σ H x y v u Q I rx ry h hs
  obtain ⟨a, w, ex, g, q⟩ := h
  subst ex
  obtain rfl : v = Value.ref a := rx
  have hT := dict_typeIs I g
  unfold subscriptTail
  refine wpAny_bind ?_
  rw [getitemInPython_of_ne hT.not_modules]
  refine wpAny_bind (wpAny_specialOf hT PySem.F.slot_dict_getitem.lookup ?_)
  have fin : wpAny (model X.prog X.w) X.A (subscripted slice false (.ref a) u) (fun r s₃ => wpAny (model X.prog X.w) X.A (letTemporaryGo value (.ref a) r >>= fun _ => pure r) (EP X pins σ Q) X.xe s₃) X.xe s := by
    rw [hs]
    exact wpAny_operating (wpAny_mono (d_getItem (Q := EP X pins σ Q) hu I g ry fun w' s3 I3 rw' => ⟨w, H, I3, rw', q⟩) (fun r s₃ h₃ => wpAny_bind (wpAny_letTemporaryGo (wpAny_pure h₃))) fun _ _ x => x)
  first
    | exact wpAny_pure (wpAny_bind fin)
    | exact wpAny_bind (wpAny_pure (wpAny_bind fin))
    | exact wpAny_bind fin
theorem ix_m {k : Nat} (hr : RoomH k X.A) : IxR X (rIxM X.K) := by
  intro value slice pins s σ H x y v u Q I rx ry h hs
  obtain ⟨Xc, μ, v', w', r, m, d1, d2, e, q⟩ := h
  have hu := hr.un
  unfold ixV at e
  cases e1 : content μ v' with
  | none => rw [e1] at e; cases e
  | some a =>
    rw [e1] at e
    replace e : ixC a w' = some r := e
    unfold ixC at e
    split at e
    · obtain ⟨p, xs, rfl, q1, l1⟩ := m.tup d1 e1
      obtain ⟨z, hz, dz⟩ := l1.at e
      exact ix_tup value slice pins s σ H _ y v u Q I rx ry ⟨p, xs, _, z, rfl, d2, q1, hz, q z dz⟩ hs
    · obtain ⟨p, xs, rfl, q1, l1⟩ := m.lst d1 e1
      obtain ⟨z, hz, dz⟩ := l1.at e
      exact ix_list value slice pins s σ H _ y v u Q I rx ry ⟨p, xs, _, z, rfl, d2, q1, hz, q z dz⟩ hs
    · split at e
      · rename_i hz
        obtain ⟨c, hc, rfl⟩ := Option.map_eq_some_iff.mp e
        obtain ⟨rfl, ok⟩ := m.strV d1 e1
        exact ix_str value slice pins s σ H _ y v u Q I rx ry ⟨_, _, c, rfl, d2, by rw [← big_line]; exact hz, hc, q _ ⟨rfl, strOk_sign ok (atI_mem hc)⟩⟩ hs
      · cases e
    · split at e
      · rename_i hk
        obtain ⟨j, hj⟩ := key_isKey hk
        obtain ⟨p, kvs, rfl, q1, l1⟩ := m.dct d1 e1
        have hl := DenP.look hj l1
        rw [e] at hl
        obtain ⟨z, hz, dz⟩ := hl
        exact ix_dict (by omega) value slice pins s σ H _ y v u Q I rx ry ⟨p, z, rfl, .inl ⟨kvs, j, q1, keyOf_den hj d2, hz.symm⟩, q z dz⟩ hs
      · cases e
    · cases e
theorem se_ix {k : Nat} (hΦ : MonoP Φ) (hr : RoomH k X.A) {ea eb : E} (ha : SE X Φ W a ea) (hb : SE X Φ W b eb) (hs : PlainIx b := by exact fun _ _ => rfl) : SE X Φ W (.Subscript a b pos) (.ix ea eb) :=
  PE.imp (pe_ix (ix_m hr) ha hb hs) fun σ H Q ⟨Xc, env, μ, S, q⟩ => by
    simp only [wpE] at q
    refine use hΦ S Ext.refl q fun v μ1 x H1 S1 E1 _ d q1 => use hΦ S1 E1 q1 fun w μ2 y H2 S2 E2 E2' d2 q2 => ?_
    split at q2
    · rename_i r hr
      exact ⟨Xc, μ2, v, w, r, S2.m, d.ext E2, d2, hr, fun x dx => q2 _ _ S2 E2' dx⟩
    · exact q2.elim
end
end Mi
/-! Mi7: slices, built-ins, methods. -/
namespace Mi
open PySem PySem.Spec PyProof.Rows L2

section
variable {X : Cx} {Φ : Ph} {W : WX} {a b c : Expr} {pos : Pos}
/-! ### slices -/
/-- a part of a slice: none, or one -/
def rdO (K : Fr) (mg : Str → Option Value) (Φ : Ph) (W : WX) (l : Es) : TO := fun σ H Q => ∃ Xc env μ, SRel K Xc σ H env μ ∧ wpEs Φ l env μ (fun vs μ' => match optInt vs with
  | some o => ∀ H', SRel K Xc σ H' env μ' → Ext μ H μ' H' → Q o H'
  | none => False) (XPost K mg W Xc σ H env μ)
abbrev SO (X : Cx) (Φ : Ph) (W : WX) (a : Option Expr) (l : Es) : Prop := PO X a (rdO X.K X.mg Φ W l)
theorem PO.imp {a : Option Expr} {t t' : TO} (h : PO X a t) (f : ∀ σ H Q, t' σ H Q → t σ H Q) : PO X a t' := ⟨fun pins s σ H Q I q => h.run pins s σ H Q I (f _ _ _ q)⟩
theorem so_none : SO X Φ W none .nil := PO.imp po_none fun σ H Q ⟨Xc, env, μ, S, q⟩ => q H S Ext.refl
theorem so_some (hΦ : MonoP Φ) {e : E} (h : SE X Φ W a e) : SO X Φ W (some a) (.cons e .nil) := PO.imp (po_some h) fun σ H Q ⟨Xc, env, μ, S, q⟩ => by
  simp only [wpEs] at q
  refine use hΦ S Ext.refl q fun v μ1 x H1 S1 E1 E1' d f => ?_
  unfold optInt at f
  split at f
  · rename_i o ho
    split at ho
    · rename_i hx; cases hx
    · rename_i i hx
      cases hx
      cases ho
      exact ⟨i, d, f H1 S1 E1⟩
    · cases ho
  · exact f.elim
theorem sIx_eq (n d : Nat) (o : Option Int) : HT.sIx n d o = Mi.sIx n d o := by
  cases o with
  | none => rfl
  | some v =>
    have h := HT.clip_eq v n d
    unfold Mi.sIx
    dsimp only
    by_cases hv : v < 0
    · rw [if_pos hv] at h ⊢
      omega
    · rw [if_neg hv] at h ⊢
      omega
theorem DenL.cut {K : Fr} {D : Addr → Prop} {H : Hp} {l : List Val} {xs : List V} (h : DenL K D H l xs) (lo hi : Option Int) : DenL K D H (cutL l lo hi) (cutV xs lo hi) := by
  unfold cutL cutV
  rw [sIx_eq, sIx_eq, h.length]
  exact (h.drop _).take _
theorem strOk_cut {s : Str} (h : PyData.strOk s = true) (lo hi : Option Int) : PyData.strOk ⟨(cutL s.cps.toList lo hi).toArray⟩ = true := by
  unfold PyData.strOk at *
  rw [Array.all_eq_true'] at h ⊢
  intro c hc
  refine h c ?_
  have : c ∈ cutL s.cps.toList lo hi := by simpa using hc
  unfold cutL at this
  simpa using List.mem_of_mem_drop (List.mem_of_mem_take this)
theorem cutS_cut (z : Str) (lo hi : Option Int) : cutS z lo hi = ⟨(cutL z.cps.toList lo hi).toArray⟩ := by
  unfold cutS cutL
  rw [sIx_eq, sIx_eq]
  simp [Str.length]
def rSlM (K : Fr) : V → Option Int → Option Int → Hp → VK → Prop := fun x lo hi H Q => ∃ Xc μ v c r, MRel K Xc μ H ∧ Den K (Dn Xc μ) H v x ∧ content μ v = some c ∧ slC c lo hi = some r ∧ Fin K (Dn Xc μ) H r Q
theorem sl_m : SlR X (rSlM X.K) := by
  intro pins s σ H x v vl vu lo hi sl Q I rx hs pl pu h
  obtain ⟨Xc, μ, v', c, r, m, d, e1, e, f⟩ := h
  unfold slC at e
  split at e
  · cases e
    rename_i l
    obtain ⟨p, xs, rfl, q1, l1⟩ := m.tup d e1
    refine sl_tupA pins s σ H _ v vl vu lo hi sl Q I rx hs pl pu ⟨p, xs, rfl, q1, fun hw => ?_, fun hw p' hp' => f.new p' _ hp' ⟨_, rfl, l1.cut lo hi⟩⟩
    have hl : cutL l lo hi = l := by
      unfold cutL
      rw [← sIx_eq, ← sIx_eq, l1.length, hw.1, hw.2]
      simp [← l1.length]
    have : Den X.K (Dn Xc μ) H (.tup l) (.ref p) := by
      cases v' with
      | ref b => obtain ⟨o, _, z⟩ := m.obj b _ e1; exact z.elim
      | tup _ => cases e1; exact d
      | _ => cases e1
    exact f.now _ (by rw [hl]; exact this)
  · cases e
    obtain ⟨p, xs, rfl, q1, l1⟩ := m.lst d e1
    exact sl_list pins s σ H _ v vl vu lo hi sl Q I rx hs pl pu ⟨p, xs, rfl, q1, fun p' hp' => f.new p' _ hp' ⟨_, rfl, l1.cut lo hi⟩⟩
  · split at e
    · rename_i hz
      cases e
      obtain ⟨rfl, ok⟩ := m.strV d e1
      refine sl_str pins s σ H _ v vl vu lo hi sl Q I rx hs pl pu ⟨_, rfl, by rw [← big_line]; exact hz, ?_⟩
      rw [cutS_cut]
      exact f.now _ ⟨rfl, strOk_cut ok lo hi⟩
    · cases e
  · cases e
theorem se_sl (hΦ : MonoP Φ) {lo hi : Option Expr} {e : E} {l h : Es} {p2 : Pos} (ha : SE X Φ W a e) (hl : SO X Φ W lo l) (hh : SO X Φ W hi h) : SE X Φ W (.Subscript a (.Slice lo hi none p2) pos) (.sl e l h) :=
  PE.imp (pe_slice sl_m ha hl hh) fun σ H Q ⟨Xc, env, μ, S, q⟩ => by
    simp only [wpE] at q
    refine use hΦ S Ext.refl q fun v μ1 x H1 S1 E1 E1' d q1 => ?_
    refine ⟨Xc, env, μ1, S1, wpEs_mono hΦ l env μ1 _ _ _ _ (fun vs μ2 q2 => ?_) (fun _ _ z => XPost.from E1' z) q1⟩
    cases ho : optInt vs with
    | none => rw [ho] at q2; exact q2
    | some o =>
      intro H2 S2 E2
      rw [ho] at q2
      refine ⟨Xc, env, μ2, S2, wpEs_mono hΦ h env μ2 _ _ _ _ (fun vs' μ3 q3 => ?_) (fun _ _ z => XPost.from (E1'.trans E2) z) q2⟩
      cases ho2 : optInt vs' with
      | none => rw [ho2] at q3; exact q3
      | some o2 =>
        intro H3 S3 E3
        rw [ho2] at q3
        cases hc : content μ3 v with
        | none => rw [hc] at q3; exact q3.elim
        | some c =>
          rw [hc] at q3
          replace q3 : match slC c o o2 with | some r => EPost X.K Xc σ H env μ Q r μ3 | none => False := q3
          cases hsl : slC c o o2 with
          | none => rw [hsl] at q3; exact q3.elim
          | some r =>
            rw [hsl] at q3
            exact ⟨Xc, μ3, v, c, r, S3.m, (d.ext E2).ext E3, hc, hsl, q3.fin S3 ((E1'.trans E2).trans E3)⟩

/-! ### built-ins -/
theorem se_biG (hΦ : MonoP Φ) {ast : Expr} {b : Bi} {l : Es} {r : List V → Hp → VK → Prop} (h : PE X ast (tCB r (rdA X.K X.mg Φ W l)))
    (k : ∀ {Xc : Addr → Prop} {μ : Mu} {H : Hp} {vs : List Val} {xs : List V} {res : Val} {Q : VK}, MRel X.K Xc μ H → DenL X.K (Dn Xc μ) H vs xs → biV μ b vs = some res → Fin X.K (Dn Xc μ) H res Q → r xs H Q) : SE X Φ W ast (.bi b l) :=
  PE.imp h fun σ H Q ⟨Xc, env, μ, S, q⟩ => by
    simp only [wpE] at q
    refine useA hΦ S Ext.refl q fun vs μ1 xs H1 S1 E1 E1' d q1 => ?_
    split at q1
    · rename_i res hr
      exact k S1.m d hr (q1.fin S1 E1')
    · exact q1.elim
theorem sf_biG (hΦ : MonoP Φ) {ast : Expr} {b : Bi} {l : Es} {r : List V → Hp → VK → Prop} (h : PE X ast (tCB r (rdA X.K X.mg Φ W l)))
    (k : ∀ {Xc : Addr → Prop} {μ : Mu} {H : Hp} {vs : List Val} {xs : List V} {res : Val} {Q : VK}, MRel X.K Xc μ H → DenL X.K (Dn Xc μ) H vs xs → biV μ b vs = some res → (∀ p o, H p = none → NewRel X.K (Dn Xc μ) H res o → Q (.ref p) (upd H p o)) → r xs H Q) : SF X Φ W ast (.bi b l) :=
  PE.imp h fun σ H Q ⟨Xc, env, μ, S, q⟩ => by
    simp only [wpE] at q
    refine useA hΦ S Ext.refl q fun vs μ1 xs H1 S1 E1 E1' d q1 => ?_
    split at q1
    · rename_i res hr
      exact k S1.m d hr fun p o hp n => q1 p o H1 S1 E1' hp n
    · exact q1.elim
theorem DenL.one {K : Fr} {D : Addr → Prop} {H : Hp} {v : Val} {xs : List V} (h : DenL K D H [v] xs) : ∃ x, xs = [x] ∧ Den K D H v x := by
  obtain ⟨x, t, e, d, e2⟩ := h
  rw [show t = [] from e2] at e
  exact ⟨x, e, d⟩
theorem DenL.two {K : Fr} {D : Addr → Prop} {H : Hp} {v w : Val} {xs : List V} (h : DenL K D H [v, w] xs) : ∃ x y, xs = [x, y] ∧ Den K D H v x ∧ Den K D H w y := by
  obtain ⟨x, t, e, d, h2⟩ := h
  obtain ⟨y, rfl, d2⟩ := h2.one
  exact ⟨x, y, e, d, d2⟩
/-- len of anything -/
def rLen (K : Fr) : List V → Hp → VK → Prop := fun xs H Q => (∃ x n, xs = [x] ∧ LenV K x H n ∧ Q (.int n) H) ∨ ∃ a kvs, xs = [V.ref a] ∧ Rd H a (.dK kvs) ∧ Q (.int kvs.length) H
theorem cr_len : CallR X (.builtin "len") (rLen X.K) := by
  intro pins s σ H xs us Q I r h
  rcases h with h | ⟨a, kvs, rfl, hd, q⟩
  · exact call_len pins s σ H xs us Q I r h
  · obtain ⟨u, rfl, rx⟩ := vals1 r
    cases rx
    exact d_len I hd fun t s' I' => ⟨.int _, H, I', ⟨_, rfl⟩, q⟩
theorem se_len (hΦ : MonoP Φ) {x : Str} {p pos : Pos} {e : E} (hg : Gl X x) (hm : X.mg x = none) (hv : bootBuiltins x = some (.builtin "len")) (hn : x ≠ "__name__") (hdb : (x == ("__debug__" : Str)) = false) (ha : SE X Φ W a e)
    (he : starEach (a :: []) X.env = (false, eval a X.env) :: starEach [] X.env := by rfl) (hpl : (backTo pos (starEach [] X.env)).any (·.1) = false := by rfl) : SE X Φ W (.Call (.Name x p) [a] [] pos) (.bi .len (.cons e .nil)) :=
  se_biG hΦ (pe_callB cr_len hg hm hv (sa_cons hΦ ha sa_nil he) hn hdb he hpl) fun {Xc μ H vs xs res Q} m d hr f => by
    simp only [biV, lenF] at hr
    split at hr
    · rename_i v
      obtain ⟨x, rfl, dx⟩ := d.one
      split at hr
      · rename_i l hl
        cases hr
        obtain ⟨a, ys, rfl, q1, l1⟩ := m.tup dx hl
        exact .inl ⟨_, ys.length, rfl, .inr ⟨ys, q1, rfl⟩, by rw [← l1.length]; exact f.now _ rfl⟩
      · rename_i l hl
        cases hr
        obtain ⟨a, ys, rfl, q1, l1⟩ := m.lst dx hl
        exact .inl ⟨_, ys.length, rfl, .inl ⟨ys, q1, rfl⟩, by rw [← l1.length]; exact f.now _ rfl⟩
      · rename_i s hl
        split at hr
        · rename_i hz
          cases hr
          obtain ⟨rfl, _⟩ := m.strV dx hl
          exact .inl ⟨_, s.length, rfl, ⟨by rw [← big_line]; exact hz, rfl⟩, f.now _ rfl⟩
        · cases hr
      · rename_i l hl
        cases hr
        obtain ⟨a, kvs, rfl, q1, l1⟩ := m.dct dx hl
        exact .inr ⟨a, kvs, rfl, q1, by rw [← l1.length]; exact f.now _ rfl⟩
      · cases hr
    · cases hr
theorem strOk_of (x : String) : PyData.strOk (Str.ofString x) = true := by
  rw [Str.ofString_eq_toList]
  unfold PyData.strOk
  rw [Array.all_eq_true']
  intro c hc
  have hc' : c ∈ x.toList.map Char.toNat := by simpa using hc
  obtain ⟨ch, _, rfl⟩ := List.mem_map.mp hc'
  have h := ch.valid
  simp only [UInt32.isValidChar, Nat.isValidChar] at h
  have : ch.toNat = ch.val.toNat := rfl
  rw [decide_eq_true_eq]
  omega
theorem se_strI (hΦ : MonoP Φ) {x : Str} {p pos : Pos} {e : E} (hg : Gl X x) (hm : X.mg x = none) (hv : bootBuiltins x = some (.type "str")) (hn : x ≠ "__name__") (hdb : (x == ("__debug__" : Str)) = false) (ha : SE X Φ W a e)
    (he : starEach (a :: []) X.env = (false, eval a X.env) :: starEach [] X.env := by rfl) (hpl : (backTo pos (starEach [] X.env)).any (·.1) = false := by rfl) : SE X Φ W (.Call (.Name x p) [a] [] pos) (.bi .str (.cons e .nil)) :=
  se_biG hΦ (pe_callTy call_str_int hg hm hv (sa_cons hΦ ha sa_nil he) hn hdb he hpl) fun {Xc μ H vs xs res Q} m d hr f => by
    simp only [biV, strF] at hr
    split at hr
    · rename_i i
      split at hr
      · rename_i hz
        cases hr
        obtain ⟨x, rfl, dx⟩ := d.one
        exact ⟨i, by rw [show x = V.int i from dx], hz, f.now _ ⟨rfl, strOk_of _⟩⟩
      · cases hr
    · cases hr
theorem se_intB (hΦ : MonoP Φ) {x : Str} {p pos : Pos} {e : E} (hg : Gl X x) (hm : X.mg x = none) (hv : bootBuiltins x = some (.type "int")) (hn : x ≠ "__name__") (hdb : (x == ("__debug__" : Str)) = false) (ha : SE X Φ W a e)
    (he : starEach (a :: []) X.env = (false, eval a X.env) :: starEach [] X.env := by rfl) (hpl : (backTo pos (starEach [] X.env)).any (·.1) = false := by rfl) : SE X Φ W (.Call (.Name x p) [a] [] pos) (.bi .int (.cons e .nil)) :=
  se_biG hΦ (pe_callTy call_int1 hg hm hv (sa_cons hΦ ha sa_nil he) hn hdb he hpl) fun {Xc μ H vs xs res Q} m d hr f => by
    simp only [biV, intF] at hr
    split at hr
    · rename_i b
      cases hr
      obtain ⟨x, rfl, dx⟩ := d.one
      exact .inr ⟨b, by rw [show x = V.bl b from dx], f.now _ rfl⟩
    · cases hr
theorem se_abs (hΦ : MonoP Φ) {x : Str} {p pos : Pos} {e : E} (hg : Gl X x) (hm : X.mg x = none) (hv : bootBuiltins x = some (.builtin "abs")) (hn : x ≠ "__name__") (hdb : (x == ("__debug__" : Str)) = false) (ha : SE X Φ W a e)
    (he : starEach (a :: []) X.env = (false, eval a X.env) :: starEach [] X.env := by rfl) (hpl : (backTo pos (starEach [] X.env)).any (·.1) = false := by rfl) : SE X Φ W (.Call (.Name x p) [a] [] pos) (.bi .abs (.cons e .nil)) :=
  se_biG hΦ (pe_callB call_abs hg hm hv (sa_cons hΦ ha sa_nil he) hn hdb he hpl) fun {Xc μ H vs xs res Q} m d hr f => by
    simp only [biV, absF] at hr
    split at hr
    · rename_i i
      cases hr
      obtain ⟨x, rfl, dx⟩ := d.one
      refine ⟨i, by rw [show x = V.int i from dx], ?_⟩
      have e : (if i < 0 then -i else i) = (i.natAbs : Int) := by split <;> omega
      rw [e]
      exact f.now _ rfl
    · cases hr
theorem sf_list (hΦ : MonoP Φ) {x : Str} {p pos : Pos} {e : E} (hg : Gl X x) (hm : X.mg x = none) (hv : bootBuiltins x = some (.type "list")) (hn : x ≠ "__name__") (hdb : (x == ("__debug__" : Str)) = false) (ha : SE X Φ W a e)
    (he : starEach (a :: []) X.env = (false, eval a X.env) :: starEach [] X.env := by rfl) (hpl : (backTo pos (starEach [] X.env)).any (·.1) = false := by rfl) : SF X Φ W (.Call (.Name x p) [a] [] pos) (.bi .list (.cons e .nil)) :=
  sf_biG hΦ (pe_callTy call_list_of hg hm hv (sa_cons hΦ ha sa_nil he) hn hdb he hpl) fun {Xc μ H vs xs res Q} m d hr f => by
    simp only [biV, listF] at hr
    split at hr
    · rename_i v
      obtain ⟨x, rfl, dx⟩ := d.one
      split at hr
      · rename_i l hl
        cases hr
        obtain ⟨a, ys, rfl, q1, l1⟩ := m.tup dx hl
        exact ⟨a, ys, rfl, .inr q1, fun l hl => f l _ hl ⟨ys, rfl, l1⟩⟩
      · rename_i l hl
        cases hr
        obtain ⟨a, ys, rfl, q1, l1⟩ := m.lst dx hl
        exact ⟨a, ys, rfl, .inl q1, fun l hl => f l _ hl ⟨ys, rfl, l1⟩⟩
      · cases hr
    · cases hr
theorem se_tuple (hΦ : MonoP Φ) {x : Str} {p pos : Pos} {e : E} (hg : Gl X x) (hm : X.mg x = none) (hv : bootBuiltins x = some (.type "tuple")) (hn : x ≠ "__name__") (hdb : (x == ("__debug__" : Str)) = false) (ha : SE X Φ W a e)
    (he : starEach (a :: []) X.env = (false, eval a X.env) :: starEach [] X.env := by rfl) (hpl : (backTo pos (starEach [] X.env)).any (·.1) = false := by rfl) : SE X Φ W (.Call (.Name x p) [a] [] pos) (.bi .tuple (.cons e .nil)) :=
  se_biG hΦ (pe_callTy call_tuple_of hg hm hv (sa_cons hΦ ha sa_nil he) hn hdb he hpl) fun {Xc μ H vs xs res Q} m d hr f => by
    simp only [biV, tupleF] at hr
    split at hr
    · rename_i v
      obtain ⟨x, rfl, dx⟩ := d.one
      split at hr
      · rename_i l hl
        cases hr
        obtain ⟨a, ys, rfl, q1, l1⟩ := m.tup dx hl
        have : Den X.K (Dn Xc μ) H (.tup l) (.ref a) := by
          cases v with
          | ref b => obtain ⟨o, _, z⟩ := m.obj b _ hl; exact z.elim
          | tup _ => cases hl; exact dx
          | _ => cases hl
        exact ⟨a, ys, rfl, .inr ⟨q1, f.now _ this⟩⟩
      · rename_i l hl
        cases hr
        obtain ⟨a, ys, rfl, q1, l1⟩ := m.lst dx hl
        exact ⟨a, ys, rfl, .inl ⟨q1, fun l hl => f.new l _ hl ⟨ys, rfl, l1⟩⟩⟩
      · cases hr
    · cases hr
theorem sf_dict (hΦ : MonoP Φ) {x : Str} {p pos : Pos} {e : E} (hg : Gl X x) (hm : X.mg x = none) (hv : bootBuiltins x = some (.type "dict")) (hn : x ≠ "__name__") (hdb : (x == ("__debug__" : Str)) = false) (ha : SE X Φ W a e)
    (he : starEach (a :: []) X.env = (false, eval a X.env) :: starEach [] X.env := by rfl) (hpl : (backTo pos (starEach [] X.env)).any (·.1) = false := by rfl) : SF X Φ W (.Call (.Name x p) [a] [] pos) (.bi .dict (.cons e .nil)) :=
  sf_biG hΦ (pe_callTy call_dictD hg hm hv (sa_cons hΦ ha sa_nil he) hn hdb he hpl) fun {Xc μ H vs xs res Q} m d hr f => by
    simp only [biV, dictF] at hr
    split at hr
    · rename_i v
      obtain ⟨x, rfl, dx⟩ := d.one
      split at hr
      · rename_i l hl
        cases hr
        obtain ⟨a, kvs, rfl, q1, l1⟩ := m.dct dx hl
        exact ⟨a, kvs, rfl, q1, fun l hl => f l _ hl ⟨kvs, rfl, l1⟩⟩
      · cases hr
    · cases hr

/-! ### isinstance against a built-in type -/
def tyName : Ty → String
  | .int => "int"
  | .bool => "bool"
  | .str => "str"
  | .list => "list"
  | .tuple => "tuple"
  | .dict => "dict"
def kindN : Val → String → Prop
  | .non, n => n = "NoneType"
  | .bl _, n => n = "bool"
  | .int _, n => n = "int"
  | .str _, n => n = "str"
  | .tup _, n => n = "tuple"
  | .lst _, n => n = "list"
  | .dct _, n => n = "dict"
  | _, _ => False
theorem kit_all (t : Ty) (c : Val) (b : Bool) (h : tyC t c = some b) : ∃ n, kindN c n ∧ ∀ K : Fr, PySem.W.kitOne K (.type n) (.type (tyName t)) = some b := by
  cases c <;> first
    | (cases t <;> (cases h; done))
    | (cases t <;> cases h <;> exact ⟨_, rfl, fun K => kit_ty (by decide)⟩)
theorem MRel.ty {K : Fr} {Xc : Addr → Prop} {H : Hp} {μ : Mu} (m : MRel K Xc μ H) {v w : Val} {x : V} (d : Den K (Dn Xc μ) H v x) (e : content μ v = some w) {n : String}
    (hn : kindN w n) : TyX K H x (.type n) := by
  cases w with
  | non => subst hn; rw [m.flat d e trivial]; exact .base .non
  | bl b => subst hn; rw [m.flat d e trivial]; exact .base (.bl b)
  | int b => subst hn; rw [m.int d e]; exact .base (.int b)
  | str b => subst hn; rw [(m.strV d e).1]; exact .base (.str b)
  | tup l =>
    subst hn
    obtain ⟨a, xs, rfl, q, _⟩ := m.tup d e
    rcases q with (q | ⟨o, q⟩) | ⟨o, its, n, h1, h2, _⟩
    · exact .base (.tup q)
    · exact .fTuple q
    · exact .kTuple h1 h2
  | lst l =>
    subst hn
    obtain ⟨a, xs, rfl, q, _⟩ := m.lst d e
    rcases q with (q | ⟨o, q⟩) | ⟨o, its, n, h1, h2, _⟩
    · exact .base (.lst q)
    · exact .base (.frz q)
    · exact .kList h1 h2
  | dct l =>
    subst hn
    obtain ⟨a, xs, rfl, q, _⟩ := m.dct d e
    rcases q with q | ⟨o, q⟩
    · exact .base (.dK q)
    · exact .fDict q
  | _ => exact hn.elim
theorem se_isT (hΦ : MonoP Φ) {x y : Str} {p p2 pos : Pos} {e : E} (t : Ty) (hg : Gl X x) (hm : X.mg x = none) (hv : bootBuiltins x = some (.builtin "isinstance")) (hn : x ≠ "__name__") (hdb : (x == ("__debug__" : Str)) = false) (ha : SE X Φ W a e)
    (hy : PE X (.Name y p2) (tC (.ty (tyName t))))
    (he : starEach (a :: [.Name y p2]) X.env = (false, eval a X.env) :: starEach [.Name y p2] X.env := by rfl) (he2 : starEach [.Name y p2] X.env = (false, eval (.Name y p2) X.env) :: starEach [] X.env := by rfl) (hpl : (backTo pos (starEach [.Name y p2] X.env)).any (·.1) = false := by rfl) :
    SE X Φ W (.Call (.Name x p) [a, .Name y p2] [] pos) (.isT e t) :=
  PE.imp (pe_callB call_isi hg hm hv (pa_cons ha (pa_cons hy pa_nil he2) he) hn hdb he hpl) fun σ H Q ⟨Xc, env, μ, S, q⟩ => by
    simp only [wpE] at q
    refine use hΦ S Ext.refl q fun v μ1 x H1 S1 E1 E1' d q1 => ?_
    split at q1
    · rename_i b hb
      unfold tyV at hb
      cases hc : content μ1 v with
      | none => rw [hc] at hb; cases hb
      | some c =>
        rw [hc] at hb
        obtain ⟨n, h1, h2⟩ := kit_all t c b hb
        exact ⟨x, .ty (tyName t), .type n, .type (tyName t), b, rfl, .ty _, S1.m.ty d hc h1, h2 _, q1 _ H1 S1 E1' rfl⟩
    · exact q1.elim

/-! ### methods of lists and dicts -/
def Ty' (K : Fr) (T : String) (x : V) (H : Hp) : Prop := L2.tyV K T x H ∨ (T = "dict" ∧ ∃ a, x = .ref a ∧ IsD H a)
theorem ty'_is {pins : List (Addr × Obj)} {σ : List (Option V)} {H : Hp} {s : Shared} {T : String} {x : V} {v : Value} (I : Inv X pins σ H s) (r : RelV x v) (ty : Ty' X.K T x H) :
    s.TypeIs v T ∧ ∀ a, v = .ref a → ∃ ob, s.heap.get? a = some ob ∧ ob.dict = none := by
  rcases ty with ty | ⟨rfl, a, rfl, d⟩
  · exact tyV_is I r ty
  · cases r
    obtain ⟨h1, h2, _⟩ := isD_at I d
    exact ⟨h1, h2⟩
def tBM' (K : Fr) (T : String) (r : V → List V → Hp → VK → Prop) (to : TE) (t : TA) : TE := fun σ H Q => to σ H fun x H1 => Ty' K T x H1 ∧ t σ H1 fun xs H2 => r x xs H2 Q
theorem pe_bm' {o e : Expr} {es : List Expr} {to : TE} {t : TA} {name : Str} {apos cpos : Pos} {T id : String} {r : V → List V → Hp → VK → Prop} (pa : PlainAttrs T) (slot : Slot T name id) (hty : typeOf (.builtin id) = pure (.type "method_descriptor")) (hm : MtR X id r) (ho : PE X o to) (ha : PA X (e :: es) t)
    (hbase : attributeBase o name X.env (eval o X.env) = eval o X.env := by rfl)
    (hfew : ((backTo cpos (starEach (e :: es) X.env)).all (fun x => !x.1) && (backToKw cpos (keywordEach [] X.env)).all (fun x => x.1.isSome)
      && decide ((e :: es).length + ([] : List Keyword).length + (if ([] : List Keyword).isEmpty then 0 else 1) < 30)) = true := by rfl)
    (hline : (apos.endLine == cpos.line) = true := by rfl) (hs : starEach (e :: es) X.env = (false, eval e X.env) :: starEach es X.env := by rfl) (hplain : (backTo cpos (starEach es X.env)).any (·.1) = false := by rfl) :
    PE X (.Call (.Attribute o name apos) (e :: es) [] cpos) (tBM' X.K T r to t) := by
  refine ⟨fun pins s σ H Q I h => ?_⟩
  refine wpAny_Call_method_late hbase hfew hline rfl (thn (ho.run pins s σ H _ I h) fun v s1 ⟨x, H1, I1, r1, ty, q1⟩ => ?_)
  obtain ⟨h1, h2⟩ := ty'_is I1 r1 ty
  refine ⟨T, id, pa, slot, hty, h1, h2, ?_⟩
  have hA := ha.run cpos pins s1 σ H1 _ I1 q1
  rw [hs] at hA ⊢
  refine Calls.callWith_builtin (by show (false || (backTo cpos (starEach es X.env)).any (·.1)) = false; rw [hplain] <;> rfl) (Calls.evalArgs_plain ?_)
  exact thn hA fun us s2 ⟨vs, H2, I2, r2, q2⟩ => hm pins s2 σ H2 x vs v us Q I2 r1 r2 q2
def tBM0' (K : Fr) (T : String) (r : V → List V → Hp → VK → Prop) (to : TE) : TE := fun σ H Q => to σ H fun x H1 => Ty' K T x H1 ∧ r x [] H1 Q
theorem pe_bm0' {o : Expr} {to : TE} {name : Str} {apos cpos : Pos} {T id : String} {r : V → List V → Hp → VK → Prop} (pa : PlainAttrs T) (slot : Slot T name id) (hty : typeOf (.builtin id) = pure (.type "method_descriptor")) (hm : MtR X id r) (ho : PE X o to)
    (hbase : attributeBase o name X.env (eval o X.env) = eval o X.env := by rfl) (hline : (apos.endLine == cpos.line) = true := by rfl) : PE X (.Call (.Attribute o name apos) [] [] cpos) (tBM0' X.K T r to) := by
  refine ⟨fun pins s σ H Q I h => ?_⟩
  refine wpAny_Call_method0_late hbase hline (thn (ho.run pins s σ H _ I h) fun v s1 ⟨x, H1, I1, r1, ty, q1⟩ => ?_)
  obtain ⟨h1, h2⟩ := ty'_is I1 r1 ty
  exact ⟨T, id, pa, slot, hty, h1, h2, Calls.callWith_builtin rfl (PySem.evalArgs_none (hm pins s1 σ H1 x [] v [] Q I1 r1 .nil q1))⟩
/-- what a method is, by values -/
def rMe (K : Fr) (m : Me) : V → List V → Hp → VK → Prop := fun x xs H Q => ∃ Xc μ v vs r μ', MRel K Xc μ H ∧ Den K (Dn Xc μ) H v x ∧ DenL K (Dn Xc μ) H vs xs ∧ meV μ m v vs = some (r, μ') ∧
  ∀ y H', MRel K Xc μ' H' → Ext μ H μ' H' → Den K (Dn Xc μ') H' r y → Q y H'
theorem se_meG {o e : Expr} {es : List Expr} {name : Str} {apos cpos : Pos} {T id : String} {m : Me} {eo : E} {l : Es} (hΦ : MonoP Φ)
    (h : PE X (.Call (.Attribute o name apos) (e :: es) [] cpos) (tBM' X.K T (rMe X.K m) (rdE X.K X.mg Φ W eo) (rdA X.K X.mg Φ W l)))
    (ty : ∀ {Xc : Addr → Prop} {μ : Mu} {H : Hp} {v : Val} {x : V}, MRel X.K Xc μ H → Den X.K (Dn Xc μ) H v x → meOk μ m v = true → Ty' X.K T x H) : SE X Φ W (.Call (.Attribute o name apos) (e :: es) [] cpos) (.me m eo l) :=
  PE.imp h fun σ H Q ⟨Xc, env, μ, S, q⟩ => by
    simp only [wpE] at q
    refine use hΦ S Ext.refl q fun v μ1 x H1 S1 E1 E1' d ⟨ok, q1⟩ => ⟨ty S1.m d ok, ?_⟩
    refine useA hΦ S1 E1' q1 fun vs μ2 xs H2 S2 E2 E2' d2 q2 => ?_
    split at q2
    · rename_i r μ3 hr
      exact ⟨Xc, μ2, v, vs, r, μ3, S2.m, d.ext E2, d2, hr, fun y H3 m3 E3 d3 => q2 y H3 (S2.of_ext m3 E3) (E2'.trans E3) d3⟩
    · exact q2.elim
theorem se_meG0 {o : Expr} {name : Str} {apos cpos : Pos} {T id : String} {m : Me} {eo : E} (hΦ : MonoP Φ)
    (h : PE X (.Call (.Attribute o name apos) [] [] cpos) (tBM0' X.K T (rMe X.K m) (rdE X.K X.mg Φ W eo)))
    (ty : ∀ {Xc : Addr → Prop} {μ : Mu} {H : Hp} {v : Val} {x : V}, MRel X.K Xc μ H → Den X.K (Dn Xc μ) H v x → meOk μ m v = true → Ty' X.K T x H) : SE X Φ W (.Call (.Attribute o name apos) [] [] cpos) (.me m eo .nil) :=
  PE.imp h fun σ H Q ⟨Xc, env, μ, S, q⟩ => by
    simp only [wpE, wpEs] at q
    refine use hΦ S Ext.refl q fun v μ1 x H1 S1 E1 E1' d ⟨ok, q1⟩ => ⟨ty S1.m d ok, ?_⟩
    split at q1
    · rename_i r μ3 hr
      exact ⟨Xc, μ1, v, [], r, μ3, S1.m, d, rfl, hr, fun y H3 m3 E3 d3 => q1 y H3 (S1.of_ext m3 E3) (E1'.trans E3) d3⟩
    · exact q1.elim
theorem ty_lst {Xc : Addr → Prop} {μ : Mu} {H : Hp} {v : Val} {x : V} {l : List Val} (m : MRel X.K Xc μ H) (d : Den X.K (Dn Xc μ) H v x) (h : content μ v = some (.lst l)) : Ty' X.K "list" x H := by
  obtain ⟨a, xs, rfl, q, _⟩ := m.lst d h
  exact .inl (.inl ⟨rfl, xs, q⟩)
theorem mt_append' : MtR X "list.append" (rMe X.K .append) := by
  intro pins s σ H x xs v us Q I rx rv h
  obtain ⟨Xc, μ, v', vs, r, μ', m, d, ds, e, q⟩ := h
  simp only [meV, appendF] at e
  split at e
  · rename_i a y
    split at e
    · rename_i l hl
      split at e
      · rename_i hz
        cases e
        obtain ⟨ys, hy, l1⟩ := m.lstM hl
        obtain ⟨z, rfl, dz⟩ := ds.one
        have r' : CRel X.K (Dn Xc μ) H (.lst (l ++ [y])) (.lst (ys ++ [z])) := ⟨_, rfl, l1.append ⟨z, [], rfl, dz, rfl⟩⟩
        exact mt_append pins s σ H x [z] v us Q I rx rv ⟨a, ys, z, d, rfl, hy, by rw [← big_line, ← l1.length]; exact hz, q _ _ (m.put hl r') (Ext.put hl) rfl⟩
      · cases e
    · cases e
  all_goals first | (cases e; done) | skip
theorem mt_pop' : MtR X "list.pop" (rMe X.K .pop) := by
  intro pins s σ H x xs v us Q I rx rv h
  obtain ⟨Xc, μ, v', vs, r, μ', m, d, ds, e, q⟩ := h
  have hs : sizeLine = 16777216 := sizeLine_eq
  simp only [meV, popF] at e
  split at e
  all_goals first | (cases e; done) | skip
  · rename_i a
    split at e
    · rename_i l hl
      obtain ⟨y, hy, e2⟩ := Option.map_eq_some_iff.mp e
      cases e2
      obtain ⟨ys, hys, l1⟩ := m.lstM hl
      obtain ⟨z, hz, dz⟩ := l1.get hy
      have r' : CRel X.K (Dn Xc μ) H (.lst l.dropLast) (.lst ys.dropLast) := ⟨_, rfl, l1.dropLast⟩
      rw [show xs = [] from ds] at rv
      exact mt_pop pins s σ H x [] v us Q I rx rv ⟨a, ys, z, d, rfl, hys, by rw [← l1.length]; exact hz, q _ _ (m.put hl r') (Ext.put hl) (dz.ext (Ext.put hl))⟩
    · cases e
  · rename_i a i
    split at e
    · rename_i l hl
      split at e
      · rename_i hbig
        cases hk : Mi.ixN l.length i with
        | none => rw [hk] at e; cases e
        | some k =>
          rw [hk] at e
          obtain ⟨y, hy, e2⟩ := Option.map_eq_some_iff.mp e
          cases e2
          obtain ⟨ys, hys, l1⟩ := m.lstM hl
          obtain ⟨z, hz, dz⟩ := l1.get hy
          obtain ⟨w, rfl, dw⟩ := ds.one
          have r' : CRel X.K (Dn Xc μ) H (.lst (l.eraseIdx k)) (.lst (ys.eraseIdx k)) := ⟨_, rfl, l1.eraseIdx k⟩
          have hk' : L2.ixN ys.length i = some k := by rw [← l1.length]; exact hk
          obtain ⟨h1, h2, h3, h4⟩ := ixN_seq hk'
          have hbig' : l.length ≤ 16777216 := hbig
          have hln := l1.length
          exact mt_popAt pins s σ H x [w] v us Q I rx rv ⟨a, ys, i, k, z, d, by rw [show w = V.int i from dw], hys, by omega, by omega, h1, hz, q _ _ (m.put hl r') (Ext.put hl) (dz.ext (Ext.put hl))⟩
      · cases e
    · cases e
theorem se_append (hΦ : MonoP Φ) {o e : Expr} {apos cpos : Pos} {eo ea : E} (ho : SE X Φ W o eo) (ha : SE X Φ W e ea)
    (hbase : attributeBase o "append" X.env (eval o X.env) = eval o X.env := by rfl)
    (hfew : ((backTo cpos (starEach (e :: []) X.env)).all (fun x => !x.1) && (backToKw cpos (keywordEach [] X.env)).all (fun x => x.1.isSome)
      && decide ((e :: []).length + ([] : List Keyword).length + (if ([] : List Keyword).isEmpty then 0 else 1) < 30)) = true := by rfl)
    (hline : (apos.endLine == cpos.line) = true := by rfl) (hs : starEach (e :: []) X.env = (false, eval e X.env) :: starEach [] X.env := by rfl) (hplain : (backTo cpos (starEach [] X.env)).any (·.1) = false := by rfl) :
    SE X Φ W (.Call (.Attribute o "append" apos) [e] [] cpos) (.me .append eo (.cons ea .nil)) :=
  se_meG (id := "list.append") hΦ (pe_bm' PySem.F.plainAttrs_list PySem.F.slot_list_append PySem.F.type_list_append mt_append' ho (sa_cons hΦ ha sa_nil hs) hbase hfew hline hs hplain) fun {Xc μ H v x} m d ok => by
    replace ok : isLst μ v = true := ok
    unfold isLst at ok
    split at ok
    · rename_i hc; exact ty_lst m d hc
    · cases ok
theorem se_pop0 (hΦ : MonoP Φ) {o : Expr} {apos cpos : Pos} {eo : E} (ho : SE X Φ W o eo)
    (hbase : attributeBase o "pop" X.env (eval o X.env) = eval o X.env := by rfl) (hline : (apos.endLine == cpos.line) = true := by rfl) :
    SE X Φ W (.Call (.Attribute o "pop" apos) [] [] cpos) (.me .pop eo .nil) :=
  se_meG0 (id := "list.pop") hΦ (pe_bm0' PySem.F.plainAttrs_list PySem.F.slot_list_pop PySem.F.type_list_pop mt_pop' ho hbase hline) fun {Xc μ H v x} m d ok => by
    replace ok : isLst μ v = true := ok
    unfold isLst at ok
    split at ok
    · rename_i hc; exact ty_lst m d hc
    · cases ok
theorem se_pop1 (hΦ : MonoP Φ) {o e : Expr} {apos cpos : Pos} {eo ea : E} (ho : SE X Φ W o eo) (ha : SE X Φ W e ea)
    (hbase : attributeBase o "pop" X.env (eval o X.env) = eval o X.env := by rfl)
    (hfew : ((backTo cpos (starEach (e :: []) X.env)).all (fun x => !x.1) && (backToKw cpos (keywordEach [] X.env)).all (fun x => x.1.isSome)
      && decide ((e :: []).length + ([] : List Keyword).length + (if ([] : List Keyword).isEmpty then 0 else 1) < 30)) = true := by rfl)
    (hline : (apos.endLine == cpos.line) = true := by rfl) (hs : starEach (e :: []) X.env = (false, eval e X.env) :: starEach [] X.env := by rfl) (hplain : (backTo cpos (starEach [] X.env)).any (·.1) = false := by rfl) :
    SE X Φ W (.Call (.Attribute o "pop" apos) [e] [] cpos) (.me .pop eo (.cons ea .nil)) :=
  se_meG (id := "list.pop") hΦ (pe_bm' PySem.F.plainAttrs_list PySem.F.slot_list_pop PySem.F.type_list_pop mt_pop' ho (sa_cons hΦ ha sa_nil hs) hbase hfew hline hs hplain) fun {Xc μ H v x} m d ok => by
    replace ok : isLst μ v = true := ok
    unfold isLst at ok
    split at ok
    · rename_i hc; exact ty_lst m d hc
    · cases ok
theorem mt_get' {k : Nat} (hr : RoomH k X.A) : MtR X "dict.get" (rMe X.K .get) := by
  intro pins s σ H x xs v us Q I rx rv h
  obtain ⟨Xc, μ, v', vs, r, μ', m, d, ds, e, q⟩ := h
  have hu := hr.un
  simp only [meV, getF] at e
  split at e
  all_goals first | (cases e; done) | skip
  rename_i ky dy
  split at e
  · rename_i l hl
    split at e
    · rename_i hk
      cases e
      obtain ⟨j, hj⟩ := key_isKey hk
      obtain ⟨p, kvs, rfl, q1, l1⟩ := m.dct d hl
      obtain ⟨z1, z2, rfl, d1, d2⟩ := ds.two
      obtain ⟨u1, u2, rfl, r1, r2⟩ := vals2 rv
      obtain rfl : v = Value.ref p := rx
      have g : DGet H p z1 (valV kvs j) := .inl ⟨kvs, j, q1, keyOf_den hj d1, rfl⟩
      refine d_get2 (by omega) I g r1 r2 fun w' s' I' rw' => ⟨_, H, I', rw', q _ _ m Ext.refl ?_⟩
      have hlk := DenP.look hj l1
      cases hq : dLook ky l with
      | none =>
        rw [hq] at hlk
        rw [show valV kvs j = none from hlk]
        exact d2
      | some w =>
        rw [hq] at hlk
        obtain ⟨y, ey, dyy⟩ := hlk
        rw [ey]
        exact dyy
    · cases e
  · cases e
theorem se_get {k : Nat} (hr : RoomH k X.A) (hΦ : MonoP Φ) {o e f : Expr} {apos cpos : Pos} {eo ea ef : E} (ho : SE X Φ W o eo) (ha : SE X Φ W e ea) (hf : SE X Φ W f ef)
    (hbase : attributeBase o "get" X.env (eval o X.env) = eval o X.env := by rfl)
    (hfew : ((backTo cpos (starEach (e :: [f]) X.env)).all (fun x => !x.1) && (backToKw cpos (keywordEach [] X.env)).all (fun x => x.1.isSome)
      && decide ((e :: [f]).length + ([] : List Keyword).length + (if ([] : List Keyword).isEmpty then 0 else 1) < 30)) = true := by rfl)
    (hline : (apos.endLine == cpos.line) = true := by rfl) (hs : starEach (e :: [f]) X.env = (false, eval e X.env) :: starEach [f] X.env := by rfl) (hs2 : starEach [f] X.env = (false, eval f X.env) :: starEach [] X.env := by rfl) (hplain : (backTo cpos (starEach [f] X.env)).any (·.1) = false := by rfl) :
    SE X Φ W (.Call (.Attribute o "get" apos) [e, f] [] cpos) (.me .get eo (.cons ea (.cons ef .nil))) :=
  se_meG (id := "dict.get") hΦ (pe_bm' PySem.F.plainAttrs_dict PySem.F.slot_dict_get PySem.F.type_dict_get (mt_get' hr) ho (sa_cons hΦ ha (sa_cons hΦ hf sa_nil hs2) hs) hbase hfew hline hs hplain) fun {Xc μ H v x} m d ok => by
    replace ok : isDct μ v = true := ok
    unfold isDct at ok
    split at ok
    · rename_i hc
      obtain ⟨p, kvs, rfl, q1, _⟩ := m.dct d hc
      exact .inr ⟨rfl, p, rfl, .inl ⟨kvs, q1⟩⟩
    · cases ok
end
end Mi
/-! Mi7b: more built-ins, more methods. -/
namespace Mi
open PySem PySem.Spec PyProof.Rows L2
open AutoSeq1 (wpAny_loadPart')

theorem intsOf_eq : ∀ {l : List Val} {ns : List Int}, intsOf l = some ns → l = ns.map .int
  | [], ns, h => by cases h; rfl
  | v :: r, ns, h => by
    cases v with
    | int i =>
      simp only [intsOf] at h
      obtain ⟨m, hm, rfl⟩ := Option.map_eq_some_iff.mp h
      rw [intsOf_eq hm]; rfl
    | _ => cases h
theorem boolsOf_eq : ∀ {l : List Val} {ns : List Bool}, boolsOf l = some ns → l = ns.map .bl
  | [], ns, h => by cases h; rfl
  | v :: r, ns, h => by
    cases v with
    | bl i =>
      simp only [boolsOf] at h
      obtain ⟨m, hm, rfl⟩ := Option.map_eq_some_iff.mp h
      rw [boolsOf_eq hm]; rfl
    | _ => cases h
theorem den_ints {K : Fr} {D : Addr → Prop} {H : Hp} : ∀ {ns : List Int} {xs : List V}, DenL K D H (ns.map Val.int) xs → xs = ns.map V.int
  | [], xs, h => h
  | i :: r, xs, h => by
    obtain ⟨x, t, rfl, d, h2⟩ := h
    rw [show x = V.int i from d, den_ints h2]; rfl
theorem den_bools {K : Fr} {D : Addr → Prop} {H : Hp} : ∀ {ns : List Bool} {xs : List V}, DenL K D H (ns.map Val.bl) xs → xs = ns.map V.bl
  | [], xs, h => h
  | i :: r, xs, h => by
    obtain ⟨x, t, rfl, d, h2⟩ := h
    rw [show x = V.bl i from d, den_bools h2]; rfl
theorem ints_den' {K : Fr} {D : Addr → Prop} {H : Hp} : ∀ ns : List Int, DenL K D H (ns.map Val.int) (ns.map V.int)
  | [] => rfl
  | i :: r => ⟨.int i, r.map V.int, rfl, rfl, ints_den' r⟩
theorem lstOf_eq {μ : Mu} {v : Val} {l : List Val} (h : lstOf μ v = some l) : content μ v = some (.lst l) := by
  unfold lstOf at h
  split at h
  · rename_i hc; cases h; exact hc
  · cases h
section
variable {X : Cx} {Xc : Addr → Prop} {μ : Mu} {H : Hp}
/-- a list of ints that is given -/
theorem one_ints {K : Fr} {v : Val} {xs : List V} {f : List Int → Option Val} {res : Val} (m : MRel K Xc μ H) (d : DenL K (Dn Xc μ) H [v] xs) (h : ((lstOf μ v).bind fun l => (intsOf l).bind f) = some res) : ∃ a ns, xs = [V.ref a] ∧ SqL K H a (ns.map V.int) ∧ f ns = some res := by
  obtain ⟨l, hl, h2⟩ := Option.bind_eq_some_iff.mp h
  obtain ⟨ns, hn, h3⟩ := Option.bind_eq_some_iff.mp h2
  obtain ⟨x, rfl, dx⟩ := d.one
  obtain ⟨a, ys, rfl, q1, l1⟩ := m.lst dx (lstOf_eq hl)
  rw [intsOf_eq hn] at l1
  rw [den_ints l1] at q1
  exact ⟨a, ns, rfl, q1, h3⟩
theorem one_bools {K : Fr} {v : Val} {xs : List V} {f : List Bool → Option Val} {res : Val} (m : MRel K Xc μ H) (d : DenL K (Dn Xc μ) H [v] xs) (h : ((lstOf μ v).bind fun l => (boolsOf l).bind f) = some res) : ∃ a ns, xs = [V.ref a] ∧ SqL K H a (ns.map V.bl) ∧ f ns = some res := by
  obtain ⟨l, hl, h2⟩ := Option.bind_eq_some_iff.mp h
  obtain ⟨ns, hn, h3⟩ := Option.bind_eq_some_iff.mp h2
  obtain ⟨x, rfl, dx⟩ := d.one
  obtain ⟨a, ys, rfl, q1, l1⟩ := m.lst dx (lstOf_eq hl)
  rw [boolsOf_eq hn] at l1
  rw [den_bools l1] at q1
  exact ⟨a, ns, rfl, q1, h3⟩
end
theorem foldl_max : ∀ (r : List Int) (i : Int), (r.foldl max i ∈ i :: r) ∧ ∀ y ∈ i :: r, y ≤ r.foldl max i
  | [], i => ⟨by simp, by simp⟩
  | j :: r, i => by
    obtain ⟨h1, h2⟩ := foldl_max r (max i j)
    rw [List.foldl_cons]
    refine ⟨?_, fun y hy => ?_⟩
    · rcases List.mem_cons.mp h1 with e | e
      · rw [e]
        rcases Int.le_total i j with z | z
        · rw [Int.max_eq_right z]; simp
        · rw [Int.max_eq_left z]; simp
      · exact List.mem_cons_of_mem _ (List.mem_cons_of_mem _ e)
    · have h3 := h2 (max i j) List.mem_cons_self
      rcases List.mem_cons.mp hy with e | e
      · rw [e]; have := Int.le_max_left i j; omega
      · rcases List.mem_cons.mp e with e | e
        · rw [e]; have := Int.le_max_right i j; omega
        · exact h2 y (List.mem_cons_of_mem _ e)
theorem foldl_min : ∀ (r : List Int) (i : Int), (r.foldl min i ∈ i :: r) ∧ ∀ y ∈ i :: r, r.foldl min i ≤ y
  | [], i => ⟨by simp, by simp⟩
  | j :: r, i => by
    obtain ⟨h1, h2⟩ := foldl_min r (min i j)
    rw [List.foldl_cons]
    refine ⟨?_, fun y hy => ?_⟩
    · rcases List.mem_cons.mp h1 with e | e
      · rw [e]
        rcases Int.le_total i j with z | z
        · rw [Int.min_eq_left z]; simp
        · rw [Int.min_eq_right z]; simp
      · exact List.mem_cons_of_mem _ (List.mem_cons_of_mem _ e)
    · have h3 := h2 (min i j) List.mem_cons_self
      rcases List.mem_cons.mp hy with e | e
      · rw [e]; have := Int.min_le_left i j; omega
      · rcases List.mem_cons.mp e with e | e
        · rw [e]; have := Int.min_le_right i j; omega
        · exact h2 y (List.mem_cons_of_mem _ e)
section
variable {X : Cx} {Φ : Ph} {W : WX} {a b c : Expr} {pos : Pos}
theorem se_max2 (hΦ : MonoP Φ) {x : Str} {p pos : Pos} {e f : E} (hg : Gl X x) (hm : X.mg x = none) (hv : bootBuiltins x = some (.builtin "max")) (hn : x ≠ "__name__") (hdb : (x == ("__debug__" : Str)) = false) (ha : SE X Φ W a e) (hb : SE X Φ W b f) (hc : X.calm = true := by rfl)
    (he : starEach (a :: [b]) X.env = (false, eval a X.env) :: starEach [b] X.env := by rfl) (he2 : starEach [b] X.env = (false, eval b X.env) :: starEach [] X.env := by rfl) (hpl : (backTo pos (starEach [b] X.env)).any (·.1) = false := by rfl) : SE X Φ W (.Call (.Name x p) [a, b] [] pos) (.bi .max (.cons e (.cons f .nil))) :=
  se_biG hΦ (pe_callB (call_max2 hc) hg hm hv (sa_cons hΦ ha (sa_cons hΦ hb sa_nil he2) he) hn hdb he hpl) fun {Xc μ H vs xs res Q} m d hr f => by
    simp only [biV, maxF] at hr
    split at hr
    · cases hr
      obtain ⟨x, y, rfl, dx, dy⟩ := d.two
      exact ⟨_, _, by rw [show x = V.int _ from dx, show y = V.int _ from dy], f.now _ rfl⟩
    · cases hr
theorem se_min2 (hΦ : MonoP Φ) {x : Str} {p pos : Pos} {e f : E} (hg : Gl X x) (hm : X.mg x = none) (hv : bootBuiltins x = some (.builtin "min")) (hn : x ≠ "__name__") (hdb : (x == ("__debug__" : Str)) = false) (ha : SE X Φ W a e) (hb : SE X Φ W b f) (hc : X.calm = true := by rfl)
    (he : starEach (a :: [b]) X.env = (false, eval a X.env) :: starEach [b] X.env := by rfl) (he2 : starEach [b] X.env = (false, eval b X.env) :: starEach [] X.env := by rfl) (hpl : (backTo pos (starEach [b] X.env)).any (·.1) = false := by rfl) : SE X Φ W (.Call (.Name x p) [a, b] [] pos) (.bi .min (.cons e (.cons f .nil))) :=
  se_biG hΦ (pe_callB (call_min2 hc) hg hm hv (sa_cons hΦ ha (sa_cons hΦ hb sa_nil he2) he) hn hdb he hpl) fun {Xc μ H vs xs res Q} m d hr f => by
    simp only [biV, minF] at hr
    split at hr
    · cases hr
      obtain ⟨x, y, rfl, dx, dy⟩ := d.two
      exact ⟨_, _, by rw [show x = V.int _ from dx, show y = V.int _ from dy], f.now _ rfl⟩
    · cases hr
theorem se_maxL (hΦ : MonoP Φ) {x : Str} {p pos : Pos} {e : E} (hg : Gl X x) (hm : X.mg x = none) (hv : bootBuiltins x = some (.builtin "max")) (hn : x ≠ "__name__") (hdb : (x == ("__debug__" : Str)) = false) (ha : SE X Φ W a e) (hc : X.calm = true := by rfl)
    (he : starEach (a :: []) X.env = (false, eval a X.env) :: starEach [] X.env := by rfl) (hpl : (backTo pos (starEach [] X.env)).any (·.1) = false := by rfl) : SE X Φ W (.Call (.Name x p) [a] [] pos) (.bi .maxL (.cons e .nil)) :=
  se_biG hΦ (pe_callB (cr_max hc) hg hm hv (sa_cons hΦ ha sa_nil he) hn hdb he hpl) fun {Xc μ H vs xs res Q} m d hr f => by
    simp only [biV, maxLF] at hr
    split at hr
    · obtain ⟨a, ns, rfl, q1, h3⟩ := one_ints m d hr
      cases ns with
      | nil => cases h3
      | cons i r =>
        cases h3
        obtain ⟨h1, h2⟩ := foldl_max r i
        exact ⟨a, i :: r, rfl, q1, by simp, fun k hk hle => by
          have e : k = r.foldl max i := Int.le_antisymm (h2 k hk) (hle _ h1)
          rw [e]; exact f.now _ rfl⟩
    · cases hr
theorem se_minL (hΦ : MonoP Φ) {x : Str} {p pos : Pos} {e : E} (hg : Gl X x) (hm : X.mg x = none) (hv : bootBuiltins x = some (.builtin "min")) (hn : x ≠ "__name__") (hdb : (x == ("__debug__" : Str)) = false) (ha : SE X Φ W a e) (hc : X.calm = true := by rfl)
    (he : starEach (a :: []) X.env = (false, eval a X.env) :: starEach [] X.env := by rfl) (hpl : (backTo pos (starEach [] X.env)).any (·.1) = false := by rfl) : SE X Φ W (.Call (.Name x p) [a] [] pos) (.bi .minL (.cons e .nil)) :=
  se_biG hΦ (pe_callB (cr_min hc) hg hm hv (sa_cons hΦ ha sa_nil he) hn hdb he hpl) fun {Xc μ H vs xs res Q} m d hr f => by
    simp only [biV, minLF] at hr
    split at hr
    · obtain ⟨a, ns, rfl, q1, h3⟩ := one_ints m d hr
      cases ns with
      | nil => cases h3
      | cons i r =>
        cases h3
        obtain ⟨h1, h2⟩ := foldl_min r i
        exact ⟨a, i :: r, rfl, q1, by simp, fun k hk hle => by
          have e : k = r.foldl min i := Int.le_antisymm (hle _ h1) (h2 k hk)
          rw [e]; exact f.now _ rfl⟩
    · cases hr
theorem se_sum (hΦ : MonoP Φ) {x : Str} {p pos : Pos} {e : E} (hg : Gl X x) (hm : X.mg x = none) (hv : bootBuiltins x = some (.builtin "sum")) (hn : x ≠ "__name__") (hdb : (x == ("__debug__" : Str)) = false) (ha : SE X Φ W a e) (hc : X.calm = true := by rfl)
    (he : starEach (a :: []) X.env = (false, eval a X.env) :: starEach [] X.env := by rfl) (hpl : (backTo pos (starEach [] X.env)).any (·.1) = false := by rfl) : SE X Φ W (.Call (.Name x p) [a] [] pos) (.bi .sum (.cons e .nil)) :=
  se_biG hΦ (pe_callB (cr_sum hc) hg hm hv (sa_cons hΦ ha sa_nil he) hn hdb he hpl) fun {Xc μ H vs xs res Q} m d hr f => by
    simp only [biV, sumF] at hr
    split at hr
    · obtain ⟨a, ns, rfl, q1, h3⟩ := one_ints m d hr
      cases h3
      exact ⟨a, ns, rfl, q1, f.now _ rfl⟩
    · cases hr
theorem se_all (hΦ : MonoP Φ) {x : Str} {p pos : Pos} {e : E} (hg : Gl X x) (hm : X.mg x = none) (hv : bootBuiltins x = some (.builtin "all")) (hn : x ≠ "__name__") (hdb : (x == ("__debug__" : Str)) = false) (ha : SE X Φ W a e) (hc : X.calm = true := by rfl)
    (he : starEach (a :: []) X.env = (false, eval a X.env) :: starEach [] X.env := by rfl) (hpl : (backTo pos (starEach [] X.env)).any (·.1) = false := by rfl) : SE X Φ W (.Call (.Name x p) [a] [] pos) (.bi .all (.cons e .nil)) :=
  se_biG hΦ (pe_callB (cr_all hc) hg hm hv (sa_cons hΦ ha sa_nil he) hn hdb he hpl) fun {Xc μ H vs xs res Q} m d hr f => by
    simp only [biV, allF] at hr
    split at hr
    · obtain ⟨a, ns, rfl, q1, h3⟩ := one_bools m d hr
      cases h3
      exact ⟨a, ns, rfl, q1, f.now _ rfl⟩
    · cases hr
theorem se_any (hΦ : MonoP Φ) {x : Str} {p pos : Pos} {e : E} (hg : Gl X x) (hm : X.mg x = none) (hv : bootBuiltins x = some (.builtin "any")) (hn : x ≠ "__name__") (hdb : (x == ("__debug__" : Str)) = false) (ha : SE X Φ W a e) (hc : X.calm = true := by rfl)
    (he : starEach (a :: []) X.env = (false, eval a X.env) :: starEach [] X.env := by rfl) (hpl : (backTo pos (starEach [] X.env)).any (·.1) = false := by rfl) : SE X Φ W (.Call (.Name x p) [a] [] pos) (.bi .any (.cons e .nil)) :=
  se_biG hΦ (pe_callB (cr_any hc) hg hm hv (sa_cons hΦ ha sa_nil he) hn hdb he hpl) fun {Xc μ H vs xs res Q} m d hr f => by
    simp only [biV, anyF] at hr
    split at hr
    · obtain ⟨a, ns, rfl, q1, h3⟩ := one_bools m d hr
      cases h3
      exact ⟨a, ns, rfl, q1, f.now _ rfl⟩
    · cases hr
theorem sf_sorted (hΦ : MonoP Φ) {x : Str} {p pos : Pos} {e : E} (hg : Gl X x) (hm : X.mg x = none) (hv : bootBuiltins x = some (.builtin "sorted")) (hn : x ≠ "__name__") (hdb : (x == ("__debug__" : Str)) = false) (ha : SE X Φ W a e)
    (he : starEach (a :: []) X.env = (false, eval a X.env) :: starEach [] X.env := by rfl) (hpl : (backTo pos (starEach [] X.env)).any (·.1) = false := by rfl) : SF X Φ W (.Call (.Name x p) [a] [] pos) (.bi .sorted (.cons e .nil)) :=
  sf_biG hΦ (pe_callB cr_sortedI hg hm hv (sa_cons hΦ ha sa_nil he) hn hdb he hpl) fun {Xc μ H vs xs res Q} m d hr f => by
    simp only [biV, sortedF] at hr
    split at hr
    · obtain ⟨a, ns, rfl, q1, h3⟩ := one_ints m d hr
      cases h3
      refine ⟨a, ns, rfl, q1, fun ns' p hp hs hn => f p _ hn ?_⟩
      rw [sort_uniq hp hs]
      exact ⟨_, rfl, ints_den' _⟩
    · cases hr
theorem list_extendW (l : Addr) (items : Array Value) (n : Nat) (b : Addr) (items2 : Array Value) (n2 : Nat) (dd2 : Option Addr) (sl2 : Array (Option Value)) (hc0 : ¬(!items.isEmpty && Builtin.List.listTooLong (items.size + items2.size)) = true) (hc1 : items.size ≤ sizeLine) (hs2 : items.size + items2.size ≤ sizeLine + 1) :
    Meets (Builtin.«list.extend» ⟨[.ref l, .ref b], []⟩) (fun _ R s => s.heap.get? l = some { cls := .type "list", dict := none, data := .seq items n, slots := #[] } ∧ s.heap.get? b = some { cls := .type "list", dict := dd2, data := .seq items2 n2, slots := sl2 } ∧ R (.ok (.ret Value.none)) { s with heap := s.heap.update l (Obj.mapSeq fun x => x ++ items2), toks := s.toks }) :=
  .of_wp fun prog w A R s h => by
    obtain ⟨hp, g, d, tk, os⟩ := s; obtain ⟨hl, hb, h⟩ := h; have f1 := AutoSeq1.idx_int; have f2 := AutoSeq1.sub_tuple_tuple; have f3 := AutoSeq1.sub_list_list; have f4 := AutoSeq1.sub_tuple_list; have f5 := AutoSeq1.sub_list_tuple;
    have hz' : (items ++ items2).size ≤ sizeLine + 1 := by rw [Array.size_append]; exact hs2
    wp_walk using (wpAny_updateSeq hl rfl (hz := hc1) (_hz' := hz')), wpAny_loadPart' hl, wpAny_loadPart' hb; exact ⟨_, rfl, h⟩
theorem list_extendV (l : Addr) (items : Array Value) (n : Nat) (b : Addr) (items2 : Array Value) (n2 : Nat) (dd2 : Option Addr) (sl2 : Array (Option Value)) (hc0 : ¬(!items.isEmpty && Builtin.List.listTooLong (items.size + items2.size)) = true) (hc1 : items.size ≤ sizeLine) (hs2 : items.size + items2.size ≤ sizeLine + 1) :
    Meets (Builtin.«list.extend» ⟨[.ref l, .ref b], []⟩) (fun _ R s => s.heap.get? l = some { cls := .type "list", dict := none, data := .seq items n, slots := #[] } ∧ s.heap.get? b = some { cls := .type "tuple", dict := dd2, data := .seq items2 n2, slots := sl2 } ∧ R (.ok (.ret Value.none)) { s with heap := s.heap.update l (Obj.mapSeq fun x => x ++ items2), toks := s.toks }) :=
  .of_wp fun prog w A R s h => by
    obtain ⟨hp, g, d, tk, os⟩ := s; obtain ⟨hl, hb, h⟩ := h; have f1 := AutoSeq1.idx_int; have f2 := AutoSeq1.sub_tuple_tuple; have f3 := AutoSeq1.sub_list_list; have f4 := AutoSeq1.sub_tuple_list; have f5 := AutoSeq1.sub_list_tuple;
    have hz' : (items ++ items2).size ≤ sizeLine + 1 := by rw [Array.size_append]; exact hs2
    wp_walk using (wpAny_updateSeq hl rfl (hz := hc1) (_hz' := hz')), wpAny_loadPart' hl, wpAny_loadPart' hb; exact ⟨_, rfl, h⟩
theorem seqOf_eq {μ : Mu} {v : Val} {l : List Val} (h : seqOf μ v = some l) : content μ v = some (.lst l) ∨ content μ v = some (.tup l) := by
  unfold seqOf at h
  split at h
  · rename_i hc; cases h; exact .inl hc
  · rename_i hc; cases h; exact .inr hc
  · cases h
theorem mt_extend' : MtR X "list.extend" (rMe X.K .extend) := by
  intro pins s σ H x xs v us Q I rx rv h
  obtain ⟨Xc, μ, v', vs, r, μ', m, d, ds, e, q⟩ := h
  simp only [meV, extendF] at e
  split at e
  · rename_i a y
    split at e
    · rename_i l hl
      obtain ⟨r2, hr2, e2⟩ := Option.bind_eq_some_iff.mp e
      split at e2
      · rename_i hz
        cases e2
        obtain ⟨ys, hy, l1⟩ := m.lstM hl
        obtain ⟨z, rfl, dz⟩ := ds.one
        rcases seqOf_eq hr2 with hc | hc
        · obtain ⟨b, zs, rfl, q2, l2⟩ := m.lst dz hc
          have r' : CRel X.K (Dn Xc μ) H (.lst (l ++ r2)) (.lst (ys ++ zs)) := ⟨_, rfl, l1.append l2⟩
          have hq := q .non _ (m.put hl r') (Ext.put hl) rfl
          obtain rfl : x = V.ref a := d
          obtain rfl : v = Value.ref a := rx
          obtain ⟨u, rfl, ru⟩ := rv.one
          obtain rfl : u = Value.ref b := ru
          obtain ⟨z1, its, n, rr, hle, ho⟩ := I.lstM hy
          obtain ⟨its2, rr2, hl2, z2⟩ := I.list q2
          obtain ⟨⟨cls2, dd2, data2, sl2⟩, ho2, hc2, n2, hd2⟩ := id hl2.isList
          simp only at hc2 hd2
          subst hc2 hd2
          have hlen : ys.length + zs.length ≤ sizeLine := by rw [← big_line, ← l1.length, ← l2.length]; exact hz
          have e1 := rr.length
          have e2 := rr2.length
          have hsz : its.toArray.size + its2.toArray.size ≤ sizeLine := by rw [List.size_toArray, List.size_toArray]; omega
          have hlong : ¬ (!its.toArray.isEmpty && Builtin.List.listTooLong (its.toArray.size + its2.toArray.size)) = true := by
            rw [notLongL hsz, Bool.and_false]
            exact Bool.false_ne_true
          refine call_meets PySem.F.slot_list_extend ⟨_, ho, rfl⟩ PySem.F.entry_list_extend (PySem.F.args_list_extend_2 _ _)
            (list_extendW a its.toArray n b its2.toArray n2 dd2 sl2 hlong (by rw [List.size_toArray]; omega) (by omega)) ⟨ho, ho2, ?_⟩
          refine ⟨.non, _, I.lset (its' := its ++ its2) hy ho (by simp) (rr.append rr2) ?_, rfl, hq⟩
          rw [List.length_append]
          omega
        · obtain ⟨b, zs, rfl, q2, l2⟩ := m.tup dz hc
          have r' : CRel X.K (Dn Xc μ) H (.lst (l ++ r2)) (.lst (ys ++ zs)) := ⟨_, rfl, l1.append l2⟩
          have hq := q .non _ (m.put hl r') (Ext.put hl) rfl
          obtain rfl : x = V.ref a := d
          obtain rfl : v = Value.ref a := rx
          obtain ⟨u, rfl, ru⟩ := rv.one
          obtain rfl : u = Value.ref b := ru
          obtain ⟨z1, its, n, rr, hle, ho⟩ := I.lstM hy
          obtain ⟨its2, rr2, hl2, z2⟩ := I.tuple q2
          obtain ⟨⟨cls2, dd2, data2, sl2⟩, ho2, hc2, n2, hd2⟩ := id hl2
          simp only at hc2 hd2
          subst hc2 hd2
          have hlen : ys.length + zs.length ≤ sizeLine := by rw [← big_line, ← l1.length, ← l2.length]; exact hz
          have e1 := rr.length
          have e2 := rr2.length
          have hsz : its.toArray.size + its2.toArray.size ≤ sizeLine := by rw [List.size_toArray, List.size_toArray]; omega
          have hlong : ¬ (!its.toArray.isEmpty && Builtin.List.listTooLong (its.toArray.size + its2.toArray.size)) = true := by
            rw [notLongL hsz, Bool.and_false]
            exact Bool.false_ne_true
          refine call_meets PySem.F.slot_list_extend ⟨_, ho, rfl⟩ PySem.F.entry_list_extend (PySem.F.args_list_extend_2 _ _)
            (list_extendV a its.toArray n b its2.toArray n2 dd2 sl2 hlong (by rw [List.size_toArray]; omega) (by omega)) ⟨ho, ho2, ?_⟩
          refine ⟨.non, _, I.lset (its' := its ++ its2) hy ho (by simp) (rr.append rr2) ?_, rfl, hq⟩
          rw [List.length_append]
          omega
      · cases e2
    · cases e
  all_goals first | (cases e; done) | skip
theorem DenL.reverse {K : Fr} {D : Addr → Prop} {H : Hp} : ∀ {l : List Val} {xs : List V}, DenL K D H l xs → DenL K D H l.reverse xs.reverse
  | [], xs, h => by rw [show xs = [] from h]; exact rfl
  | v :: r, xs, ⟨x, t, e, d, h⟩ => by
    subst e
    rw [List.reverse_cons, List.reverse_cons]
    exact (DenL.reverse h).append ⟨x, [], rfl, d, rfl⟩
theorem mt_reverse' : MtR X "list.reverse" (rMe X.K .reverse) := by
  intro pins s σ H x xs v us Q I rx rv h
  obtain ⟨Xc, μ, v', vs, r, μ', m, d, ds, e, q⟩ := h
  simp only [meV, reverseF] at e
  split at e
  · rename_i a
    split at e
    · rename_i l hl
      cases e
      obtain ⟨ys, hy, l1⟩ := m.lstM hl
      have r' : CRel X.K (Dn Xc μ) H (.lst l.reverse) (.lst ys.reverse) := ⟨_, rfl, l1.reverse⟩
      rw [show xs = [] from ds] at rv
      exact mt_reverse pins s σ H x [] v us Q I rx rv ⟨a, ys, d, rfl, hy, q _ _ (m.put hl r') (Ext.put hl) rfl⟩
    · cases e
  all_goals first | (cases e; done) | skip
theorem mt_clear' : MtR X "list.clear" (rMe X.K .clear) := by
  intro pins s σ H x xs v us Q I rx rv h
  obtain ⟨Xc, μ, v', vs, r, μ', m, d, ds, e, q⟩ := h
  simp only [meV, clearF] at e
  split at e
  · rename_i a
    split at e
    · rename_i l hl
      cases e
      obtain ⟨ys, hy, l1⟩ := m.lstM hl
      have r' : CRel X.K (Dn Xc μ) H (.lst []) (.lst []) := ⟨_, rfl, rfl⟩
      rw [show xs = [] from ds] at rv
      exact mt_clear pins s σ H x [] v us Q I rx rv ⟨a, ys, d, rfl, hy, q _ _ (m.put hl r') (Ext.put hl) rfl⟩
    · cases e
  all_goals first | (cases e; done) | skip
theorem se_extend (hΦ : MonoP Φ) {o e : Expr} {apos cpos : Pos} {eo ea : E} (ho : SE X Φ W o eo) (ha : SE X Φ W e ea)
    (hbase : attributeBase o "extend" X.env (eval o X.env) = eval o X.env := by rfl)
    (hfew : ((backTo cpos (starEach (e :: []) X.env)).all (fun x => !x.1) && (backToKw cpos (keywordEach [] X.env)).all (fun x => x.1.isSome)
      && decide ((e :: []).length + ([] : List Keyword).length + (if ([] : List Keyword).isEmpty then 0 else 1) < 30)) = true := by rfl)
    (hline : (apos.endLine == cpos.line) = true := by rfl) (hs : starEach (e :: []) X.env = (false, eval e X.env) :: starEach [] X.env := by rfl) (hplain : (backTo cpos (starEach [] X.env)).any (·.1) = false := by rfl) :
    SE X Φ W (.Call (.Attribute o "extend" apos) [e] [] cpos) (.me .extend eo (.cons ea .nil)) :=
  se_meG (id := "list.extend") hΦ (pe_bm' PySem.F.plainAttrs_list PySem.F.slot_list_extend PySem.F.type_list_extend mt_extend' ho (sa_cons hΦ ha sa_nil hs) hbase hfew hline hs hplain) fun {Xc μ H v x} m d ok => by
    replace ok : isLst μ v = true := ok
    unfold isLst at ok
    split at ok
    · rename_i hc; exact ty_lst m d hc
    · cases ok
theorem se_reverse (hΦ : MonoP Φ) {o : Expr} {apos cpos : Pos} {eo : E} (ho : SE X Φ W o eo)
    (hbase : attributeBase o "reverse" X.env (eval o X.env) = eval o X.env := by rfl) (hline : (apos.endLine == cpos.line) = true := by rfl) :
    SE X Φ W (.Call (.Attribute o "reverse" apos) [] [] cpos) (.me .reverse eo .nil) :=
  se_meG0 (id := "list.reverse") hΦ (pe_bm0' PySem.F.plainAttrs_list PySem.F.slot_list_reverse PySem.F.type_list_reverse mt_reverse' ho hbase hline) fun {Xc μ H v x} m d ok => by
    replace ok : isLst μ v = true := ok
    unfold isLst at ok
    split at ok
    · rename_i hc; exact ty_lst m d hc
    · cases ok
theorem se_clear (hΦ : MonoP Φ) {o : Expr} {apos cpos : Pos} {eo : E} (ho : SE X Φ W o eo)
    (hbase : attributeBase o "clear" X.env (eval o X.env) = eval o X.env := by rfl) (hline : (apos.endLine == cpos.line) = true := by rfl) :
    SE X Φ W (.Call (.Attribute o "clear" apos) [] [] cpos) (.me .clear eo .nil) :=
  se_meG0 (id := "list.clear") hΦ (pe_bm0' PySem.F.plainAttrs_list PySem.F.slot_list_clear PySem.F.type_list_clear mt_clear' ho hbase hline) fun {Xc μ H v x} m d ok => by
    replace ok : isLst μ v = true := ok
    unfold isLst at ok
    split at ok
    · rename_i hc; exact ty_lst m d hc
    · cases ok
/-! .count(b), .index(b) of bools -/
theorem bools_cnt {b : Bool} : ∀ {bs : List Bool} {its : List Value}, Vals (bs.map V.bl) its → its.countP (eqU (V.bl b)) = bs.count b
  | [], _, .nil => rfl
  | c :: r, _, .cons rx rt => by
    rw [List.countP_cons, List.count_cons, bools_cnt rt, eqU_of rx rfl, show L2.eqV (V.bl c) (V.bl b) = (c == b) from rfl]
theorem idx_before {b : Bool} : ∀ {bs : List Bool} {j : Nat}, j < bs.idxOf b → ∀ (h : j < bs.length), (bs[j] == b) = false
  | c :: r, 0, hj, _ => by
    rw [List.idxOf_cons] at hj
    cases hc : c == b with
    | true => rw [hc] at hj; exact absurd hj (Nat.lt_irrefl 0)
    | false => exact hc
  | c :: r, j + 1, hj, h => by
    rw [List.idxOf_cons] at hj
    cases hc : c == b with
    | true => rw [hc] at hj; exact absurd hj (Nat.not_lt_zero _)
    | false =>
      rw [hc] at hj
      exact idx_before (Nat.lt_of_succ_lt_succ hj) (Nat.lt_of_succ_lt_succ h)
theorem bools_flat (bs : List Bool) : (bs.map V.bl).all flatV = true := by simp [flatV]
theorem mt_count' : MtR X "list.count" (rMe X.K .count) := by
  intro pins s σ H x xs v us Q I rx rv h
  obtain ⟨Xc, μ, v', vs, r, μ', m, d, ds, e, q⟩ := h
  simp only [meV, countF] at e
  split at e
  · rename_i b
    obtain ⟨l, hl, e⟩ := Option.bind_eq_some_iff.mp e
    obtain ⟨bs, hb, e⟩ := Option.bind_eq_some_iff.mp e
    cases e
    obtain ⟨a, ys, rfl, q1, l1⟩ := m.lst d (lstOf_eq hl)
    rw [boolsOf_eq hb] at l1
    rw [den_bools l1] at q1
    obtain ⟨y, rfl, dy⟩ := ds.one
    obtain ⟨u, rfl, ry⟩ := rv.one
    rw [show y = V.bl b from dy] at ry
    obtain rfl : v = Value.ref a := rx
    obtain ⟨its, rr, ⟨⟨cls, dd, data, sl⟩, n, ho, hc, hdn, hd⟩, hlen⟩ := I.list q1
    simp only at hc hd
    subst hc hd
    refine call_meets PySem.F.slot_list_count ⟨_, ho, rfl⟩ PySem.F.entry_list_count (PySem.F.args_list_count_2 _ _)
      (SeqAt.list_countAt a its.toArray n dd sl u (eqU (V.bl b))) ⟨ho, fun z hz => mem_eqAt ry rfl rr (bools_flat bs) z (by simpa using hz), ?_⟩
    refine ⟨.int (bs.count b : Nat), H, I.tok _, ⟨s.toks, ?_⟩, q _ _ m Ext.refl rfl⟩
    show Value.int ((its.toArray.toList.countP (eqU (V.bl b)) : Nat) : Int) s.toks = Value.int ((bs.count b : Nat) : Int) s.toks
    rw [show its.toArray.toList.countP (eqU (V.bl b)) = bs.count b from bools_cnt rr]
  · cases e
theorem mt_index' : MtR X "list.index" (rMe X.K .index) := by
  intro pins s σ H x xs v us Q I rx rv h
  obtain ⟨Xc, μ, v', vs, r, μ', m, d, ds, e, q⟩ := h
  simp only [meV, indexF] at e
  split at e
  · rename_i b
    obtain ⟨l, hl, e⟩ := Option.bind_eq_some_iff.mp e
    obtain ⟨bs, hb, e⟩ := Option.bind_eq_some_iff.mp e
    split at e
    · rename_i hmem
      cases e
      obtain ⟨a, ys, rfl, q1, l1⟩ := m.lst d (lstOf_eq hl)
      rw [boolsOf_eq hb] at l1
      rw [den_bools l1] at q1
      obtain ⟨y, rfl, dy⟩ := ds.one
      rw [show y = V.bl b from dy] at rv
      have hlt := List.idxOf_lt_length_of_mem hmem
      refine mt_index pins s σ H _ _ v us Q I rx rv ⟨a, bs.map V.bl, .bl b, bs.idxOf b, .bl b, rfl, rfl, q1, rfl, bools_flat bs, ?_, by simp [L2.eqV], fun j z hj hz => ?_, q _ _ m Ext.refl rfl⟩
      · rw [List.getElem?_map, List.getElem?_eq_getElem hlt, List.getElem_idxOf hlt]; rfl
      · rw [List.getElem?_map] at hz
        have hjl : j < bs.length := by omega
        rw [List.getElem?_eq_getElem hjl] at hz
        cases hz
        exact idx_before hj hjl
    · cases e
  · cases e
theorem se_count (hΦ : MonoP Φ) {o e : Expr} {apos cpos : Pos} {eo ea : E} (ho : SE X Φ W o eo) (ha : SE X Φ W e ea)
    (hbase : attributeBase o "count" X.env (eval o X.env) = eval o X.env := by rfl)
    (hfew : ((backTo cpos (starEach (e :: []) X.env)).all (fun x => !x.1) && (backToKw cpos (keywordEach [] X.env)).all (fun x => x.1.isSome)
      && decide ((e :: []).length + ([] : List Keyword).length + (if ([] : List Keyword).isEmpty then 0 else 1) < 30)) = true := by rfl)
    (hline : (apos.endLine == cpos.line) = true := by rfl) (hs : starEach (e :: []) X.env = (false, eval e X.env) :: starEach [] X.env := by rfl) (hplain : (backTo cpos (starEach [] X.env)).any (·.1) = false := by rfl) :
    SE X Φ W (.Call (.Attribute o "count" apos) [e] [] cpos) (.me .count eo (.cons ea .nil)) :=
  se_meG (id := "list.count") hΦ (pe_bm' PySem.F.plainAttrs_list PySem.F.slot_list_count PySem.F.type_list_count mt_count' ho (sa_cons hΦ ha sa_nil hs) hbase hfew hline hs hplain) fun {Xc μ H v x} m d ok => by
    replace ok : isLst μ v = true := ok
    unfold isLst at ok
    split at ok
    · rename_i hc; exact ty_lst m d hc
    · cases ok
theorem se_index (hΦ : MonoP Φ) {o e : Expr} {apos cpos : Pos} {eo ea : E} (ho : SE X Φ W o eo) (ha : SE X Φ W e ea)
    (hbase : attributeBase o "index" X.env (eval o X.env) = eval o X.env := by rfl)
    (hfew : ((backTo cpos (starEach (e :: []) X.env)).all (fun x => !x.1) && (backToKw cpos (keywordEach [] X.env)).all (fun x => x.1.isSome)
      && decide ((e :: []).length + ([] : List Keyword).length + (if ([] : List Keyword).isEmpty then 0 else 1) < 30)) = true := by rfl)
    (hline : (apos.endLine == cpos.line) = true := by rfl) (hs : starEach (e :: []) X.env = (false, eval e X.env) :: starEach [] X.env := by rfl) (hplain : (backTo cpos (starEach [] X.env)).any (·.1) = false := by rfl) :
    SE X Φ W (.Call (.Attribute o "index" apos) [e] [] cpos) (.me .index eo (.cons ea .nil)) :=
  se_meG (id := "list.index") hΦ (pe_bm' PySem.F.plainAttrs_list PySem.F.slot_list_index PySem.F.type_list_index mt_index' ho (sa_cons hΦ ha sa_nil hs) hbase hfew hline hs hplain) fun {Xc μ H v x} m d ok => by
    replace ok : isLst μ v = true := ok
    unfold isLst at ok
    split at ok
    · rename_i hc; exact ty_lst m d hc
    · cases ok
end
end Mi
/-! Mi7c: xs[::-1]. -/
namespace Mi
open PySem PySem.Spec PyProof.Rows L2
theorem fm_congr {α β : Type} {f g : α → Option β} : ∀ {l : List α}, (∀ x ∈ l, f x = g x) → l.filterMap f = l.filterMap g
  | [], _ => rfl
  | a :: l, h => by
    rw [List.filterMap_cons, List.filterMap_cons, h a List.mem_cons_self, fm_congr fun x hx => h x (List.mem_cons_of_mem _ hx)]
theorem all_at {α : Type} : ∀ l : List α, (List.range l.length).filterMap (fun k => l[k]?) = l
  | [] => rfl
  | a :: l => by
    rw [List.length_cons, List.range_succ_eq_map, List.filterMap_cons]
    simp only [List.getElem?_cons_zero, List.filterMap_map]
    congr 1
    exact all_at l
theorem slicePick_rev (items : List Value) : PySem.slicePick items.toArray none none (some (-1)) = items.reverse.toArray := by
  unfold PySem.slicePick
  congr 1
  have hb : sliceBounds none none (some (-1)) items.toArray.size = ((items.length : Int) - 1, -1, -1) := by
    unfold sliceBounds
    simp
  rw [hb]
  unfold sliceRange
  have hc : (if (-1 : Int) > 0 then (if (items.length : Int) - 1 < -1 then (-1 - ((items.length : Int) - 1) + -1 - 1) / -1 else 0) else (if (items.length : Int) - 1 > -1 then ((items.length : Int) - 1 - -1 - -1 - 1) / -(-1) else 0)).toNat = items.length := by
    rw [if_neg (by decide)]
    split
    · have : ((items.length : Int) - 1 - -1 - -1 - 1) / -(-1) = items.length := by
        have : (-(-1 : Int)) = 1 := rfl
        rw [this, Int.ediv_one]; omega
      rw [this]; rfl
    · omega
  dsimp only at hc ⊢
  rw [hc]
  rw [List.filterMap_map]
  have h2 := all_at items.reverse
  rw [List.length_reverse] at h2
  rw [← h2]
  apply fm_congr
  intro k hk
  have hk := List.mem_range.mp hk
  have e : ((items.length : Int) - 1 + -1 * (k : Int)).toNat = items.length - 1 - k := by omega
  show items.toArray[((items.length : Int) - 1 + -1 * (k : Int)).toNat]? = items.reverse[k]?
  rw [e, List.getElem?_reverse hk, List.getElem?_toArray]
section
variable {prog : Program} {w : World} {A : Around} {E : Value → Shared → Prop} {s : Shared}
theorem slice_down {b : Addr} {v : Value} {n : Nat} {Q : Int × Int × Nat → Shared → Prop} (hb : s.heap.IsSliceOf b .none .none v) (pv : IsPart v (some (-1))) (q : Q ((n : Int) - 1, -1, n) s) : wpAny (model prog w) A (Builtin.Slice.sliceApplied (.ref b) (pure (n : Int))) Q E s := by
  obtain ⟨ob, hob, _, hdb⟩ := id hb
  cases pv with
  | int _ t =>
    unfold Builtin.Slice.sliceApplied
    unfold Builtin.Slice.sliceFields
    refine wpAny_bind (wpAny_bind (wpAny_field hob hdb (x := .none) rfl (wpAny_bind (wpAny_field hob hdb (x := .none) rfl (wpAny_bind (wpAny_field hob hdb (x := .int (-1) t) rfl (wpAny_pure ?_)))))))
    refine wpAny_bind (slicePart_int ?_)
    show wpAny _ _ (if ((-1 : Int) == 0) = true then _ else _) _ _ s
    rw [if_neg (by decide)]
    refine wpAny_bind (slicePart_none (wpAny_bind (slicePart_none (wpAny_bind (wpAny_pure ?_)))))
    show wpAny _ _ (match Builtin.Slice.sliceAdjust none none (-1) (n : Int) with | (x, y) => pure (x, (-1 : Int), Builtin.Slice.slicePlaces x y (-1))) _ _ s
    have e1 : Builtin.Slice.sliceAdjust none none (-1) (n : Int) = ((n : Int) - 1, -1) := rfl
    have e2 : Builtin.Slice.slicePlaces ((n : Int) - 1) (-1) (-1) = n := by
      unfold Builtin.Slice.slicePlaces
      have : (-(-1 : Int)) = 1 := rfl
      rw [if_neg (by decide), this]
      split <;> omega
    rw [e1]
    show wpAny _ _ (pure ((n : Int) - 1, (-1 : Int), Builtin.Slice.slicePlaces ((n : Int) - 1) (-1) (-1))) _ _ s
    rw [e2]
    exact wpAny_pure q
theorem pick_down (items : List Value) : ((List.range items.length).filterMap fun (k : Nat) => items.toArray[((items.length : Int) - 1 + (k : Int) * (-1)).toNat]?).toArray = items.reverse.toArray := by
  have h2 := all_at items.reverse
  rw [List.length_reverse] at h2
  rw [← h2]
  congr 1
  apply fm_congr
  intro k hk
  have hk := List.mem_range.mp hk
  have e : ((items.length : Int) - 1 + (k : Int) * (-1)).toNat = items.length - 1 - k := by omega
  rw [e, List.getElem?_reverse hk, List.getElem?_toArray]
theorem getItem_tuple_down {a b : Addr} {items : List Value} {v : Value} {Q : Value → Shared → Prop} (hl : IsTup s.heap a items.toArray) (hb : s.heap.IsSliceOf b .none .none v) (pv : IsPart v (some (-1))) (hz : items.length ≤ sizeLine)
    (q : Q (.ref s.heap.objs.size) { s with heap := s.heap.push { cls := .type "tuple", data := .seq items.reverse.toArray } }) : wpAny (model prog w) A (getItem (.ref a) (.ref b)) Q E s := by
  have room : sizeOk (.seq items.reverse.toArray) := by
    show items.reverse.toArray.size ≤ sizeLine
    rw [List.size_toArray, List.length_reverse]; exact hz
  obtain ⟨ob, hob, hcb, _⟩ := id hb
  have isS : s.TypeIs (.ref b) "slice" := ⟨ob, hob, hcb⟩
  unfold getItem
  try with_reducible refine wpAny_holding ?_
  first | refine wpAny_bind (wpAny_pure ?_) | skip
  refine wpAny_bind (wpAny_sequenceKey hl.typeIs (by decide) ?_)
  refine wpAny_bind (wpAny_callSpecial?_slot (name := Str.ofString "__getitem__") hl.typeIs PyProof.Rows.slot_tuple_getitem (wpAny_call_entry PyProof.Rows.slot_tuple_getitem hl.typeIs entry_tuple_getitem ?_ (args_tuple_getitem _ _)))
  show wpAny _ _ (Builtin.Tuple.tupleItemsOf (.ref a) >>= _) _ _ s
  refine wpAny_bind (tupleItemsOf_ hl (wpAny_bind (wpAny_typeOf isS ?_)))
  rw [if_pos (by decide), show items.toArray.size = items.length from List.size_toArray ..]
  refine wpAny_bind (slice_down hb pv ?_)
  have no : ¬ (((items.length : Int) - 1 == 0 && (-1 : Int) == 1 && items.length == items.length) = true) := by simp
  show wpAny _ _ (if ((items.length : Int) - 1 == 0 && (-1 : Int) == 1 && items.length == items.length) = true then _ else _) _ _ s
  rw [if_neg no, pick_down]
  first
    | exact wpAny_bind (m := Builtin.Tuple.tupleExact _) (wpAny_newObj_type (wpAny_pure ⟨_, rfl, wpAny_pure q⟩) room)
    | exact wpAny_bind (m := Builtin.Tuple.tupleExact _) (wpAny_newObj_type (wpAny_bind (wpAny_pure (wpAny_pure ⟨_, rfl, wpAny_pure q⟩))) room)
    | exact wpAny_bind (wpAny_bind (m := Builtin.Tuple.tupleExact _) (wpAny_newObj_type (wpAny_pure (wpAny_pure ⟨_, rfl, wpAny_pure q⟩)) room))
    | exact wpAny_bind (wpAny_bind (m := Builtin.Tuple.tupleExact _) (wpAny_newObj_type (wpAny_pure ⟨_, rfl, wpAny_pure q⟩) room))
end
section
variable {X : Cx} {e st : Expr} {te : TE} {ts : TO} {pos p2 : Pos}
/-- xs[::-1] -/
theorem pe_rev (he : PE X e te) (hs : PO X (some st) ts) (hz : ∀ o i, subscripted (.Slice none none (some st) p2) false o i = operate [o, i] (getItem o i) := by intro _ _; with_unfolding_all rfl) : PE X (.Subscript e (.Slice none none (some st) p2) pos) (fun σ H Q => te σ H fun x H1 => ts σ H1 fun o H2 => o = some (-1) ∧ ∃ a xs, x = .ref a ∧ ((SqL X.K H2 a xs ∧ ∀ p, H2 p = none → Q (.ref p) (upd H2 p (.lst xs.reverse))) ∨ (SqT X.K H2 a xs ∧ ∀ p, H2 p = none → Q (.ref p) (upd H2 p (.tup xs.reverse))))) := by
  refine ⟨fun pins s σ H Q I h => ?_⟩
  refine Subscript_ (thn (he.run pins s σ H _ I h) fun v s1 ⟨x, H1, I1, r1, q1⟩ => ?_)
  refine wpAny_Slice ?_
  rw [evalPart_none]
  refine wpAny_pure ?_
  refine wpAny_pure ?_
  refine thn (hs.run pins s1 σ H1 _ I1 q1) fun vs s3 ⟨o, H3, I3, ps, q2⟩ => ?_
  obtain ⟨rfl, a, xs, rfl, hq⟩ := q2
  have I4 : Inv X pins σ H3 { s3 with heap := s3.heap.push { cls := .type "slice", data := .fields #[.none, .none, vs] } } := I3.kept (t' := s3.toks) fun b ob q => Heap.get?_push_of_some _ q
  cases r1
  rcases hq with ⟨hx, q3⟩ | ⟨hx, q3⟩
  · obtain ⟨its, r, ht, hzz⟩ := I4.list hx
    have hlen := r.length
    refine tail_any (ops := [.ref a, .ref s3.heap.objs.size]) ht.isList.typeIs slot_list_getitem.lookup ?_ (by with_unfolding_all rfl)
    refine wpAny_getItem_list_slice ht.isList (Heap.IsSliceOf.new ..) .none .none ps (by simp) ?_ (by rw [List.size_toArray] <;> omega)
    rw [slicePick_rev]
    exact ⟨.ref _, _, I4.lnew (t' := s3.toks) r.reverse (by rw [List.length_reverse]; exact hzz), rfl, q3 _ I4.fresh⟩
  · obtain ⟨its, r, ht, hzz⟩ := I4.tuple hx
    have hlen := r.length
    refine tail_any (ops := [.ref a, .ref s3.heap.objs.size]) ht.typeIs PyProof.Rows.slot_tuple_getitem.lookup ?_ (by with_unfolding_all rfl)
    refine getItem_tuple_down ht (Heap.IsSliceOf.new ..) ps (by omega) ?_
    exact ⟨.ref _, _, I4.laid (t' := s3.toks) (o := .tup xs.reverse) (fun _ _ z => Heap.get?_push_of_some _ z) (Nat.le_refl _) ⟨by rw [List.length_reverse]; exact hzz, _, r.reverse, IsTup.new _ _⟩, rfl, q3 _ I4.fresh⟩
variable {Φ : Ph} {W : WX}
theorem sf_rev (hΦ : MonoP Φ) {a : Expr} {ea : E} {p3 p4 : Pos} {j : Nat} (ha : SE X Φ W a ea) (hz : ∀ o i, subscripted (.Slice none none (some (.UnaryOp .USub (.Constant (.int 1) j p4) p3)) p2) false o i = operate [o, i] (getItem o i) := by intro _ _; with_unfolding_all rfl) : SF X Φ W (.Subscript a (.Slice none none (some (.UnaryOp .USub (.Constant (.int 1) j p4) p3)) p2) pos) (.bi .rev (.cons ea .nil)) := by
  refine PE.imp (pe_rev ha (po_some (pe_un un_neg pe_int)) hz) fun σ H Q ⟨Xc, env, μ, S, q⟩ => ?_
  simp only [wpE, wpEs] at q
  refine use hΦ S Ext.refl q fun v μ1 x H1 S1 E1 E1' d q1 => ?_
  split at q1
  · rename_i r hr
    simp only [biV, revF] at hr
    split at hr
    · rename_i l hl
      cases hr
      obtain ⟨b, ys, rfl, q2, l1⟩ := S1.m.lst d hl
      exact ⟨1, rfl, -1, rfl, rfl, b, ys, rfl, .inl ⟨q2, fun p hp => q1 p _ H1 S1 E1' hp ⟨_, rfl, l1.reverse⟩⟩⟩
    · rename_i l hl
      cases hr
      obtain ⟨b, ys, rfl, q2, l1⟩ := S1.m.tup d hl
      exact ⟨1, rfl, -1, rfl, rfl, b, ys, rfl, .inr ⟨q2, fun p hp => q1 p _ H1 S1 E1' hp ⟨_, rfl, l1.reverse⟩⟩⟩
    · cases hr
  · exact q1.elim
end
end Mi
/-! Mi7d: how many different ones a list, a tuple holds. -/
namespace Mi
open PySem PySem.Spec PyProof.Rows L2
abbrev Ky := L2.Key
/-- the different ones among the first i, in the order in which they come -/
def met (val : Nat → Ky) : Nat → List Ky
  | 0 => []
  | i + 1 => if (met val i).any (fun x => decide (x = val i)) = true then met val i else met val i ++ [val i]
theorem met_le (val : Nat → Ky) : ∀ i, (met val i).length ≤ i
  | 0 => Nat.le_refl 0
  | i + 1 => by
    have ih := met_le val i
    unfold met
    split
    · omega
    · rw [List.length_append, List.length_singleton]; omega
def inMet (val : Nat → Ky) (i : Nat) : Ky → Bool := fun k => (met val i).any fun x => decide (x = k)
theorem inMet_succ (val : Nat → Ky) (i : Nat) (k : Ky) : inMet val (i + 1) k = (inMet val i k || decide (k = val i)) := by
  unfold inMet
  rw [met]
  by_cases h : ((met val i).any fun x => decide (x = val i)) = true
  · rw [if_pos h]
    by_cases e : k = val i
    · subst e; rw [h]; simp
    · simp [e]
  · rw [if_neg h, List.any_append]
    by_cases e : k = val i
    · subst e; simp
    · have : ¬ val i = k := fun z => e z.symm
      simp [e, this]
theorem met_len (val : Nat → Ky) (i : Nat) : (met val (i + 1)).length = if inMet val i (val i) = true then (met val i).length else (met val i).length + 1 := by
  unfold inMet
  rw [met]
  split <;> simp
section
variable {prog : Program} {w : World} {A : Around} {R : Result → Shared → Prop} {I : Addr} {fp wr : List Addr} {G : Array GenState → Array GenState → Prop} {n : Nat} {P : Nat → Value → Prop} {St : Nat → Shared → Prop}
theorem setof_eq {h : Heap} {a : Addr} {S S' : Ky → Bool} {n n' : Nat} (hS : h.SetOf (mixKind prog w) a S n) (e : S = S') (en : n = n') : h.SetOf (mixKind prog w) a S' n' := by
  subst e en
  exact hS
theorem setof_move {h h' : Heap} {a : Addr} {S : Ky → Bool} {n : Nat} (hS : h.SetOf (mixKind prog w) a S n) (e : ∀ o, h.get? a = some o → h'.get? a = some o) : h'.SetOf (mixKind prog w) a S n := by
  obtain ⟨o, es, ep, t, ho, rest⟩ := hS
  exact ⟨o, es, ep, t, e o ho, rest⟩
/-- the loop that fills a new set -/
theorem fill_loop (W : WalksS prog w A.in1 I fp wr G n P St) (T : Addr) (hT : T ∉ fp) (val : Nat → Ky) (hv : ∀ i v, P i v → (mixKind prog w).is (val i) v = true ∧ v.scannable = true) (hb : n + 1 < scanBound) : ∀ (k i : Nat) (s : Shared), n - i = k → i ≤ n → St i s →
    s.heap.SetOf (mixKind prog w) T (inMet val i) (met val i).length →
    (∀ s', Moved (T :: wr) G s s' → s'.heap.SetOf (mixKind prog w) T (inMet val n) (met val n).length → R (.ok (.ret .none)) s') → codeAny (model prog w) A (.builtin "set.update.loop" ⟨[.ref T, .ref I], []⟩) R s := by
  have hTw : T ∉ wr := fun z => hT (W.sub _ z)
  have hsub : ∀ b ∈ wr, b ∈ T :: wr := fun _ z => .tail _ z
  intro k
  induction k with
  | zero =>
    intro i s hk hi hst hS hR
    obtain rfl : i = n := by omega
    refine codeAny_builtin PyProof.Rows.F.entry_set_update_loop ?_
    rw [Around.under_plainId PyProof.Rows.F.plain_set_update_loop _]
    refine (wpAny_bind (W.done s _ _ hst fun s' hm => ?_) : wpAny _ A.in1 (pyNext (.ref I) >>= _) _ _ s)
    have last := hR s' (hm.mono hsub) (setof_move hS fun o e => hm.heap T _ hTw e)
    show wpAny _ A.in1 (ret .none) _ _ s'
    exact wpAny_pure last
  | succ k ih =>
    intro i s hk hi hst hS hR
    have hlt : i < n := by omega
    refine codeAny_builtin PyProof.Rows.F.entry_set_update_loop ?_
    rw [Around.under_plainId PyProof.Rows.F.plain_set_update_loop _]
    refine (wpAny_bind (W.item i s _ _ hlt hst fun v s' hP hst' hm => ?_) : wpAny _ A.in1 (pyNext (.ref I) >>= _) _ _ s)
    obtain ⟨hk1, hk2⟩ := hv i v hP
    have hS1 := setof_move hS fun o e => hm.heap T _ hTw e
    refine (wpAny_bind (wpAny_holding ?_) : wpAny _ A.in1 (holding [v] (setAdd T v) >>= _) _ _ s')
    unfold setAdd
    refine wpAny_holding (wpAny_bind ((mixKind prog w).pyHash (k := val i) hk1 ?_))
    have hroom : (met val i).length + 1 < scanBound := by have := met_le val i; omega
    refine wpAny_setAddHashed_of (knd := mixKind prog w) (s := { s' with toks := s'.toks + 1 }) hk1 hk2 hS1 hroom fun h' same hS2 => ?_
    have hS3 : h'.SetOf (mixKind prog w) T (inMet val (i + 1)) (met val (i + 1)).length := setof_eq hS2 (funext fun k' => (inMet_succ val i k').symm) (met_len val i).symm
    refine wpAny_pure ⟨plainId_quiet PyProof.Rows.F.plain_set_update_loop _, ih (i + 1) _ (by omega) hlt (W.frame _ s' _ _ hst' (Nat.le_succ _) fun b hb' o e => ?_) hS3 fun s2 hm2 hS4 => ?_⟩
    · have ne : b ≠ T := fun z => hT (z ▸ hb')
      rw [same.2 b ne]
      exact e
    · refine hR s2 (Moved.trans W.gtrans ((hm.mono hsub).then_heap (Nat.le_succ _) fun b o hb' e => ?_) hm2) hS4
      have ne : b ≠ T := fun z => hb' (z ▸ List.mem_cons_self)
      rw [same.2 b ne]
      exact e
/-- a new set object -/
abbrev newSet (led : Bool) : Obj := { cls := .type "set", dict := none, data := .set #[] 0 (.fresh 0 0 led) }
/-- set(xs), xs a list of ints and texts -/
theorem call_set_keys {E : Value → Shared → Prop} {s : Shared} {l : Addr} {items : Array Value} (val : Nat → Ky) {Q : Value → Shared → Prop} (hh : A.handled = none) (hl : s.heap.IsList l items)
    (hv : ∀ i v, items[i]? = some v → (mixKind prog w).is (val i) v = true ∧ v.scannable = true) (hb : items.size + 1 < scanBound)
    (q : ∀ (h' : Heap) (tk : Nat), h'.SetOf (mixKind prog w) s.heap.objs.size (inMet val items.size) (met val items.size).length → (∀ b o, b < s.heap.objs.size → s.heap.get? b = some o → h'.get? b = some o) → Q (.ref s.heap.objs.size) { s with heap := h', toks := tk }) :
    wpAny (model prog w) A (call (.type "set") [.ref l]) Q E s := by
  obtain ⟨c, tl, hmro⟩ := PySem.F.called_set.mro
  have f1 := PySem.F.called_set.made
  have f2 := PySem.F.called_set.sub
  have f3 := PySem.F.called_set.notType
  have f4 := PySem.F.called_set.canCreate
  have f5 := PySem.F.typeCall_set_1 (.ref l)
  refine wpAny_call (codeAny_of_tree (show wpAny _ _ (callAny (.type "set") _) _ _ _ from wpAny_pure ⟨Code.quiet_builtin _ (by decide +kernel), codeAny_builtin PySem.F.entry_type_call ?_⟩))
  rw [Around.under_plain (weight_type_call_type "set" [.ref l] []) rfl]
  repeat (any_goals (first | assumption | wp_step))
  refine codeAny_mono (code_set_new_1 (.ref l) (E := E) (Q₁ := fun v u => ∃ led : Bool, v = .ref s.heap.objs.size ∧ u = { s with heap := s.heap.push (newSet led) }) fun led => ⟨led, rfl, rfl⟩) fun r u hr => ?_
  match r, hr with
  | .error e, hr => exact hr
  | .ok (.ret v), hr =>
    obtain ⟨led, rfl, rfl⟩ := hr
    have g1 : (s.heap.push (newSet led)).get? s.heap.objs.size = some (newSet led) := Heap.get?_push_size _ rfl
    have g2 : Shared.TypeIs { s with heap := s.heap.push (newSet led) } (.ref s.heap.objs.size) "set" := ⟨_, g1, rfl⟩
    have g3 := PySem.F.called_set.init.lookup
    have g4 := PySem.F.called_set.init.bind (.ref s.heap.objs.size)
    repeat (any_goals (first | assumption | wp_step))
    refine codeAny_mono (codeAny_call_builtin (R := wants (fun r u => r = .none ∧ ∃ h' tk, u = { s with heap := h', toks := tk } ∧ h'.SetOf (mixKind prog w) s.heap.objs.size (inMet val items.size) (met val items.size).length ∧ (∀ b o, b < s.heap.objs.size → s.heap.get? b = some o → h'.get? b = some o)) E) PySem.F.called_set.init.plain PySem.F.entry_set_init (check_set_init_1 g2 ?_)) fun r u hr => ?_
    · obtain ⟨⟨cls, dd, data, sl⟩, ho, hc, nl, hd⟩ := id hl
      simp only at hc hd
      subst hc hd
      have ho' : (s.heap.push (newSet led)).get? l = some { cls := .type "list", dict := dd, data := .seq items nl, slots := sl } := Heap.get?_push_of_some _ ho
      have l1 : (s.heap.push (newSet led)).IsList l items := ⟨_, ho', rfl, nl, rfl⟩
      have e1 := PySem.F.sub_list_set
      have e2 := PySem.F.sub_list_frozenset
      have e3 : (Value.type "list" == Value.type "dict") = false := by decide
      unfold Builtin.«set.__init__» noKeywords Builtin.Frozenset.updateFrom
      generalize hPI : pyIter = PI
      wp_walk
      subst hPI
      refine wpAny_pyIter_list l1 (wpAny_bind (wpAny_runValue ?_))
      have lt := Heap.lt_size ho
      have z : (s.heap.push (newSet led)).objs.size = s.heap.objs.size + 1 := Heap.size_push ..
      have n1 : l ≠ (s.heap.push (newSet led)).objs.size := by rw [z]; exact Nat.ne_of_lt (Nat.lt_succ_of_lt lt)
      have n2 : s.heap.objs.size ∉ [(s.heap.push (newSet led)).objs.size, l] := by
        rw [z]
        simp only [List.mem_cons, List.not_mem_nil, or_false, not_or]
        exact ⟨Nat.ne_of_lt (Nat.lt_succ_self _), Nat.ne_of_gt lt⟩
      refine fill_loop ((Walks.list (by simp [hh] : A.in1.in1.in1.handled = none) _ l n1 items).toS) s.heap.objs.size n2 val hv hb (items.size - 0) 0 _ (by omega) (Nat.zero_le _) ⟨⟨_, Heap.get?_push_size _ rfl, rfl, rfl⟩, (l1.push _)⟩ ?_ fun s2 hm hs => ?_
      · have g5 : ((s.heap.push (newSet led)).push { cls := .type "list_iterator", data := .fields #[.ref l, .int 0 0] }).get? s.heap.objs.size = some (newSet led) := Heap.get?_push_of_some _ g1
        exact ⟨newSet led, #[], 0, _, g5, ⟨rfl, rfl, rfl⟩, rfl, fun e he => by simp at he, fun k => by simp [inMet, met], by decide, by rfl, rfl⟩
      · obtain ⟨h', g', d', tk', os'⟩ := s2
        have k1 : g' = s.gens := hm.gens
        have k2 : d' = s.drawn := hm.drawn
        have k3 : os' = s.os := hm.os
        subst k1 k2 k3
        show wpAny _ _ _ _ _ _
        refine wpAny_pure ?_
        show wpAny _ _ (ret Value.none) _ _ _
        refine wpAny_pure ⟨rfl, h', tk', rfl, hs, fun b o hb' e => ?_⟩
        have m1 : b ≠ s.heap.objs.size := Nat.ne_of_lt hb'
        have m2 : b ≠ (s.heap.push (newSet led)).objs.size := by rw [z]; exact Nat.ne_of_lt (Nat.lt_succ_of_lt hb')
        refine hm.heap b o ?_ (Heap.get?_push_of_some _ (Heap.get?_push_of_some _ e))
        simp only [List.mem_cons, List.not_mem_nil, or_false, not_or]
        exact ⟨m1, m2⟩
    · match r, hr with
      | .error e, hr => exact hr
      | .ok (.ret v), hr =>
        obtain ⟨rfl, h', tk, rfl, hs, hk⟩ := hr
        repeat (any_goals (first | assumption | wp_step))
        exact q _ _ hs hk
  | .ok .next, hr => exact hr.elim
/-- set(xs), xs a tuple of ints and texts -/
theorem call_set_keysT {E : Value → Shared → Prop} {s : Shared} {l : Addr} {items : Array Value} (val : Nat → Ky) {Q : Value → Shared → Prop} (hh : A.handled = none) (hl : s.heap.IsTuple l items)
    (hv : ∀ i v, items[i]? = some v → (mixKind prog w).is (val i) v = true ∧ v.scannable = true) (hb : items.size + 1 < scanBound)
    (q : ∀ (h' : Heap) (tk : Nat), h'.SetOf (mixKind prog w) s.heap.objs.size (inMet val items.size) (met val items.size).length → (∀ b o, b < s.heap.objs.size → s.heap.get? b = some o → h'.get? b = some o) → Q (.ref s.heap.objs.size) { s with heap := h', toks := tk }) :
    wpAny (model prog w) A (call (.type "set") [.ref l]) Q E s := by
  obtain ⟨c, tl, hmro⟩ := PySem.F.called_set.mro
  have f1 := PySem.F.called_set.made
  have f2 := PySem.F.called_set.sub
  have f3 := PySem.F.called_set.notType
  have f4 := PySem.F.called_set.canCreate
  have f5 := PySem.F.typeCall_set_1 (.ref l)
  refine wpAny_call (codeAny_of_tree (show wpAny _ _ (callAny (.type "set") _) _ _ _ from wpAny_pure ⟨Code.quiet_builtin _ (by decide +kernel), codeAny_builtin PySem.F.entry_type_call ?_⟩))
  rw [Around.under_plain (weight_type_call_type "set" [.ref l] []) rfl]
  repeat (any_goals (first | assumption | wp_step))
  refine codeAny_mono (code_set_new_1 (.ref l) (E := E) (Q₁ := fun v u => ∃ led : Bool, v = .ref s.heap.objs.size ∧ u = { s with heap := s.heap.push (newSet led) }) fun led => ⟨led, rfl, rfl⟩) fun r u hr => ?_
  match r, hr with
  | .error e, hr => exact hr
  | .ok (.ret v), hr =>
    obtain ⟨led, rfl, rfl⟩ := hr
    have g1 : (s.heap.push (newSet led)).get? s.heap.objs.size = some (newSet led) := Heap.get?_push_size _ rfl
    have g2 : Shared.TypeIs { s with heap := s.heap.push (newSet led) } (.ref s.heap.objs.size) "set" := ⟨_, g1, rfl⟩
    have g3 := PySem.F.called_set.init.lookup
    have g4 := PySem.F.called_set.init.bind (.ref s.heap.objs.size)
    repeat (any_goals (first | assumption | wp_step))
    refine codeAny_mono (codeAny_call_builtin (R := wants (fun r u => r = .none ∧ ∃ h' tk, u = { s with heap := h', toks := tk } ∧ h'.SetOf (mixKind prog w) s.heap.objs.size (inMet val items.size) (met val items.size).length ∧ (∀ b o, b < s.heap.objs.size → s.heap.get? b = some o → h'.get? b = some o)) E) PySem.F.called_set.init.plain PySem.F.entry_set_init (check_set_init_1 g2 ?_)) fun r u hr => ?_
    · obtain ⟨⟨cls, dd, data, sl⟩, ho, hc, nl, hd⟩ := id hl
      simp only at hc hd
      subst hc hd
      have ho' : (s.heap.push (newSet led)).get? l = some { cls := .type "tuple", dict := dd, data := .seq items nl, slots := sl } := Heap.get?_push_of_some _ ho
      have l1 : (s.heap.push (newSet led)).IsTuple l items := ⟨_, ho', rfl, nl, rfl⟩
      have e1 := PySem.F.sub_tuple_set
      have e2 := PySem.F.sub_tuple_frozenset
      have e3 : (Value.type "tuple" == Value.type "dict") = false := by decide
      unfold Builtin.«set.__init__» noKeywords Builtin.Frozenset.updateFrom
      generalize hPI : pyIter = PI
      wp_walk
      subst hPI
      refine wpAny_pyIter_tuple l1 (wpAny_bind (wpAny_runValue ?_))
      have lt := Heap.lt_size ho
      have z : (s.heap.push (newSet led)).objs.size = s.heap.objs.size + 1 := Heap.size_push ..
      have n1 : l ≠ (s.heap.push (newSet led)).objs.size := by rw [z]; exact Nat.ne_of_lt (Nat.lt_succ_of_lt lt)
      have n2 : s.heap.objs.size ∉ [(s.heap.push (newSet led)).objs.size, l] := by
        rw [z]
        simp only [List.mem_cons, List.not_mem_nil, or_false, not_or]
        exact ⟨Nat.ne_of_lt (Nat.lt_succ_self _), Nat.ne_of_gt lt⟩
      refine fill_loop ((Walks.tuple (by simp [hh] : A.in1.in1.in1.handled = none) _ l n1 items).toS) s.heap.objs.size n2 val hv hb (items.size - 0) 0 _ (by omega) (Nat.zero_le _) ⟨⟨_, Heap.get?_push_size _ rfl, rfl, rfl⟩, (l1.push _)⟩ ?_ fun s2 hm hs => ?_
      · have g5 : ((s.heap.push (newSet led)).push { cls := .type "tuple_iterator", data := .fields #[.ref l, .int 0 0] }).get? s.heap.objs.size = some (newSet led) := Heap.get?_push_of_some _ g1
        exact ⟨newSet led, #[], 0, _, g5, ⟨rfl, rfl, rfl⟩, rfl, fun e he => by simp at he, fun k => by simp [inMet, met], by decide, by rfl, rfl⟩
      · obtain ⟨h', g', d', tk', os'⟩ := s2
        have k1 : g' = s.gens := hm.gens
        have k2 : d' = s.drawn := hm.drawn
        have k3 : os' = s.os := hm.os
        subst k1 k2 k3
        show wpAny _ _ _ _ _ _
        refine wpAny_pure ?_
        show wpAny _ _ (ret Value.none) _ _ _
        refine wpAny_pure ⟨rfl, h', tk', rfl, hs, fun b o hb' e => ?_⟩
        have m1 : b ≠ s.heap.objs.size := Nat.ne_of_lt hb'
        have m2 : b ≠ (s.heap.push (newSet led)).objs.size := by rw [z]; exact Nat.ne_of_lt (Nat.lt_succ_of_lt hb')
        refine hm.heap b o ?_ (Heap.get?_push_of_some _ (Heap.get?_push_of_some _ e))
        simp only [List.mem_cons, List.not_mem_nil, or_false, not_or]
        exact ⟨m1, m2⟩
    · match r, hr with
      | .error e, hr => exact hr
      | .ok (.ret v), hr =>
        obtain ⟨rfl, h', tk, rfl, hs, hk⟩ := hr
        repeat (any_goals (first | assumption | wp_step))
        exact q _ _ hs hk
  | .ok .next, hr => exact hr.elim
end
/-! the data's side -/
def kVal : Ky → Val
  | .inl i => .int i
  | .inr x => .str x
theorem keyOf_kVal (k : Ky) : keyOf (kVal k) = some k := by cases k <;> rfl
theorem keyEq_kVal (a b : Ky) : keyEq (kVal a) (kVal b) = decide (a = b) := keyEq_of (keyOf_kVal a) (keyOf_kVal b)
theorem keys_of : ∀ {l : List Val}, l.all isKey = true → ∃ ks : List Ky, l = ks.map kVal
  | [], _ => ⟨[], rfl⟩
  | v :: r, h => by
    rw [List.all_cons, Bool.and_eq_true] at h
    obtain ⟨ks, rfl⟩ := keys_of h.2
    cases v with
    | int i => exact ⟨.inl i :: ks, rfl⟩
    | str x => exact ⟨.inr x :: ks, rfl⟩
    | _ => exact absurd h.1 (by simp [isKey])
def stepK (acc : List Ky) (v : Ky) : List Ky := if acc.any (fun x => decide (x = v)) = true then acc else acc ++ [v]
theorem dist_fold : ∀ (ks acc : List Ky), (ks.map kVal).foldl (fun acc v => if acc.any (fun x => keyEq x v) = true then acc else acc ++ [v]) (acc.map kVal) = (ks.foldl stepK acc).map kVal
  | [], acc => rfl
  | k :: r, acc => by
    rw [List.map_cons, List.foldl_cons, List.foldl_cons]
    have e : (acc.map kVal).any (fun x => keyEq x (kVal k)) = acc.any (fun x => decide (x = k)) := by
      rw [List.any_map]
      congr 1
      funext x
      exact keyEq_kVal x k
    rw [e, ← dist_fold r]
    congr 1
    unfold stepK
    split <;> simp
theorem met_fold (ks : List Ky) (z : Ky) : ∀ i, i ≤ ks.length → met (fun j => ks.getD j z) i = (ks.take i).foldl stepK []
  | 0, _ => by simp [met]
  | i + 1, h => by
    have ih := met_fold ks z i (by omega)
    have e : ks.take (i + 1) = ks.take i ++ [ks.getD i z] := by
      rw [List.take_succ, List.getElem?_eq_getElem (by omega), List.getD_eq_getElem?_getD, List.getElem?_eq_getElem (by omega)]
      rfl
    rw [e, List.foldl_append, ← ih]
    rfl
theorem dist_met (ks : List Ky) (z : Ky) : (distK (ks.map kVal)).length = (met (fun j => ks.getD j z) ks.length).length := by
  rw [met_fold ks z _ (Nat.le_refl _), List.take_length]
  have := dist_fold ks []
  unfold distK
  rw [List.map_nil] at this
  rw [this, List.length_map]
theorem den_keys {K : Fr} {D : Addr → Prop} {H : Hp} : ∀ {ks : List Ky} {xs : List V}, DenL K D H (ks.map kVal) xs → xs = ks.map kV
  | [], xs, h => h
  | i :: r, xs, h => by
    obtain ⟨x, t, rfl, d, h2⟩ := h
    rw [den_keys h2, keyOf_den (keyOf_kVal i) d]; rfl
theorem keys_at : ∀ {ks : List Ky} {its : List Value}, Vals (ks.map kV) its → ∀ i v, its[i]? = some v → keyIs (ks.getD i (.inl 0)) v = true ∧ v.scannable = true
  | [], _, .nil, i, v, h => by simp at h
  | k :: ks, _, .cons r t, 0, v, h => by
    cases h
    refine ⟨?_, key_scan r⟩
    cases k with
    | inl i =>
      obtain ⟨t, rfl⟩ := r
      exact keyIs_int i t
    | inr x =>
      obtain ⟨t, rfl⟩ := r
      exact keyIs_str x t
  | k :: ks, _, .cons r t, i + 1, v, h => keys_at t i v (by simpa using h)
section
variable {X : Cx} {a : Expr} {ta : TE} {p p2 q pos : Pos}
/-- len(set(xs)): the set is left behind -/
theorem pe_lenK (hc : X.calm = true) {x y : Str} (hg : Gl X x) (hm : X.mg x = none) (hv : bootBuiltins x = some (.builtin "len")) (hn : x ≠ "__name__") (hdb : (x == ("__debug__" : Str)) = false) (hg2 : Gl X y) (hm2 : X.mg y = none) (hv2 : bootBuiltins y = some (.type "set")) (hn2 : y ≠ "__name__") (hdb2 : (y == ("__debug__" : Str)) = false) (ha : PE X a ta)
    (na : starEach [a] X.env = (false, eval a X.env) :: starEach [] X.env := by rfl) : PE X (.Call (.Name x p) [.Call (.Name y p2) [a] [] q] [] pos)
    (fun σ H Q => ta σ H fun x H1 => ∃ l, ∃ ks : List Ky, x = .ref l ∧ (SqL X.K H1 l (ks.map kV) ∨ SqT X.K H1 l (ks.map kV)) ∧ ks.length < 4000 ∧ Q (.int (met (fun j => ks.getD j (.inl 0)) ks.length).length) H1) := by
  refine ⟨fun pins s σ H Q I h => ?_⟩
  refine Call_ (ld_blt I hg hm hv ?_ hn hdb)
  refine PyProof.Rows.callWith_builtin1 (PyProof.Rows.args_cons ?_ rfl) rfl rfl
  refine Call_ (ld_blt I hg2 hm2 hv2 ?_ hn2 hdb2)
  refine PyProof.Rows.callWith_type1 (PyProof.Rows.args_cons (thn (ha.run pins s σ H _ I h) fun v s1 ⟨x, H1, I1, r1, q1⟩ => PyProof.Rows.args_nil ?_) na) na rfl
  obtain ⟨l, ks, rfl, hq, h1, q1⟩ := q1
  cases r1
  have big' : ks.length + 1 < scanBound := by unfold scanBound; omega
  have fin : ∀ (its : List Value), Vals (ks.map kV) its → ∀ (h' : Heap) (tk : Nat), h'.SetOf (mixKind X.prog X.w) s1.heap.objs.size (inMet (fun j => ks.getD j (.inl 0)) its.toArray.size) (met (fun j => ks.getD j (.inl 0)) its.toArray.size).length →
      (∀ b o, b < s1.heap.objs.size → s1.heap.get? b = some o → h'.get? b = some o) →
      wpAny (model X.prog X.w) X.A (spliced (backTo pos (starEach [] X.env))) (fun vs s₂ => wpAny (model X.prog X.w) X.A (call (.builtin "len") (Value.ref s1.heap.objs.size :: vs)) (EP X pins σ Q) X.xe s₂) X.xe { s1 with heap := h', toks := tk } := fun its r h' tk hS hk => by
    refine PyProof.Rows.args_nil ?_
    have hl : its.toArray.size = ks.length := by rw [List.size_toArray, ← r.length, List.length_map]
    rw [hl] at hS
    have hb := met_le (fun j => ks.getD j (.inl 0)) ks.length
    obtain ⟨o, es, ep, t, ho, hex, hd, _, _, _, hf, hn⟩ := hS
    have I2 : Inv X pins σ H1 { s1 with heap := h', toks := tk } := I1.kept fun b o e => hk b o (Heap.lt_size e) e
    refine call_len_set ho hex hd hf (by rw [hn]; omega) ⟨.int _, H1, I2.tok _, ⟨_, by rw [hn]⟩, q1⟩
  rcases hq with hq | hq
  · obtain ⟨its, r, pl, hz⟩ := I1.list hq
    have hl : its.toArray.size = ks.length := by rw [List.size_toArray, ← r.length, List.length_map]
    exact call_set_keys _ (I1.ok.hd hc) pl.isList (fun i v e => keys_at r i v (by simpa using e)) (by rw [hl]; exact big') fun h' tk hS hk => fin its r h' tk hS hk
  · obtain ⟨its, r, pl, hz⟩ := I1.tuple hq
    have hl : its.toArray.size = ks.length := by rw [List.size_toArray, ← r.length, List.length_map]
    exact call_set_keysT _ (I1.ok.hd hc) pl (fun i v e => keys_at r i v (by simpa using e)) (by rw [hl]; exact big') fun h' tk hS hk => fin its r h' tk hS hk
variable {Φ : Ph} {W : WX}
theorem se_lenset (hΦ : MonoP Φ) {e : E} {x y : Str} (hg : Gl X x) (hm : X.mg x = none) (hv : bootBuiltins x = some (.builtin "len")) (hn : x ≠ "__name__") (hdb : (x == ("__debug__" : Str)) = false) (hg2 : Gl X y) (hm2 : X.mg y = none) (hv2 : bootBuiltins y = some (.type "set")) (hn2 : y ≠ "__name__") (hdb2 : (y == ("__debug__" : Str)) = false) (ha : SE X Φ W a e) (hc : X.calm = true := by rfl)
    (na : starEach [a] X.env = (false, eval a X.env) :: starEach [] X.env := by rfl) : SE X Φ W (.Call (.Name x p) [.Call (.Name y p2) [a] [] q] [] pos) (.bi .setlen (.cons e .nil)) := by
  refine PE.imp (pe_lenK hc hg hm hv hn hdb hg2 hm2 hv2 hn2 hdb2 ha na) fun σ H Q ⟨Xc, env, μ, S, q⟩ => ?_
  simp only [wpE, wpEs] at q
  refine use hΦ S Ext.refl q fun v μ1 x H1 S1 E1 E1' d q1 => ?_
  split at q1
  · rename_i r hr
    have fin : Fin X.K (Dn Xc μ1) H1 r Q := q1.fin S1 E1'
    simp only [biV, setlenF] at hr
    split at hr
    · rename_i l hl
      split at hr
      · rename_i hk
        cases hr
        obtain ⟨b, ys, rfl, q2, l1⟩ := S1.m.lst d hl
        obtain ⟨ks, rfl⟩ := keys_of hk.1
        rw [den_keys l1] at q2
        rw [dist_met ks (.inl 0)] at fin
        exact ⟨b, ks, rfl, .inl q2, by simpa using hk.2, fin.now _ rfl⟩
      · cases hr
    · rename_i l hl
      split at hr
      · rename_i hk
        cases hr
        obtain ⟨b, ys, rfl, q2, l1⟩ := S1.m.tup d hl
        obtain ⟨ks, rfl⟩ := keys_of hk.1
        rw [den_keys l1] at q2
        rw [dist_met ks (.inl 0)] at fin
        exact ⟨b, ks, rfl, .inr q2, by simpa using hk.2, fin.now _ rfl⟩
      · cases hr
    · cases hr
  · exact q1.elim
end
end Mi
/-! Mi7e: list(d.keys()), list(d.values()), sorted(d.keys()) of whole numbers. -/
namespace Mi
open PySem PySem.Spec PyProof.Rows L2
theorem rd_one {H : Hp} {a : Addr} {x y : List (Key × V)} (h : Rd H a (.dK x)) (h' : Rd H a (.dK y)) : x = y := by
  rcases h with h | ⟨o, h⟩ <;> rcases h' with h' | ⟨o', h'⟩ <;> rw [h] at h' <;> injection h' with h'
  · injection h'
  · cases h'
  · cases h'
  · injection h' with _ h'
    injection h'
theorem kv_vals : ∀ {kvs : List (Key × V)} {vs : List (Key × Value)} {us : List Value}, KV kvs vs → us.length = vs.length → (∀ (j : Nat) (v : Value), us[j]? = some v → ∃ k : Key, vs[j]? = some (k, v)) → Vals (kvs.map fun kv => kv.2) us
  | _, _, [], .nil, _, _ => .nil
  | _, _, _ :: _, .nil, h, _ => by simp at h
  | _, _, [], .cons _ _, h, _ => by simp at h
  | _, _, u :: us, .cons h t, hl, hv => by
    obtain ⟨k, e⟩ := hv 0 u rfl
    have e' := Option.some.inj e
    refine .cons ?_ (kv_vals t (by simpa using hl) fun j v g => ?_)
    · have := h.2
      rw [e'] at this
      exact this
    · obtain ⟨k', e2⟩ := hv (j + 1) v (by simpa using g)
      exact ⟨k', by simpa using e2⟩
section
variable {X : Cx} {e : Expr} {td : TE} {apos cpos p pos : Pos} {pins : List (Addr × Obj)} {σ : L2.St} {H : Hp} {s : Shared} {Q1 : VK} {R E : Value → Shared → Prop}
/-- a look at a dict: T its kind -/
structure Look (X : Cx) (pins : List (Addr × Obj)) (σ : L2.St) (H : Hp) (T : String) (kvs : List (Key × V)) (s : Shared) (r d : Addr) (vs : List (Key × Value)) (ep : Nat) : Prop where
  inv : Inv X pins σ H s
  view : s.heap.get? r = some { cls := .type T, data := .fields #[.ref d] }
  dict : s.heap.DictAt (mixKind X.prog X.w) d vs ep
  rel : KV kvs vs
  few : vs.length ≤ sizeLine
theorem look_keys (he : PE X e td) (I : Inv X pins σ H s) (h : td σ H Q1) (hd : ∀ x H1, Q1 x H1 → ∃ d kvs, x = .ref d ∧ Rd H1 d (.dK kvs)) (k : ∀ d kvs H1 s2 r vs ep, Q1 (.ref d) H1 → Rd H1 d (.dK kvs) → Look X pins σ H1 "dict_keys" kvs s2 r d vs ep → R (.ref r) s2)
    (hbase : attributeBase e "keys" X.env (eval e X.env) = eval e X.env) (hline : (apos.endLine == cpos.line) = true) : wpAny (model X.prog X.w) X.A (eval (.Call (.Attribute e "keys" apos) [] [] cpos) X.env) R X.xe s := by
  refine wpAny_Call_method (T := "dict") (id := "dict.keys") hbase rfl hline F.plainAttrs_dict F.slot_dict_keys F.type_dict_keys (thn (he.run pins s σ H _ I h) fun u s1 ⟨x, H1, I1, rx, q⟩ => ?_)
  obtain ⟨d, kvs, rfl, hr⟩ := hd x H1 q
  obtain rfl : u = Value.ref d := rx
  obtain ⟨z, lo, vs, rel, dd⟩ := dk_rd I1.hok hr
  obtain ⟨ep, hat⟩ := dd.dictAt
  refine ⟨dd.typeIs, dd.mapOf.noDict, ?_⟩
  show wpAny _ _ (callWith cpos (.builtin "dict.keys") [.ref d] [] []) _ X.xe s1
  refine method_meetsIn F.slot_dict_keys F.entry_dict_keys rfl (PySem.evalArgs_none ⟨rfl, dd.typeIs, F.args_dict_keys_1 _, _, PySem.W.kdl_meets_keys (mixKind X.prog X.w) d lo, ⟨vs, dd⟩, ?_⟩)
  exact k d kvs H1 _ _ vs ep q hr ⟨I1.kept (t' := s1.toks) fun b ob q => Heap.get?_push_of_some _ q, Heap.get?_push_size _ rfl, hat.push _, rel, by rw [← rel.length]; exact z⟩
theorem look_vals (he : PE X e td) (I : Inv X pins σ H s) (h : td σ H Q1) (hd : ∀ x H1, Q1 x H1 → ∃ d kvs, x = .ref d ∧ Rd H1 d (.dK kvs)) (k : ∀ d kvs H1 s2 r vs ep, Q1 (.ref d) H1 → Rd H1 d (.dK kvs) → Look X pins σ H1 "dict_values" kvs s2 r d vs ep → R (.ref r) s2)
    (hbase : attributeBase e "values" X.env (eval e X.env) = eval e X.env) (hline : (apos.endLine == cpos.line) = true) : wpAny (model X.prog X.w) X.A (eval (.Call (.Attribute e "values" apos) [] [] cpos) X.env) R X.xe s := by
  refine wpAny_Call_method (T := "dict") (id := "dict.values") hbase rfl hline F.plainAttrs_dict F.slot_dict_values F.type_dict_values (thn (he.run pins s σ H _ I h) fun u s1 ⟨x, H1, I1, rx, q⟩ => ?_)
  obtain ⟨d, kvs, rfl, hr⟩ := hd x H1 q
  obtain rfl : u = Value.ref d := rx
  obtain ⟨z, lo, vs, rel, dd⟩ := dk_rd I1.hok hr
  obtain ⟨ep, hat⟩ := dd.dictAt
  refine ⟨dd.typeIs, dd.mapOf.noDict, ?_⟩
  show wpAny _ _ (callWith cpos (.builtin "dict.values") [.ref d] [] []) _ X.xe s1
  refine method_meetsIn F.slot_dict_values F.entry_dict_values rfl (PySem.evalArgs_none ⟨rfl, dd.typeIs, F.args_dict_values_1 _, _, meets_dict_values (mixKind X.prog X.w) d lo, ⟨vs, dd⟩, ?_⟩)
  exact k d kvs H1 _ _ vs ep q hr ⟨I1.kept (t' := s1.toks) fun b ob q => Heap.get?_push_of_some _ q, Heap.get?_push_size _ rfl, hat.push _, rel, by rw [← rel.length]; exact z⟩
/-- list(d.keys()) -/
def tKeysL (td : TE) : TE := fun σ H Q => td σ H fun x H1 => ∃ d kvs, x = .ref d ∧ Rd H1 d (.dK kvs) ∧ ∀ p, H1 p = none → Q (.ref p) (upd H1 p (.lst (kvs.map fun kv => kV kv.1)))
theorem pe_keysL (hg : Gl X "list") (hm : X.mg "list" = none) (he : PE X e td) (hc : X.calm = true := by rfl) (hbase : attributeBase e "keys" X.env (eval e X.env) = eval e X.env := by rfl) (hline : (apos.endLine == cpos.line) = true := by rfl)
    (na : starEach [Expr.Call (.Attribute e "keys" apos) [] [] cpos] X.env = (false, eval (Expr.Call (.Attribute e "keys" apos) [] [] cpos) X.env) :: starEach [] X.env := by rfl) : PE X (.Call (.Name "list" p) [.Call (.Attribute e "keys" apos) [] [] cpos] [] pos) (tKeysL td) := by
  refine ⟨fun pins s σ H Q I h => Call_ (ld_blt I hg hm PyProof.Rows.boot_list (PyProof.Rows.callWith_type1 (PyProof.Rows.args_cons (look_keys he I h (fun x H1 ⟨d, kvs, a, b, _⟩ => ⟨d, kvs, a, b⟩) (fun d kvs H1 s2 r vs ep q hr L => PyProof.Rows.args_nil ?_) hbase hline) na) na rfl))⟩
  obtain ⟨d', kvs', e1, hr', q⟩ := q
  cases e1
  obtain ⟨z, lo, vs', rel', dd'⟩ := dk_rd L.inv.hok hr'
  have ek : kvs' = kvs := by
    have := rd_one hr' hr
    exact this
  subst ek
  have hk : (kvs'.map fun kv => kV kv.1) = vs.map fun p => kV p.1 := by
    have e := congrArg (List.map kV) L.rel.keys
    rw [List.map_map, List.map_map] at e
    exact e
  refine PySem.W.kdl_call (PySem.W.kdl_keys (knd := mixKind X.prog X.w) (kvs := vs) (ep := ep) (r := r) (d := d)) (L.inv.ok.hd hc) ⟨⟨_, L.view, rfl, rfl⟩, L.dict⟩ L.few fun h' tk acc c' hk' hD hacc => ?_
  have hv : Vals (vs.map fun p => kV p.1) acc.toList := L2.keys_at (by rw [Array.length_toList]; exact hacc.1) fun j v e => hacc.2 j v (by rw [← Array.getElem?_toList]; exact e)
  exact ⟨.ref s2.heap.objs.size, _, L.inv.laid (t' := tk) hk' (Nat.le_refl _) (show ObjOk X.prog X.w _ _ _ (.lst (kvs'.map fun kv => kV kv.1)) from ⟨by rw [List.length_map]; exact z, acc.toList, c', by rw [hk]; exact hv, by rw [Array.toArray_toList]; exact hD⟩), rfl, q _ (L.inv.hok.fresh (Nat.le_refl _))⟩
/-- list(d.values()) -/
def tValsL (td : TE) : TE := fun σ H Q => td σ H fun x H1 => ∃ d kvs, x = .ref d ∧ Rd H1 d (.dK kvs) ∧ ∀ p, H1 p = none → Q (.ref p) (upd H1 p (.lst (kvs.map fun kv => kv.2)))
theorem pe_valsL (hg : Gl X "list") (hm : X.mg "list" = none) (he : PE X e td) (hc : X.calm = true := by rfl) (hbase : attributeBase e "values" X.env (eval e X.env) = eval e X.env := by rfl) (hline : (apos.endLine == cpos.line) = true := by rfl)
    (na : starEach [Expr.Call (.Attribute e "values" apos) [] [] cpos] X.env = (false, eval (Expr.Call (.Attribute e "values" apos) [] [] cpos) X.env) :: starEach [] X.env := by rfl) : PE X (.Call (.Name "list" p) [.Call (.Attribute e "values" apos) [] [] cpos] [] pos) (tValsL td) := by
  refine ⟨fun pins s σ H Q I h => Call_ (ld_blt I hg hm PyProof.Rows.boot_list (PyProof.Rows.callWith_type1 (PyProof.Rows.args_cons (look_vals he I h (fun x H1 ⟨d, kvs, a, b, _⟩ => ⟨d, kvs, a, b⟩) (fun d kvs H1 s2 r vs ep q hr L => PyProof.Rows.args_nil ?_) hbase hline) na) na rfl))⟩
  obtain ⟨d', kvs', e1, hr', q⟩ := q
  cases e1
  obtain rfl := rd_one hr' hr
  obtain ⟨z, lo, vs', rel', dd'⟩ := dk_rd L.inv.hok hr'
  refine PySem.W.kdl_call (PySem.W.kdl_values (knd := mixKind X.prog X.w) (kvs := vs) (ep := ep) (r := r) (d := d)) (L.inv.ok.hd hc) ⟨⟨_, L.view, rfl, rfl⟩, L.dict⟩ L.few fun h' tk acc c' hk' hD hacc => ?_
  have hv : Vals (kvs'.map fun kv => kv.2) acc.toList := kv_vals L.rel (by rw [Array.length_toList]; exact hacc.1) fun j v e => hacc.2 j v (by rw [← Array.getElem?_toList]; exact e)
  exact ⟨.ref s2.heap.objs.size, _, L.inv.laid (t' := tk) hk' (Nat.le_refl _) (show ObjOk X.prog X.w _ _ _ (.lst (kvs'.map fun kv => kv.2)) from ⟨by rw [List.length_map]; exact z, acc.toList, c', hv, by rw [Array.toArray_toList]; exact hD⟩), rfl, q _ (L.inv.hok.fresh (Nat.le_refl _))⟩
/-- sorted(d.keys()), fewer than 64 keys, all whole numbers -/
def tKeysS (td : TE) : TE := fun σ H Q => td σ H fun x H1 => ∃ d kvs, x = .ref d ∧ Rd H1 d (.dK kvs) ∧ ∃ ks : List Int, kvs.map (·.1) = ks.map Sum.inl ∧ ks.length < 64 ∧ ∀ (ys : List Int) (p : Addr), ys.Perm ks → ys.Pairwise (· ≤ ·) → H1 p = none → Q (.ref p) (upd H1 p (.lst (ys.map V.int)))
theorem pe_keysS (hg : Gl X "sorted") (hm : X.mg "sorted" = none) (he : PE X e td) (hc : X.calm = true := by rfl) (hbase : attributeBase e "keys" X.env (eval e X.env) = eval e X.env := by rfl) (hline : (apos.endLine == cpos.line) = true := by rfl) : PE X (.Call (.Name "sorted" p) [.Call (.Attribute e "keys" apos) [] [] cpos] [] pos) (tKeysS td) := by
  refine ⟨fun pins s σ H Q I h => Call_ (ld_blt I hg hm PyProof.Rows.boot_sorted (PyProof.Rows.callWith_builtin1 (PyProof.Rows.args_cons (look_keys he I h (fun x H1 ⟨d, kvs, a, b, _⟩ => ⟨d, kvs, a, b⟩) (fun d kvs H1 s2 r vs ep q hr L => PyProof.Rows.args_nil ?_) hbase hline) rfl) rfl rfl))⟩
  obtain ⟨d', kvs', e1, hr', ks, hks, h64, q⟩ := q
  cases e1
  obtain rfl := rd_one hr' hr
  have e0 : vs.map (·.1) = ks.map Sum.inl := L.rel.keys.symm.trans hks
  have n0 : vs.length = ks.length := by simpa using congrArg List.length e0
  refine Calls.call_function_entry PyProof.Rows.kind_sorted PyProof.Rows.plain_sorted PyProof.Rows.entry_sorted (PyProof.Rows.args_sorted1 _) ?_
  unfold Builtin.«sorted»
  refine wpAny_bind (m := checkCount "sorted" 1 1 _) (wpAny_pure (wpAny_bind (PySem.W.kdu_collect (A := X.A.in1) (PySem.W.kdl_keys (knd := mixKind X.prog X.w) (kvs := vs) (ep := ep) (r := r) (d := d)) (L.inv.ok.hd hc) ⟨⟨_, L.view, rfl, rfl⟩, L.dict⟩ L.few fun h' tk acc hk hacc => ?_)))
  have n1 : acc.toList.length = ks.length := by rw [Array.length_toList, hacc.1, n0]
  have all : IntsAre acc.toList ks := L2.ints_each n1 fun j v e => by
    obtain ⟨k, x, g1, g2⟩ := hacc.2 j v (by rw [← Array.getElem?_toList]; exact e)
    have g3 : (ks.map (Sum.inl : Int → Key))[j]? = some k := by rw [← e0, List.getElem?_map, g1]; rfl
    rw [List.getElem?_map] at g3
    obtain ⟨i, g4, g5⟩ := Option.map_eq_some_iff.mp g3
    subst g5
    rcases keyIs_shape (show keyIs (Sum.inl i) v = true from g2) with ⟨i', t, ek, ev⟩ | ⟨z, t, ek, ev⟩
    · cases ek
      exact ⟨i, t, g4, ev⟩
    · cases ek
  have J : Inv X pins σ H1 { s2 with heap := h', toks := tk } := L.inv.kept hk
  refine wpAny_bind (wpAny_newList ?_ (by rw [n1, sizeLine_eq]; omega))
  have at0 : (h'.push (seqObj "list" acc.toList.toArray 0)).get? h'.objs.size = some (seqObj "list" acc.toList.toArray 0) := Heap.get?_push_size _ rfl
  show wpAny _ _ _ _ _ { s2 with heap := h'.push (seqObj "list" acc.toList.toArray 0), toks := tk }
  refine wpAny_bind (wpAny_holding (wpAny_call_entry PyProof.Rows.slot_list_sort ⟨_, at0, rfl⟩ PyProof.Rows.entry_list_sort
    (PyProof.Rows.list_sort_tree (s := { s2 with heap := h'.push (seqObj "list" acc.toList.toArray 0), toks := tk }) at0 all (by rw [n1]; exact h64) fun out ys g1 g2 g3 => ⟨_, rfl, ?_⟩) (PyProof.Rows.args_list_sort _)))
  obtain ⟨cap, there⟩ := PyProof.Rows.sortedHeap_at (vs := acc.toList) (out := out) at0
  refine wpAny_pure ⟨_, rfl, .ref h'.objs.size, _, J.laid (t' := tk) (fun b u g => ?_) (Nat.le_refl _) (show ObjOk X.prog X.w _ _ _ (.lst (ys.map V.int)) from ⟨?_, out.toList, cap, vals_of_ints g1, by rw [Array.toArray_toList]; exact there⟩), rfl, q ys _ g2 g3 (J.hok.fresh (Nat.le_refl _))⟩
  · have lt : b < h'.objs.size := Heap.lt_size g
    rw [PyProof.Rows.sortedHeap_old (Nat.ne_of_lt lt) (by rw [size_push']; exact Nat.lt_succ_of_lt lt)]
    exact Heap.get?_push_of_some _ g
  · rw [List.length_map, g2.length_eq]
    exact Nat.le_trans (Nat.le_of_lt h64) (by decide)
end
/-! the language's side -/
theorem ints_keys {K : Fr} {D : Addr → Prop} {H : Hp} : ∀ {l : List Val} {kvs : List (Key × V)} {ns : List Int}, DenP K D H l kvs → intsOf (dKeys l) = some ns → kvs.map (·.1) = ns.map Sum.inl
  | [], kvs, ns, h, e => by rw [show kvs = [] from h]; cases e; rfl
  | .tup [.int i, v] :: r, kvs, ns, ⟨j', x, t, e, hk', d, dr⟩, h => by
    subst e
    cases hk'
    obtain ⟨ns', e1, rfl⟩ := Option.map_eq_some_iff.mp (show (intsOf (dKeys r)).map (i :: ·) = some ns from h)
    rw [List.map_cons, List.map_cons, ints_keys dr e1]
  | .tup [.str i, v] :: r, kvs, ns, _, h => by cases h
  | .tup [.non, v] :: r, kvs, ns, _, h => by cases h
  | .tup [.bl _, v] :: r, kvs, ns, _, h => by cases h
  | .tup [.tup _, v] :: r, kvs, ns, _, h => by cases h
  | .tup [.lst _, v] :: r, kvs, ns, _, h => by cases h
  | .tup [.dct _, v] :: r, kvs, ns, _, h => by cases h
  | .tup [.ref _, v] :: r, kvs, ns, _, h => by cases h
  | .tup [.exn _ _, v] :: r, kvs, ns, _, h => by cases h
  | .tup [.ins _ _, v] :: r, kvs, ns, _, h => by cases h
  | .tup [] :: _, _, _, h, _ => h.elim
  | .tup [_] :: _, _, _, h, _ => h.elim
  | .tup (_ :: _ :: _ :: _) :: _, _, _, h, _ => h.elim
  | .non :: _, _, _, h, _ => h.elim
  | .bl _ :: _, _, _, h, _ => h.elim
  | .int _ :: _, _, _, h, _ => h.elim
  | .str _ :: _, _, _, h, _ => h.elim
  | .lst _ :: _, _, _, h, _ => h.elim
  | .dct _ :: _, _, _, h, _ => h.elim
  | .ref _ :: _, _, _, h, _ => h.elim
  | .exn _ _ :: _, _, _, h, _ => h.elim
  | .ins _ _ :: _, _, _, h, _ => h.elim
theorem vals_den {K : Fr} {D : Addr → Prop} {H : Hp} : ∀ {l : List Val} {kvs : List (Key × V)}, DenP K D H l kvs → DenL K D H (dVals l) (kvs.map fun kv => kv.2)
  | [], kvs, h => by rw [show kvs = [] from h]; exact rfl
  | .tup [k', v] :: r, kvs, ⟨j', x, t, e, hk', d, dr⟩ => by
    subst e
    exact ⟨x, _, rfl, d, vals_den dr⟩
  | .tup [] :: _, _, h => h.elim
  | .tup [_] :: _, _, h => h.elim
  | .tup (_ :: _ :: _ :: _) :: _, _, h => h.elim
  | .non :: _, _, h => h.elim
  | .bl _ :: _, _, h => h.elim
  | .int _ :: _, _, h => h.elim
  | .str _ :: _, _, h => h.elim
  | .lst _ :: _, _, h => h.elim
  | .dct _ :: _, _, h => h.elim
  | .ref _ :: _, _, h => h.elim
  | .exn _ _ :: _, _, h => h.elim
  | .ins _ _ :: _, _, h => h.elim
section
variable {X : Cx} {e : Expr} {apos cpos p pos : Pos} {Φ : Ph} {W : WX} {ea : E}
theorem kv_ints : ∀ {kvs : List (Key × V)} {ns : List Int}, kvs.map (·.1) = ns.map Sum.inl → (kvs.map fun kv => kV kv.1) = ns.map V.int := fun {kvs ns} h => by
  have e := congrArg (List.map kV) h
  rw [List.map_map, List.map_map] at e
  exact e
theorem se_keysL (hΦ : MonoP Φ) (hg : Gl X "list") (hm : X.mg "list" = none) (he : SE X Φ W e ea) (hc : X.calm = true := by rfl) (hbase : attributeBase e "keys" X.env (eval e X.env) = eval e X.env := by rfl) (hline : (apos.endLine == cpos.line) = true := by rfl)
    (na : starEach [Expr.Call (.Attribute e "keys" apos) [] [] cpos] X.env = (false, eval (Expr.Call (.Attribute e "keys" apos) [] [] cpos) X.env) :: starEach [] X.env := by rfl) : SF X Φ W (.Call (.Name "list" p) [.Call (.Attribute e "keys" apos) [] [] cpos] [] pos) (.bi .keysL (.cons ea .nil)) := by
  refine PE.imp (pe_keysL hg hm he hc hbase hline na) fun σ H Q ⟨Xc, env, μ, S, q⟩ => ?_
  simp only [wpE, wpEs] at q
  refine use hΦ S Ext.refl q fun v μ1 x H1 S1 E1 E1' d q1 => ?_
  split at q1
  · rename_i r hr
    simp only [biV, keysF] at hr
    split at hr
    · rename_i l hl
      obtain ⟨ns, hn, hr⟩ := Option.bind_eq_some_iff.mp hr
      cases hr
      obtain ⟨b, kvs, rfl, q2, l1⟩ := S1.m.dct d hl
      refine ⟨b, kvs, rfl, q2, fun p hp => ?_⟩
      rw [kv_ints (ints_keys l1 hn)]
      exact q1 p _ H1 S1 E1 hp ⟨_, rfl, ints_den' _⟩
    · cases hr
  · exact q1.elim
theorem se_valsL (hΦ : MonoP Φ) (hg : Gl X "list") (hm : X.mg "list" = none) (he : SE X Φ W e ea) (hc : X.calm = true := by rfl) (hbase : attributeBase e "values" X.env (eval e X.env) = eval e X.env := by rfl) (hline : (apos.endLine == cpos.line) = true := by rfl)
    (na : starEach [Expr.Call (.Attribute e "values" apos) [] [] cpos] X.env = (false, eval (Expr.Call (.Attribute e "values" apos) [] [] cpos) X.env) :: starEach [] X.env := by rfl) : SF X Φ W (.Call (.Name "list" p) [.Call (.Attribute e "values" apos) [] [] cpos] [] pos) (.bi .valsL (.cons ea .nil)) := by
  refine PE.imp (pe_valsL hg hm he hc hbase hline na) fun σ H Q ⟨Xc, env, μ, S, q⟩ => ?_
  simp only [wpE, wpEs] at q
  refine use hΦ S Ext.refl q fun v μ1 x H1 S1 E1 E1' d q1 => ?_
  split at q1
  · rename_i r hr
    simp only [biV, valsF] at hr
    split at hr
    · rename_i l hl
      cases hr
      obtain ⟨b, kvs, rfl, q2, l1⟩ := S1.m.dct d hl
      exact ⟨b, kvs, rfl, q2, fun p hp => q1 p _ H1 S1 E1 hp ⟨_, rfl, vals_den l1⟩⟩
    · cases hr
  · exact q1.elim
theorem se_keysS (hΦ : MonoP Φ) (hg : Gl X "sorted") (hm : X.mg "sorted" = none) (he : SE X Φ W e ea) (hc : X.calm = true := by rfl) (hbase : attributeBase e "keys" X.env (eval e X.env) = eval e X.env := by rfl) (hline : (apos.endLine == cpos.line) = true := by rfl) : SF X Φ W (.Call (.Name "sorted" p) [.Call (.Attribute e "keys" apos) [] [] cpos] [] pos) (.bi .sortK (.cons ea .nil)) := by
  refine PE.imp (pe_keysS hg hm he hc hbase hline) fun σ H Q ⟨Xc, env, μ, S, q⟩ => ?_
  simp only [wpE, wpEs] at q
  refine use hΦ S Ext.refl q fun v μ1 x H1 S1 E1 E1' d q1 => ?_
  split at q1
  · rename_i r hr
    simp only [biV, sortKF] at hr
    split at hr
    · rename_i l hl
      obtain ⟨ns, hn, hr⟩ := Option.bind_eq_some_iff.mp hr
      split at hr
      · rename_i h64
        cases hr
        obtain ⟨b, kvs, rfl, q2, l1⟩ := S1.m.dct d hl
        refine ⟨b, kvs, rfl, q2, ns, ints_keys l1 hn, h64, fun ys p hp hs hn => ?_⟩
        rw [sort_uniq hp hs]
        exact q1 p _ H1 S1 E1 hn ⟨_, rfl, ints_den' _⟩
      · cases hr
    · cases hr
  · exact q1.elim
end
end Mi
/-! Mi8: calls, what is walked, comprehensions. -/
namespace Mi
open PySem PySem.Spec PyProof.Rows L2

/-! ### calls of defs -/
/-- what a def promises: the language's own run of it -/
def spP (K : Fr) (mg : Str → Option Value) (Φ : Ph) (f : String) : Sp := fun vs H Q E => ∃ Xc μ m args, MRel K Xc μ H ∧ DenL K (Dn Xc μ) H args vs ∧
  Φ f m args μ (fun v μ' => ∀ x H', MRel K Xc μ' H' → Ext μ H μ' H' → Den K (Dn Xc μ') H' v x → Q x H') (fun e μ' => ∀ cls d H', MRel K Xc μ' H' → Ext μ H μ' H' → ExR K mg e cls d → E cls d H')
/-- the def f of the text keeps that promise -/
def FnT (P : Program) (w : World) (K : Fr) (mg : Str → Option Value) (base : Heap) (Φ : Ph) (k : Nat) (f : String) : Prop :=
  ∃ (a : Addr) (fd : FuncData) (ps : List Str), mg (Str.ofString f) = some (.ref a) ∧ PySem.W.keepIn K (.ref a) = true ∧ Binds K fd ps [] ∧ FnOk P w K mg base (L2.CX P w) k a fd ps (spP K mg Φ f)
section
variable {X : Cx} {Φ : Ph} {W : WX} {a b c : Expr} {pos : Pos}
theorem se_call {k : Nat} {f : String} {e : Expr} {es : List Expr} {l : Es} {p : Pos} {m : Md} (hΦ : MonoP Φ) (T : FnT X.prog X.w X.K X.mg X.base Φ k f) (hr : Room k X.A) (tk : Takes X W) (hg : Gl X (Str.ofString f)) (ha : SA X Φ W (e :: es) l)
    (hdb : (Str.ofString f == ("__debug__" : Str)) = false) (he : starEach (e :: es) X.env = (false, eval e X.env) :: starEach es X.env := by rfl) (hpl : (backTo pos (starEach es X.env)).any (·.1) = false := by rfl) :
    SE X Φ W (.Call (.Name (Str.ofString f) p) (e :: es) [] pos) (.call f m l) := by
  obtain ⟨ad, fd, ps, h1, h2, h3, h4⟩ := T
  refine PE.imp (pe_callS (E := WE W) h4 hr hg h1 h2 h3 (fun σ => passAt tk σ) ha hdb he hpl) fun σ H Q ⟨Xc, env, μ, S, q⟩ => ?_
  simp only [wpE] at q
  refine useA hΦ S Ext.refl q fun vs μ1 xs H1 S1 E1 E1' d q1 => ⟨Xc, μ1, m, vs, S1.m, d, ?_⟩
  exact hΦ _ _ _ _ _ _ _ _ (fun v μ2 z x H2 m2 E2 d2 => z x H2 (S1.of_ext m2 E2) (E1'.trans E2) d2) (fun v μ2 z cls d H2 m2 E2 r => z cls d H2 (S1.of_ext m2 E2) (E1'.trans E2) r) q1

/-! ### what is walked -/
/-- the iterator J gives out the items of l, from (μ0, H0) on, as long as a (where it is one) holds l -/
def ItOk (K : Fr) (Xc : Addr → Prop) (μ0 : Mu) (H0 : Hp) (l : List Val) (a : Option (Ad × List Val)) (J : L2.It) : Prop := ∀ (i : Nat) (Xc' : Addr → Prop) (μ : Mu) (H : Hp), MRel K Xc' μ H → (∀ v x, Den K (Dn Xc μ0) H0 v x → Den K (Dn Xc' μ) H v x) → gOk a μ →
  (∀ v, l[i]? = some v → J.go i H ∧ ∀ x H', J.yld i H x H' → Ext μ H μ H' ∧ MRel K Xc' μ H' ∧ Den K (Dn Xc' μ) H' v x) ∧ (l.length ≤ i → J.stop i H)
def rdI (K : Fr) (mg : Str → Option Value) (Φ : Ph) (W : WX) (it : It) : TI := fun σ H R => ∃ Xc env μ, SRel K Xc σ H env μ ∧ wpI Φ it env μ (fun l a μ' => ∀ J H', SRel K Xc σ H' env μ' → Ext μ H μ' H' → ItOk K Xc μ' H' l a J → R J H') (XPost K mg W Xc σ H env μ)
abbrev SI (X : Cx) (Φ : Ph) (W : WX) (tg a : Expr) (it : It) : Prop := PI X tg a (rdI X.K X.mg Φ W it)
theorem PI.imp {tg a : Expr} {t t' : TI} (h : PI X tg a t) (f : ∀ σ H R, t' σ H R → t σ H R) : PI X tg a t' := ⟨fun pins s σ H R I q => h.run pins s σ H R I (f _ _ _ q)⟩
/-- a list, a tuple, a text -/
def iAny (K : Fr) (tl : TE) : TI := fun σ H R => tl σ H fun x H1 => (∃ a, x = .ref a ∧ (∃ xs, SqL K H1 a xs) ∧ R (Itl K a) H1) ∨ (∃ a, x = .ref a ∧ (∃ xs, SqT K H1 a xs) ∧ R (Itt K a) H1) ∨ ∃ s, x = .str s ∧ R (Its s) H1
theorem pi_any {tg l : Expr} {tl : TE} (hl : PE X l tl) : PI X tg l (iAny X.K tl) := by
  refine ⟨fun pins s σ H R I h => ?_⟩
  refine thn (hl.run pins s σ H _ I h) fun v s1 ⟨x, H1, I1, r1, q1⟩ => ?_
  rcases q1 with ⟨a, e, ⟨xs, hq⟩, q⟩ | ⟨a, e, ⟨xs, hq⟩, q⟩ | ⟨x, ex, q⟩
  · subst e
    cases r1
    obtain ⟨its, rv, p, hz⟩ := I1.list hq
    refine wpAny_pyIter_list p.isList ?_
    refine ⟨s1.heap.objs.size, [s1.heap.objs.size], _, _, H1, rfl, I1.kept (t' := s1.toks) fun b o e => Heap.get?_push_of_some _ e, turn_list a _, ⟨_, Heap.get?_push_size _ rfl, rfl, rfl⟩, fun b hb => ?_, q⟩
    have e : b = s1.heap.objs.size := by simpa using hb
    subst e
    exact I1.fpOk (Nat.le_refl _) (I1.hok.fresh (Nat.le_refl _))
  · subst e
    cases r1
    obtain ⟨its, rv, p, hz⟩ := I1.tuple hq
    refine wpAny_pyIter_tuple (show s1.heap.IsTuple a its.toArray from p) ?_
    refine ⟨s1.heap.objs.size, [s1.heap.objs.size], _, _, H1, rfl, I1.kept (t' := s1.toks) fun b o e => Heap.get?_push_of_some _ e, turn_tuple a _, ⟨_, Heap.get?_push_size _ rfl, rfl, rfl⟩, fun b hb => ?_, q⟩
    have e : b = s1.heap.objs.size := by simpa using hb
    subst e
    exact I1.fpOk (Nat.le_refl _) (I1.hok.fresh (Nat.le_refl _))
  · subst ex
    obtain ⟨t, rfl⟩ := r1
    cases ha : x.cps.all (· < 128)
    · exact wpAny_pyIter_wide ha (pi_one (tk := s1.toks) I1 _ (turn_str _ x t "str_iterator" (.inr rfl)) ⟨_, Heap.get?_push_size _ rfl, rfl, rfl⟩ q)
    · exact wpAny_pyIter_ascii ha (pi_one (tk := s1.toks) I1 _ (turn_str _ x t "str_ascii_iterator" (.inl rfl)) ⟨_, Heap.get?_push_size _ rfl, rfl, rfl⟩ q)
end
section
variable {K : Fr} {Xc : Addr → Prop} {μ0 : Mu} {H0 : Hp}
theorem gOk_list {l : List Val} {v : Val} {x : V} (d0 : Den K (Dn Xc μ0) H0 v x) (hc : content μ0 v = some (.lst l)) {Xc' : Addr → Prop} {μ : Mu} {H : Hp} (m : MRel K Xc' μ H) (hd : ∀ v x, Den K (Dn Xc μ0) H0 v x → Den K (Dn Xc' μ) H v x) (g : gOk (guard v l) μ) {p : Addr} (hx : x = .ref p) :
    ∃ xs, SqL K H p xs ∧ DenL K (Dn Xc' μ) H l xs := by
  subst hx
  cases v with
  | ref a =>
    have e : V.ref p = V.ref a := d0
    cases e
    obtain ⟨xs, h1, h2⟩ := m.lstM (show μ p = some (.lst l) from g)
    exact ⟨xs, SqL.of h1, h2⟩
  | lst l' =>
    cases hc
    obtain ⟨a, xs, e, q, hl⟩ := hd _ _ d0
    cases e
    refine ⟨xs, ?_, hl⟩
    rcases q with ⟨_, q⟩ | q
    · exact .inl q
    · exact .inr q
  | _ => cases hc
theorem itok_list {l : List Val} {v : Val} {p : Addr} (d0 : Den K (Dn Xc μ0) H0 v (.ref p)) (hc : content μ0 v = some (.lst l)) : ItOk K Xc μ0 H0 l (guard v l) (Itl K p) := fun i Xc' μ H m hd g => by
  obtain ⟨xs, q, hl⟩ := gOk_list d0 hc m hd g rfl
  refine ⟨fun w hw => ?_, fun hi => ⟨xs, q, by rw [← hl.length]; exact hi⟩⟩
  obtain ⟨x, hx, dx⟩ := hl.get hw
  refine ⟨⟨xs, x, q, hx⟩, fun y H' ⟨e, hy⟩ => ?_⟩
  subst e
  have := hy xs q
  rw [hx] at this
  cases this
  exact ⟨Ext.refl, m, dx⟩
theorem itok_tup {l : List Val} {v : Val} {p : Addr} (m0 : MRel K Xc μ0 H0) (d0 : Den K (Dn Xc μ0) H0 v (.ref p)) (hc : content μ0 v = some (.tup l)) : ItOk K Xc μ0 H0 l none (Itt K p) := fun i Xc' μ H m hd g => by
  have d1 : Den K (Dn Xc μ0) H0 (.tup l) (.ref p) := by
    cases v with
    | ref b => obtain ⟨o, _, z⟩ := m0.obj b _ hc; exact z.elim
    | tup _ => cases hc; exact d0
    | _ => cases hc
  obtain ⟨a, xs, e, q, hl⟩ := m.tup (hd _ _ d1) rfl
  cases e
  refine ⟨fun w hw => ?_, fun hi => ⟨xs, q, by rw [← hl.length]; exact hi⟩⟩
  obtain ⟨x, hx, dx⟩ := hl.get hw
  refine ⟨⟨xs, x, q, hx⟩, fun y H' ⟨e, hy⟩ => ?_⟩
  subst e
  have := hy xs q
  rw [hx] at this
  cases this
  exact ⟨Ext.refl, m, dx⟩
theorem itok_str {s : Str} (ok : PyData.strOk s = true) : ItOk K Xc μ0 H0 (s.cps.toList.map fun c => Val.str ⟨#[c]⟩) none (Its s) := fun i Xc' μ H m hd g => by
  refine ⟨fun w hw => ?_, fun hi => by
    show s.cps.size ≤ i
    simpa using hi⟩
  rw [List.getElem?_map] at hw
  obtain ⟨c, hc, rfl⟩ := Option.map_eq_some_iff.mp hw
  have hc' : s.cps[i]? = some c := by simpa using hc
  refine ⟨by
    have := Array.getElem?_eq_some_iff.mp hc'
    exact this.1, fun y H' ⟨e, c', h1, h2⟩ => ?_⟩
  subst e
  rw [hc'] at h1
  cases h1
  subst h2
  exact ⟨Ext.refl, m, rfl, strOk_sign ok (List.mem_of_getElem? hc)⟩
theorem itok_range {lo : Int} {n : Nat} : ItOk K Xc μ0 H0 (intsFrom lo n) none (Itr lo n) := fun i Xc' μ H m hd g => by
  refine ⟨fun w hw => ?_, fun hi => by
    show n ≤ i
    simpa [intsFrom] using hi⟩
  unfold intsFrom at hw
  rw [List.getElem?_map] at hw
  obtain ⟨k, hk, rfl⟩ := Option.map_eq_some_iff.mp hw
  have hki : i < n ∧ i = k := by
    have h1 : i < (List.range n).length := (List.getElem?_eq_some_iff.mp hk).1
    have h1' : i < n := by simpa using h1
    rw [List.getElem?_range h1'] at hk
    exact ⟨h1', Option.some.inj hk⟩
  obtain ⟨h1, rfl⟩ := hki
  refine ⟨h1, fun y H' ⟨e, h2⟩ => ?_⟩
  subst e
  exact ⟨Ext.refl, m, h2⟩
theorem enumL_get : ∀ (l : List Val) (j : Int) (i : Nat) (w : Val), (enumL j l)[i]? = some w → ∃ v, l[i]? = some v ∧ w = .tup [.int (j + i), v]
  | [], _, _, _, h => by simp [enumL] at h
  | v :: r, j, 0, w, h => by
    simp only [enumL, List.getElem?_cons_zero, Option.some.injEq] at h
    exact ⟨v, rfl, by rw [← h]; simp⟩
  | v :: r, j, i + 1, w, h => by
    simp only [enumL, List.getElem?_cons_succ] at h
    obtain ⟨u, h1, h2⟩ := enumL_get r (j + 1) i w h
    refine ⟨u, by simpa using h1, ?_⟩
    rw [h2]
    congr 3
    push_cast
    omega
theorem enumL_len : ∀ (l : List Val) (j : Int), (enumL j l).length = l.length
  | [], _ => rfl
  | v :: r, j => by simp only [enumL, List.length_cons, enumL_len r]
theorem itok_enum {l : List Val} {v : Val} {p : Addr} (d0 : Den K (Dn Xc μ0) H0 v (.ref p)) (hc : content μ0 v = some (.lst l)) : ItOk K Xc μ0 H0 (enumL 0 l) (guard v l) (Ite K p) := fun i Xc' μ H m hd g => by
  obtain ⟨xs, q, hl⟩ := gOk_list d0 hc m hd g rfl
  refine ⟨fun w hw => ?_, fun hi => ⟨xs, q, by rw [← hl.length]; rw [enumL_len] at hi; exact hi⟩⟩
  obtain ⟨u, hu, rfl⟩ := enumL_get l 0 i w hw
  obtain ⟨x, hx, dx⟩ := hl.get hu
  refine ⟨⟨xs, x, q, hx⟩, fun y H' ⟨T, z, e1, hT, e2, hy⟩ => ?_⟩
  have := hy xs q
  rw [hx] at this
  cases this
  subst e1; subst e2
  refine ⟨Ext.laid hT, m.laid hT, ?_⟩
  refine NewRel.den m hT ⟨_, rfl, .int ((0 : Int) + (i : Nat)), [x], by simp, rfl, x, [], rfl, dx, rfl⟩
end
section
variable {X : Cx} {Φ : Ph} {W : WX} {a b c tg : Expr} {pos : Pos}
theorem si_e (hΦ : MonoP Φ) {e : E} (h : SE X Φ W a e) : SI X Φ W tg a (.e e) := PI.imp (pi_any h) fun σ H R ⟨Xc, env, μ, S, q⟩ => by
  simp only [wpI] at q
  refine use hΦ S Ext.refl q fun v μ1 x H1 S1 E1 _ d q1 => ?_
  split at q1
  · rename_i l hl
    obtain ⟨p, xs, rfl, r1, _⟩ := S1.m.lst d hl
    exact .inl ⟨p, rfl, ⟨xs, r1⟩, q1 _ H1 S1 E1 (itok_list d hl)⟩
  · rename_i l hl
    obtain ⟨p, xs, rfl, r1, _⟩ := S1.m.tup d hl
    exact .inr (.inl ⟨p, rfl, ⟨xs, r1⟩, q1 _ H1 S1 E1 (itok_tup S1.m d hl)⟩)
  · rename_i s hl
    obtain ⟨rfl, ok⟩ := S1.m.strV d hl
    exact .inr (.inr ⟨s, rfl, q1 _ H1 S1 E1 (itok_str ok)⟩)
  · exact q1.elim
theorem si_range (hΦ : MonoP Φ) {e : E} {p : Pos} (hg : Gl X "range") (hm : X.mg "range" = none) (h : SE X Φ W a e) (hs : starEach [a] X.env = [(false, eval a X.env)] := by rfl) : SI X Φ W tg (.Call (.Name "range" p) [a] [] pos) (.range e) :=
  PI.imp (pi_range1 (pos := pos) hg hm (sa_cons hΦ h sa_nil hs) hs) fun σ H R ⟨Xc, env, μ, S, q⟩ => by
    simp only [wpI] at q
    have q' : wpEs Φ (.cons e .nil) env μ (fun vs μ' => ∃ v, vs = [v] ∧ match v with
      | .int j => -(2 ^ 62) ≤ j ∧ j < 2 ^ 62 ∧ ∀ J H', SRel X.K Xc σ H' env μ' → Ext μ H μ' H' → ItOk X.K Xc μ' H' (intsFrom 0 j.toNat) none J → R J H'
      | _ => False) (XPost X.K X.mg W Xc σ H env μ) := by
      rw [wpEs]
      exact wpE_mono hΦ e env μ _ _ _ _ (fun v μ1 z => ⟨v, rfl, z⟩) (fun _ _ z => z) q
    refine useA hΦ S Ext.refl q' fun vs μ1 xs H1 S1 E1 _ d ⟨v, ev, q1⟩ => ?_
    subst ev
    obtain ⟨x, rfl, dx⟩ := d.one
    cases v with
    | int j => exact ⟨j, by rw [show x = V.int j from dx], q1.1, q1.2.1, q1.2.2 _ H1 S1 E1 itok_range⟩
    | _ => exact q1.elim
theorem si_range2 (hΦ : MonoP Φ) {e f : E} {p : Pos} (hg : Gl X "range") (hm : X.mg "range" = none) (h : SE X Φ W a e) (h2 : SE X Φ W b f) (hs : starEach [a, b] X.env = [(false, eval a X.env), (false, eval b X.env)] := by rfl) (hs2 : starEach [b] X.env = [(false, eval b X.env)] := by rfl) :
    SI X Φ W tg (.Call (.Name "range" p) [a, b] [] pos) (.range2 e f) :=
  PI.imp (pi_range2 hg hm (sa_cons hΦ h (sa_cons hΦ h2 sa_nil hs2) (by rw [hs, hs2])) hs hs2) fun σ H R ⟨Xc, env, μ, S, q⟩ => by
    simp only [wpI] at q
    have q' : wpEs Φ (.cons e (.cons f .nil)) env μ (fun vs μ' => ∃ i j, vs = [.int i, .int j] ∧
      (-(2 ^ 62) ≤ i ∧ i < 2 ^ 62 ∧ -(2 ^ 62) ≤ j ∧ j < 2 ^ 62) ∧ ∀ J H', SRel X.K Xc σ H' env μ' → Ext μ H μ' H' → ItOk X.K Xc μ' H' (intsFrom i (j - i).toNat) none J → R J H') (XPost X.K X.mg W Xc σ H env μ) := by
      simp only [wpEs]
      refine wpE_mono hΦ e env μ _ _ _ _ (fun v μ1 z => wpE_mono hΦ f env μ1 _ _ _ _ (fun w μ2 y => ?_) (fun _ _ z => z) z) (fun _ _ z => z) q
      split at y
      · exact ⟨_, _, rfl, y⟩
      · exact y.elim
    refine useA hΦ S Ext.refl q' fun vs μ1 xs H1 S1 E1 _ d ⟨i, j, ev, q1⟩ => ?_
    subst ev
    obtain ⟨x, y, rfl, dx, dy⟩ := d.two
    exact ⟨i, j, by rw [show x = V.int i from dx, show y = V.int j from dy], q1.1, q1.2 _ H1 S1 E1 itok_range⟩
theorem si_enum (hΦ : MonoP Φ) {e : E} {p tpos : Pos} {elts : List Expr} {kk : Nat} (hg : Gl X "enumerate") (hm : X.mg "enumerate" = none) (h : SE X Φ W a e) (hs : starEach [a] X.env = [(false, eval a X.env)] := by rfl) :
    SI X Φ W (.Tuple elts kk tpos) (.Call (.Name "enumerate" p) [a] [] pos) (.enum e) :=
  PI.imp (pi_enum hg hm (sa_cons hΦ h sa_nil hs) hs) fun σ H R ⟨Xc, env, μ, S, q⟩ => by
    simp only [wpI] at q
    have q' : wpEs Φ (.cons e .nil) env μ (fun vs μ' => ∃ v l, vs = [v] ∧ content μ' v = some (.lst l) ∧ ∀ J H', SRel X.K Xc σ H' env μ' → Ext μ H μ' H' → ItOk X.K Xc μ' H' (enumL 0 l) (guard v l) J → R J H') (XPost X.K X.mg W Xc σ H env μ) := by
      rw [wpEs]
      refine wpE_mono hΦ e env μ _ _ _ _ (fun v μ1 z => ?_) (fun _ _ z => z) q
      split at z
      · rename_i l hl
        exact ⟨v, l, rfl, hl, z⟩
      · exact z.elim
    refine useA hΦ S Ext.refl q' fun vs μ1 xs H1 S1 E1 _ d ⟨v, l, ev, hl, q1⟩ => ?_
    subst ev
    obtain ⟨x, rfl, dx⟩ := d.one
    obtain ⟨p, ys, rfl, r1, _⟩ := S1.m.lst dx hl
    exact ⟨p, ys, rfl, r1, q1 _ H1 S1 E1 (itok_enum dx hl)⟩
end
end Mi
/-! Mi8b: zip, each side a list or a tuple. -/
namespace Mi
open PySem PySem.Spec PyProof.Rows L2
/-- one side's iterator; its source: true a list, false a tuple -/
def zIt (k : Bool) (h : Heap) (it l : Addr) (i : Nat) : Prop := match k with
  | true => h.IsListIter it l i
  | false => h.IsTupleIter it l i
def zSq (k : Bool) (h : Heap) (l : Addr) (xs : Array Value) : Prop := match k with
  | true => h.IsList l xs
  | false => h.IsTuple l xs
theorem zIt.eb {k : Bool} {h h' : Heap} {it l b : Addr} {i : Nat} (q : zIt k h it l i) (e : Heap.ExtBut b h h') (n : it ≠ b) : zIt k h' it l i := by
  cases k
  · exact Heap.IsTupleIter.extBut q e n
  · exact Heap.IsListIter.extBut q e n
theorem zIt.at {k : Bool} {h h' : Heap} {it l : Addr} {i : Nat} (q : zIt k h it l i) (e : ∀ o, h.get? it = some o → h'.get? it = some o) : zIt k h' it l i := by
  cases k
  · exact Heap.IsTupleIter.at q e
  · exact Heap.IsListIter.at q e
theorem zIt.obj {k : Bool} {h : Heap} {it l : Addr} {i : Nat} (q : zIt k h it l i) : ∃ o, h.get? it = some o ∧ ∀ v, o.data ≠ .cell v := by
  cases k
  · obtain ⟨o, e, _, d⟩ := q
    exact ⟨o, e, fun v z => by rw [d] at z; cases z⟩
  · obtain ⟨o, e, _, d⟩ := q
    exact ⟨o, e, fun v z => by rw [d] at z; cases z⟩
theorem zIt.lt {k : Bool} {h : Heap} {it l : Addr} {i : Nat} (q : zIt k h it l i) : it < h.objs.size := by
  obtain ⟨o, e, _⟩ := q.obj
  exact Heap.lt_size e
theorem zSq.eb {k : Bool} {h h' : Heap} {l b : Addr} {xs : Array Value} (q : zSq k h l xs) (e : Heap.ExtBut b h h') (n : l ≠ b) : zSq k h' l xs := by
  cases k
  · exact Heap.IsTuple.extBut q e n
  · exact Heap.IsList.extBut q e n
theorem zSq.push {k : Bool} {h : Heap} {l : Addr} {xs : Array Value} (q : zSq k h l xs) (o : Obj) : zSq k (h.push o) l xs := by
  cases k
  · exact Heap.IsTuple.push q o
  · exact Heap.IsList.push q o
theorem zSq.lt {k : Bool} {h : Heap} {l : Addr} {xs : Array Value} (q : zSq k h l xs) : l < h.objs.size := by
  cases k
  · obtain ⟨o, e, _⟩ := q; exact Heap.lt_size e
  · obtain ⟨o, e, _⟩ := q; exact Heap.lt_size e
section
variable {prog : Program} {w : World} {A : Around} {E : Value → Shared → Prop} {s : Shared}
theorem z_item {k : Bool} {it l : Addr} {i : Nat} {xs : Array Value} {x : Value} {Q : Value → Shared → Prop} (h1 : zIt k s.heap it l i) (h2 : zSq k s.heap l xs) (hx : xs[i]? = some x)
    (q : ∀ h', zIt k h' it l (i + 1) → Heap.SameBut it s.heap h' → Q x { s with heap := h' }) : wpAny (model prog w) A (Builtin.SmallTypes.nextOf (.ref it)) Q E s := by
  cases k
  · exact RZ.nextOf_tuple_item h1 h2 hx q
  · exact wpAny_nextOf_list_item h1 h2 hx q
theorem z_end {k : Bool} {it l : Addr} {i : Nat} {xs : Array Value} {Q : Value → Shared → Prop} (hh : A.handled = none) (h1 : zIt k s.heap it l i) (h2 : zSq k s.heap l xs) (hx : xs[i]? = none)
    (q : ∀ h' e, Heap.ExtBut it s.heap h' → (∃ o, h'.get? e = some o ∧ o.cls = .type "StopIteration") → E (.ref e) { s with heap := h' }) : wpAny (model prog w) A (Builtin.SmallTypes.nextOf (.ref it)) Q E s := by
  cases k
  · exact RZ.nextOf_tuple_end hh h1 h2 hx q
  · exact wpAny_nextOf_list_end hh h1 h2 hx q
variable {g1 g2 : Bool} {z TI TO i1 i2 l1 l2 : Addr} {k1 k2 : Nat} {xs ys : Array Value} {a b : Value}
theorem zx_item {x y : Value} {Q : Option Value → Shared → Prop} (D : ZipApart z TI TO i1 i2 l1 l2) (hz : IsZip s.heap z TI TO .none) (hTI : IsPair s.heap TI (.ref i1) (.ref i2)) (hTO : IsPair s.heap TO a b)
    (h1 : zIt g1 s.heap i1 l1 k1) (h2 : zIt g2 s.heap i2 l2 k2) (hl1 : zSq g1 s.heap l1 xs) (hl2 : zSq g2 s.heap l2 ys) (hx : xs[k1]? = some x) (hy : ys[k2]? = some y)
    (q : ∀ h', IsZip h' z TI TO (rawInt s.heap.objs.size) → IsPair h' TO x y → zIt g1 h' i1 l1 (k1 + 1) → zIt g2 h' i2 l2 (k2 + 1) → IsPair h' s.heap.objs.size x y →
      (∀ c o, c ≠ z → c ≠ TO → c ≠ i1 → c ≠ i2 → s.heap.get? c = some o → h'.get? c = some o) → Q (some (.ref s.heap.objs.size)) { s with heap := h' }) : wpAny (model prog w) A (pyNext (.ref z)) Q E s := by
  have ty : s.TypeIs (.ref z) "zip" := ⟨_, hz, rfl⟩
  unfold pyNext
  refine wpAny_bind (wpAny_attempt (wpAny_callSpecial?_slot (name := Str.ofString "__next__") ty F.slot_zip_next (wpAny_call_entry F.slot_zip_next ty F.entry_zip_next ?_ (F.args_zip_next_1 _))))
  show wpAny (model prog w) _ (field (.ref z) 2 >>= _) _ _ s
  refine wpAny_bind (wpAny_field hz rfl (x := .bool false) rfl ?_); show wpAny (model prog w) _ (field (.ref z) 3 >>= _) _ _ s
  refine wpAny_bind (wpAny_field hz rfl (x := .ref TI) rfl (wpAny_bind (wpAny_seqItems hTI rfl ?_))); show wpAny (model prog w) _ (Builtin.SmallTypes.ownedTupleIsFree (.ref z) >>= _) _ _ s
  refine wpAny_bind ?_; unfold Builtin.SmallTypes.ownedTupleIsFree; refine wpAny_bind (wpAny_field hz rfl (x := .none) rfl (wpAny_pure ?_))
  rw [if_pos rfl]
  refine wpAny_bind (wpAny_rule (wpAny_bind (wpAny_field hz rfl (x := .ref TO) rfl (wpAny_bind (wpAny_setField_rec hz (by simp) fun H1 e1 c1 => ?_)))))
  have e1' : IsZip H1 z TI TO .ellipsis := e1
  refine wpAny_bind ?_
  rw [List.zipIdx_cons, List.zipIdx_cons, List.zipIdx_nil, List.forIn_cons]
  refine wpAny_bind (wpAny_bind (wpAny_onRaise ?_)); show wpAny (model prog w) _ (Builtin.SmallTypes.nextOf (.ref i1) >>= _) _ _ _
  refine wpAny_bind (z_item (h1.eb c1.extBut D.i1z) (hl1.eb c1.extBut D.l1z) hx fun H2 p1 c2 => wpAny_pure ?_)
  have t2 : IsPair H2 TO a b := c2.extBut _ _ D.TOi1 (c1.extBut _ _ D.TOz hTO)
  refine wpAny_bind (wpAny_seqItems t2 rfl (wpAny_bind (wpAny_updateSeq_pair t2 fun H3 t3 c3 => wpAny_bind (wpAny_letGo (wpAny_pure ?_)))))
  have t3' : IsPair H3 TO x b := t3
  dsimp only; rw [List.forIn_cons]
  refine wpAny_bind (wpAny_bind (wpAny_onRaise ?_)); show wpAny (model prog w) _ (Builtin.SmallTypes.nextOf (.ref i2) >>= _) _ _ _
  refine wpAny_bind (z_item (((h2.eb c1.extBut D.i2z).eb c2.extBut D.i12.symm).eb c3.extBut D.TOi2.symm) (((hl2.eb c1.extBut D.l2z).eb c2.extBut D.l2i1).eb c3.extBut D.l2TO) hy fun H4 p2 c4 => wpAny_pure ?_)
  have t4 : IsPair H4 TO x b := c4.extBut _ _ D.TOi2 t3'
  refine wpAny_bind (wpAny_seqItems t4 rfl (wpAny_bind (wpAny_updateSeq_pair t4 fun H5 t5 c5 => wpAny_bind (wpAny_letGo (wpAny_pure ?_)))))
  have t5' : IsPair H5 TO x y := t5
  dsimp only; rw [List.forIn_nil]
  refine wpAny_pure (wpAny_bind (wpAny_seqItems t5' rfl (wpAny_bind (wpAny_newTuple ?_))))
  have n5 : H5.objs.size = s.heap.objs.size := by rw [c5.1, c4.1, c3.1, c2.1, c1.1]
  have z5 : IsZip H5 z TI TO .ellipsis := c5.extBut _ _ D.TOz.symm (c4.extBut _ _ D.i2z.symm (c3.extBut _ _ D.TOz.symm (c2.extBut _ _ D.i1z.symm e1')))
  have k5 : ∀ c o, c ≠ z → c ≠ TO → c ≠ i1 → c ≠ i2 → s.heap.get? c = some o → H5.get? c = some o := fun c o q1 q2 q3 q4 e => c5.extBut _ _ q2 (c4.extBut _ _ q4 (c3.extBut _ _ q2 (c2.extBut _ _ q3 (c1.extBut _ _ q1 e))))
  have p1' := ((p1.eb c3.extBut D.TOi1.symm).eb c4.extBut D.i12).eb c5.extBut D.TOi1.symm
  have p2' := p2.eb c5.extBut D.TOi2.symm
  have lz : z < H5.objs.size := Heap.lt_size z5
  show wpAny (model prog w) _ (Builtin.SmallTypes.ownedTupleHandOut (.ref z) (.ref H5.objs.size) >>= _) _ _ _
  refine wpAny_bind ?_
  unfold Builtin.SmallTypes.ownedTupleHandOut
  refine wpAny_bind (wpAny_setField_rec (Heap.get?_push_of_some { cls := .type "tuple", data := .seq #[x, y] } z5) (by simp) fun H7 z7 c7 => ?_)
  have z7' : IsZip H7 z TI TO (rawInt H5.objs.size) := z7
  refine wpAny_setField_rec z7' (by simp) fun H8 z8 c8 => wpAny_pure ⟨_, rfl, wpAny_pure ?_⟩
  have up : ∀ c o, c ≠ z → H5.get? c = some o → H8.get? c = some o := fun c o n e => c8.extBut _ _ n (c7.extBut _ _ n (Heap.get?_push_of_some _ e))
  have new : IsPair H8 H5.objs.size x y := c8.extBut _ _ (Nat.ne_of_gt lz) (c7.extBut _ _ (Nat.ne_of_gt lz) (Heap.get?_push_size _ rfl))
  have z8' : IsZip H8 z TI TO (rawInt H5.objs.size) := z8
  rw [n5] at z8' new
  show Q (some (.ref H5.objs.size)) _
  rw [n5]
  exact q H8 z8' (up _ _ D.TOz t5') (p1'.at fun o e => up _ o D.i1z e) (p2'.at fun o e => up _ o D.i2z e) new fun c o q1 q2 q3 q4 e => up c o q1 (k5 c o q1 q2 q3 q4 e)
theorem zx_end {Q : Option Value → Shared → Prop} (hh : A.handled = none) (D : ZipApart z TI TO i1 i2 l1 l2) (hz : IsZip s.heap z TI TO .none) (hTI : IsPair s.heap TI (.ref i1) (.ref i2)) (hTO : IsPair s.heap TO a b)
    (h1 : zIt g1 s.heap i1 l1 k1) (h2 : zIt g2 s.heap i2 l2 k2) (hl1 : zSq g1 s.heap l1 xs) (hl2 : zSq g2 s.heap l2 ys) (he : xs[k1]? = none ∨ ys[k2]? = none)
    (q : ∀ h', (∀ c o, c ≠ z → c ≠ TO → c ≠ i1 → c ≠ i2 → s.heap.get? c = some o → h'.get? c = some o) → Q none { s with heap := h' }) : wpAny (model prog w) A (pyNext (.ref z)) Q E s := by
  have ty : s.TypeIs (.ref z) "zip" := ⟨_, hz, rfl⟩
  have fin : ∀ (h' : Heap) (e : Addr), (∀ c o, c ≠ z → c ≠ TO → c ≠ i1 → c ≠ i2 → s.heap.get? c = some o → h'.get? c = some o) → (∃ o, h'.get? e = some o ∧ o.cls = .type "StopIteration") →
      wpAny (model prog w) A (isInstance (.ref e) (.type "StopIteration")) (fun r s' => wpAny (model prog w) A (if r = true then pure none else throw (.ref e)) Q E s') E { s with heap := h' } := fun h' e k ⟨o, ho, hc⟩ => wpAny_isInstance (T := "StopIteration") (b := true) ⟨o, ho, hc⟩ isSubtype_stop (wpAny_pure (q h' k))
  unfold pyNext
  refine wpAny_bind (wpAny_attempt (wpAny_callSpecial?_slot (name := Str.ofString "__next__") ty F.slot_zip_next (wpAny_call_entry F.slot_zip_next ty F.entry_zip_next ?_ (F.args_zip_next_1 _))))
  show wpAny (model prog w) _ (field (.ref z) 2 >>= _) _ _ s
  refine wpAny_bind (wpAny_field hz rfl (x := .bool false) rfl ?_); show wpAny (model prog w) _ (field (.ref z) 3 >>= _) _ _ s
  refine wpAny_bind (wpAny_field hz rfl (x := .ref TI) rfl (wpAny_bind (wpAny_seqItems hTI rfl ?_))); show wpAny (model prog w) _ (Builtin.SmallTypes.ownedTupleIsFree (.ref z) >>= _) _ _ s
  refine wpAny_bind ?_; unfold Builtin.SmallTypes.ownedTupleIsFree; refine wpAny_bind (wpAny_field hz rfl (x := .none) rfl (wpAny_pure ?_))
  rw [if_pos rfl]
  refine wpAny_bind (wpAny_rule (wpAny_bind (wpAny_field hz rfl (x := .ref TO) rfl (wpAny_bind (wpAny_setField_rec hz (by simp) fun H1 e1 c1 => ?_)))))
  have e1' : IsZip H1 z TI TO .ellipsis := e1
  refine wpAny_bind ?_
  rw [List.zipIdx_cons, List.zipIdx_cons, List.zipIdx_nil, List.forIn_cons]
  refine wpAny_bind (wpAny_bind (wpAny_onRaise ?_)); show wpAny (model prog w) _ (Builtin.SmallTypes.nextOf (.ref i1) >>= _) _ _ _
  cases hx : xs[k1]? with
  | none =>
    refine wpAny_bind (z_end hh (h1.eb c1.extBut D.i1z) (hl1.eb c1.extBut D.l1z) hx fun H2 e c2 ⟨oe, q1, q2⟩ => ?_)
    have z2 : IsZip H2 z TI TO .ellipsis := c2 _ _ D.i1z.symm e1'
    have ne : e ≠ z := fun x => by rw [x, z2] at q1; cases q1; simp at q2
    refine wpAny_setField_rec z2 (by simp) fun H3 _ c3 => wpAny_bind (fin H3 e (fun c o n1 _ n3 _ x => c3.extBut _ _ n1 (c2 _ _ n3 (c1.extBut _ _ n1 x))) ⟨oe, c3.extBut _ _ ne q1, q2⟩)
  | some x =>
    have hy : ys[k2]? = none := he.resolve_left fun h => by rw [hx] at h; cases h
    refine wpAny_bind (z_item (h1.eb c1.extBut D.i1z) (hl1.eb c1.extBut D.l1z) hx fun H2 p1 c2 => wpAny_pure ?_)
    have t2 : IsPair H2 TO a b := c2.extBut _ _ D.TOi1 (c1.extBut _ _ D.TOz hTO)
    refine wpAny_bind (wpAny_seqItems t2 rfl (wpAny_bind (wpAny_updateSeq_pair t2 fun H3 t3 c3 => wpAny_bind (wpAny_letGo (wpAny_pure ?_)))))
    dsimp only; rw [List.forIn_cons]
    refine wpAny_bind (wpAny_bind (wpAny_onRaise ?_)); show wpAny (model prog w) _ (Builtin.SmallTypes.nextOf (.ref i2) >>= _) _ _ _
    refine wpAny_bind (z_end hh (((h2.eb c1.extBut D.i2z).eb c2.extBut D.i12.symm).eb c3.extBut D.TOi2.symm) (((hl2.eb c1.extBut D.l2z).eb c2.extBut D.l2i1).eb c3.extBut D.l2TO) hy fun H4 e c4 ⟨oe, q1, q2⟩ => ?_)
    have z4 : IsZip H4 z TI TO .ellipsis := c4 _ _ D.i2z.symm (c3.extBut _ _ D.TOz.symm (c2.extBut _ _ D.i1z.symm e1'))
    have ne : e ≠ z := fun x => by rw [x, z4] at q1; cases q1; simp at q2
    refine wpAny_setField_rec z4 (by simp) fun H5 _ c5 => wpAny_bind (fin H5 e (fun c o n1 n2 n3 n4 x => c5.extBut _ _ n1 (c4 _ _ n4 (c3.extBut _ _ n2 (c2.extBut _ _ n3 (c1.extBut _ _ n1 x))))) ⟨oe, c5.extBut _ _ ne q1, q2⟩)
end
end Mi
/-! Mi8c: what walks two things at once. -/
namespace Mi
open PySem PySem.Spec PyProof.Rows L2
/-- the source as the heap's model has it -/
def zH (k : Bool) (K : Fr) (H : Hp) (a : Addr) (xs : List V) : Prop := match k with
  | true => SqL K H a xs
  | false => SqT K H a xs
theorem zH.at {X : Cx} {pins : List (Addr × Obj)} {σ : L2.St} {H : Hp} {s : Shared} {k : Bool} {a : Addr} {xs : List V} (I : Inv X pins σ H s) (q : zH k X.K H a xs) : ∃ us : List Value, Vals xs us ∧ zSq k s.heap a us.toArray := by
  cases k
  · obtain ⟨us, r, p, _⟩ := I.tuple q
    exact ⟨us, r, p⟩
  · obtain ⟨us, r, p, _⟩ := I.list q
    exact ⟨us, r, p.isList⟩
theorem zH.one {X : Cx} {pins : List (Addr × Obj)} {σ : L2.St} {H : Hp} {s : Shared} {k : Bool} {a : Addr} {xs ys : List V} (I : Inv X pins σ H s) (q : zH k X.K H a xs) (q' : zH k X.K H a ys) : xs = ys := by
  cases k
  · exact I.tuple_inj q q'
  · exact I.list_inj q q'
def Izx (K : Fr) (g1 g2 : Bool) (a b : Addr) : L2.It :=
  ⟨fun i H => ∃ (xs ys : List V) (x y : V), zH g1 K H a xs ∧ zH g2 K H b ys ∧ xs[i]? = some x ∧ ys[i]? = some y,
    fun i H v H' => ∃ T x y, v = .ref T ∧ H T = none ∧ H' = upd H T (.tup [x, y]) ∧ (∀ xs, zH g1 K H a xs → xs[i]? = some x) ∧ ∀ ys, zH g2 K H b ys → ys[i]? = some y,
    fun i H => ∃ xs ys : List V, zH g1 K H a xs ∧ zH g2 K H b ys ∧ (xs.length ≤ i ∨ ys.length ≤ i)⟩
/-- the five objects of a zip -/
def zFive (z TI TO i1 i2 : Addr) : List Addr := [z, TI, TO, i1, i2]
theorem zFive_all {z TI TO i1 i2 : Addr} {P : Addr → Prop} (h1 : P z) (h2 : P TI) (h3 : P TO) (h4 : P i1) (h5 : P i2) : ∀ c ∈ zFive z TI TO i1 i2, P c := fun c hc => by
  unfold zFive at hc
  rcases List.mem_cons.mp hc with rfl | hc
  · exact h1
  rcases List.mem_cons.mp hc with rfl | hc
  · exact h2
  rcases List.mem_cons.mp hc with rfl | hc
  · exact h3
  rcases List.mem_cons.mp hc with rfl | hc
  · exact h4
  rcases List.mem_cons.mp hc with rfl | hc
  · exact h5
  · cases hc
theorem zFive_off {z TI TO i1 i2 c : Addr} (h : c ∉ zFive z TI TO i1 i2) : c ≠ z ∧ c ≠ TO ∧ c ≠ i1 ∧ c ≠ i2 := ⟨fun e => h (by simp [zFive, e]), fun e => h (by simp [zFive, e]), fun e => h (by simp [zFive, e]), fun e => h (by simp [zFive, e])⟩
/-- the iterators' state -/
def zAt (g1 g2 : Bool) (z TI TO i1 i2 a b : Addr) (i : Nat) (h : Heap) : Prop := IsZip h z TI TO .none ∧ IsPair h TI (.ref i1) (.ref i2) ∧ (∃ x y, IsPair h TO x y) ∧ zIt g1 h i1 a i ∧ zIt g2 h i2 b i
theorem turn_zx {P : Program} {w : World} {K : Fr} {elts : List Expr} {kk : Nat} {tpos : Pos} {g1 g2 : Bool} {a b z TI TO i1 i2 : Addr} (D : ZipApart z TI TO i1 i2 a b) :
    Turn P w K (.Tuple elts kk tpos) (Izx K g1 g2 a b) (zFive z TI TO i1 i2) z (zAt g1 g2 z TI TO i1 i2 a b) where
  mem := List.mem_cons_self
  obj := fun i h ⟨q1, q2, ⟨x, y, q3⟩, q4, q5⟩ => zFive_all ⟨_, q1, fun v q => nomatch q⟩ ⟨_, q2, fun v q => nomatch q⟩ ⟨_, q3, fun v q => nomatch q⟩ q4.obj q5.obj
  keep := fun i h h' ⟨q1, q2, ⟨x, y, q3⟩, q4, q5⟩ k => ⟨k z (by simp [zFive]) _ q1, k TI (by simp [zFive]) _ q2, ⟨x, y, k TO (by simp [zFive]) _ q3⟩, q4.at (k i1 (by simp [zFive])), q5.at (k i2 (by simp [zFive]))⟩
  item := by
    intro X hP hw hK hc i pins s σ H E I hf ⟨q1, q2, ⟨x0, y0, q3⟩, q4, q5⟩ ⟨xs, ys, x, y, hx, hy, ex, ey⟩
    subst hP hw hK
    obtain ⟨us, r1, p1⟩ := hx.at I
    obtain ⟨us2, r2, p2⟩ := hy.at I
    obtain ⟨u, hu, ru⟩ := r1.get ex
    obtain ⟨u2, hu2, ru2⟩ := r2.get ey
    refine zx_item D q1 q2 q3 q4 q5 p1 p2 (x := u) (y := u2) (by simpa using hu) (by simpa using hu2) fun h1 z1 o1 a1 a2 t1 k1 => ⟨_, rfl, wpAny_letOwnedTupleGo_zip (s := { s with heap := h1 }) z1 fun h2 z2 sb => ?_⟩
    have zl : z < s.heap.objs.size := Heap.lt_size q1
    have new : ObjOk X.prog X.w (upd H s.heap.objs.size (.tup [x, y])) h2 s.heap.objs.size (.tup [x, y]) := ⟨by show 2 ≤ sizeLine; decide, [u, u2], .cons ru (.cons ru2 .nil), ⟨_, (sb.2 _ (Nat.ne_of_gt zl)).trans t1, rfl, _, rfl⟩⟩
    have old : ∀ c o, c ∉ zFive z TI TO i1 i2 → s.heap.get? c = some o → h2.get? c = some o := fun c o hb q => by
      obtain ⟨n1, n2, n3, n4⟩ := zFive_off hb
      exact (sb.2 c n1).trans (k1 c o n1 n2 n3 n4 q)
    refine ⟨.ref s.heap.objs.size, _, I.turnedNew (t' := s.toks) (ch := zFive z TI TO i1 i2) old hf (Nat.le_refl _) new, rfl, ⟨_, x, y, rfl, I.hok.fresh (Nat.le_refl _), rfl, fun l hl => by rw [zH.one I hl hx]; exact ex, fun l hl => by rw [zH.one I hl hy]; exact ey⟩,
      ⟨z2, (sb.2 _ D.TIz).trans (k1 _ _ D.TIz D.TITO D.TIi1 D.TIi2 q2), ⟨u, u2, (sb.2 _ D.TOz).trans o1⟩, a1.at fun o q => (sb.2 _ D.i1z).trans q, a2.at fun o q => (sb.2 _ D.i2z).trans q⟩, fun c hc => ?_⟩
    have lt : c < s.heap.objs.size := zFive_all (P := fun c => c < s.heap.objs.size) zl (Heap.lt_size q2) (Heap.lt_size q3) q4.lt q5.lt c hc
    rw [upd_ne (Nat.ne_of_lt lt)]
    exact (hf c hc).1
  done := by
    intro X hP hw hK hc i pins s σ H E I hf ⟨q1, q2, ⟨x0, y0, q3⟩, q4, q5⟩ ⟨xs, ys, hx, hy, he⟩
    subst hP hw hK
    obtain ⟨us, r1, p1⟩ := hx.at I
    obtain ⟨us2, r2, p2⟩ := hy.at I
    have n1 := r1.length
    have n2 := r2.length
    refine zx_end (I.ok.hd hc) D q1 q2 q3 q4 q5 p1 p2 ?_ fun h' k => ⟨rfl, I.turnedL (t' := s.toks) (ch := zFive z TI TO i1 i2) (fun c o hb q => ?_) hf⟩
    · rcases he with q | q
      · exact .inl (by simp; omega)
      · exact .inr (by simp; omega)
    · obtain ⟨m1, m2, m3, m4⟩ := zFive_off hb
      exact k c o m1 m2 m3 m4 q
  self := fun A i s Q E st h => wpAny_pyIter_zip st.1 h
/-! making it -/
def zName (k : Bool) : String := match k with
  | true => "list_iterator"
  | false => "tuple_iterator"
def zObj (k : Bool) (l : Addr) : Obj := { cls := .type (zName k), data := .fields #[.ref l, .int 0 0] }
theorem zObj_it {k : Bool} {l it : Addr} {h : Heap} (e : h.get? it = some (zObj k l)) : zIt k h it l 0 := by
  cases k
  · exact ⟨_, e, rfl, rfl⟩
  · exact ⟨_, e, rfl, rfl⟩
theorem z_pyIter {prog : Program} {w : World} {A : Around} {E Q : Value → Shared → Prop} {s : Shared} {k : Bool} {l : Addr} {xs : Array Value} (h : zSq k s.heap l xs) (q : Q (.ref s.heap.objs.size) { s with heap := s.heap.push (zObj k l) }) : wpAny (model prog w) A (pyIter (.ref l)) Q E s := by
  cases k
  · exact wpAny_pyIter_tuple h q
  · exact wpAny_pyIter_list h q
def zMade (g1 g2 : Bool) (h : Heap) (a b : Addr) : Heap := ((((h.push (zObj g1 a)).push (zObj g2 b)).push { cls := .type "tuple", data := .seq #[.ref h.objs.size, .ref (h.push (zObj g1 a)).objs.size] }).push { cls := .type "tuple", data := .seq #[.none, .none] }).push
  { cls := .type "zip", data := .fields #[.none, .bool false, .bool false, .ref ((h.push (zObj g1 a)).push (zObj g2 b)).objs.size, .ref (((h.push (zObj g1 a)).push (zObj g2 b)).push { cls := .type "tuple", data := .seq #[.ref h.objs.size, .ref (h.push (zObj g1 a)).objs.size] }).objs.size] }
theorem zx_new (g1 g2 : Bool) (a b : Addr) (xs ys : Array Value) : Meets (Builtin.«zip.__new__» ⟨[.type "zip", .ref a, .ref b], []⟩) (fun _ R s => zSq g1 s.heap a xs ∧ zSq g2 s.heap b ys ∧ R (.ok (.ret (.ref (s.heap.objs.size + 4)))) { s with heap := zMade g1 g2 s.heap a b }) :=
  .of_wp fun prog w A R s h => by
    obtain ⟨hp, g, d, tk, os⟩ := s; obtain ⟨q1, q2, h⟩ := h
    have sub := sub_zip
    have t1 : zSq g1 (Shared.heap ⟨hp, g, d, tk, os⟩) a xs := q1
    have t2 : zSq g2 (Shared.heap ⟨hp.push (zObj g1 a), g, d, tk, os⟩) b ys := zSq.push q2 _
    wp_walk using z_pyIter t1, z_pyIter t2
    refine ⟨_, rfl, ?_⟩
    have e : (((((hp.push (zObj g1 a)).push (zObj g2 b)).push { cls := .type "tuple", data := .seq #[.ref hp.objs.size, .ref (hp.push (zObj g1 a)).objs.size] }).push { cls := .type "tuple", data := .seq #[.none, .none] })).objs.size = hp.objs.size + 4 := by
      rw [Heap.size_push, Heap.size_push, Heap.size_push, Heap.size_push]
    have h' := h
    unfold zMade at h'
    rw [← e] at h'
    exact h'
theorem get_push {h : Heap} {o : Obj} {n : Nat} (e : h.objs.size = n) (f : o.isFreed = false) : (h.push o).get? n = some o := by
  subst e
  exact Heap.get?_push_size _ f
def zIn (h : Heap) : Obj := { cls := .type "tuple", data := .seq #[.ref h.objs.size, .ref (h.objs.size + 1)] }
def zOut : Obj := { cls := .type "tuple", data := .seq #[.none, .none] }
def zZip (h : Heap) : Obj := { cls := .type "zip", data := .fields #[.none, .bool false, .bool false, .ref (h.objs.size + 2), .ref (h.objs.size + 3)] }
theorem zMade_eq (g1 g2 : Bool) (h : Heap) (a b : Addr) : zMade g1 g2 h a b = ((((h.push (zObj g1 a)).push (zObj g2 b)).push (zIn h)).push zOut).push (zZip h) := by
  unfold zMade zIn zOut zZip
  simp only [Heap.size_push]
theorem zMade_at (g1 g2 : Bool) (h : Heap) (a b : Addr) : zAt g1 g2 (h.objs.size + 4) (h.objs.size + 2) (h.objs.size + 3) h.objs.size (h.objs.size + 1) a b 0 (zMade g1 g2 h a b) := by
  rw [zMade_eq]
  have up : ∀ (h : Heap) (o : Obj) (c : Addr) (o' : Obj), h.get? c = some o' → (h.push o).get? c = some o' := fun h o c o' e => Heap.get?_push_of_some _ e
  refine ⟨?_, ?_, ⟨.none, .none, ?_⟩, zObj_it (up _ _ _ _ (up _ _ _ _ (up _ _ _ _ (up _ _ _ _ (get_push rfl rfl))))), zObj_it (up _ _ _ _ (up _ _ _ _ (up _ _ _ _ (get_push (by rw [Heap.size_push]) rfl))))⟩
  · exact get_push (o := zZip h) (by simp only [Heap.size_push]) rfl
  · exact up _ _ _ _ (up _ _ _ _ (get_push (o := zIn h) (by simp only [Heap.size_push]) rfl))
  · exact up _ _ _ _ (get_push (o := zOut) (by simp only [Heap.size_push]) rfl)
section
variable {prog : Program} {w : World} {A : Around} {E : Value → Shared → Prop} {s : Shared}
theorem call_zx {g1 g2 : Bool} {a b : Addr} {xs ys : Array Value} {Q : Value → Shared → Prop} (h1 : zSq g1 s.heap a xs) (h2 : zSq g2 s.heap b ys)
    (h : ∀ h', zAt g1 g2 (s.heap.objs.size + 4) (s.heap.objs.size + 2) (s.heap.objs.size + 3) s.heap.objs.size (s.heap.objs.size + 1) a b 0 h' → (∀ c o, s.heap.get? c = some o → h'.get? c = some o) → Q (.ref (s.heap.objs.size + 4)) { s with heap := h' }) :
    wpAny (model prog w) A (call (.type "zip") [.ref a, .ref b]) Q E s := by
  refine callType_new F.called_zip (by decide) (F.typeCall_zip_2 _ _) (F.newCall_zip_2 _ _) (fun obj => F.args_object_init_3 obj _ _) F.entry_zip_new (zx_new g1 g2 a b xs ys) ⟨h1, h2, ?_⟩
  have goal := zMade_at g1 g2 s.heap a b
  refine ⟨⟨_, goal.1, rfl⟩, h _ goal fun c o e => ?_⟩
  rw [zMade_eq]
  exact Heap.get?_push_of_some _ (Heap.get?_push_of_some _ (Heap.get?_push_of_some _ (Heap.get?_push_of_some _ (Heap.get?_push_of_some _ e))))
end
/-! the rule -/
def iZx (K : Fr) (ta : TA) : TI := fun σ H R => ta σ H fun vs H1 => ∃ g1 g2 a b xs ys, vs = [.ref a, .ref b] ∧ zH g1 K H1 a xs ∧ zH g2 K H1 b ys ∧ R (Izx K g1 g2 a b) H1
theorem pi_zx {X : Cx} {e e2 : Expr} {ta : TA} {p pos tpos : Pos} {elts : List Expr} {kk : Nat} (hg : Gl X "zip") (hm : X.mg "zip" = none) (ha : PA X [e, e2] ta)
    (hs : starEach [e, e2] X.env = (false, eval e X.env) :: starEach [e2] X.env := by rfl) (hpl : (backTo pos (starEach [e2] X.env)).any (·.1) = false := by rfl) :
    PI X (.Tuple elts kk tpos) (.Call (.Name "zip" p) [e, e2] [] pos) (iZx X.K ta) := by
  refine ⟨fun pins s σ H R I h => Call_ (ld_blt I hg hm PyProof.Rows.boot_zip (PyProof.Rows.callWith_type1 (thn (ha.run pos pins s σ H _ I h) fun us s1 ⟨vs, H1, I1, r1, q1⟩ => ?_) hs hpl))⟩
  obtain ⟨g1, g2, a, b, xs, ys, rfl, hx, hy, q⟩ := q1
  obtain ⟨u, u2, rfl, ra, rb⟩ := r1.two
  cases ra
  cases rb
  obtain ⟨us, r1, p1⟩ := hx.at I1
  obtain ⟨us2, r2, p2⟩ := hy.at I1
  refine call_zx p1 p2 fun h' st k => wpAny_pyIter_zip st.1 ⟨_, zFive _ _ _ _ _, _, _, H1, rfl, I1.kept (t' := s1.toks) k, turn_zx (PySem.W.ktu_apart s1.heap.objs.size a b p1.lt p2.lt), st, fun c hc => ?_, q⟩
  have le : s1.heap.objs.size ≤ c := zFive_all (P := fun c => s1.heap.objs.size ≤ c) (Nat.le_add_right _ _) (Nat.le_add_right _ _) (Nat.le_add_right _ _) (Nat.le_refl _) (Nat.le_add_right _ _) c hc
  exact I1.fpOk le (I1.hok.fresh le)
section
variable {K : Fr} {Xc : Addr → Prop} {μ0 : Mu} {H0 : Hp}
theorem zipL_get : ∀ (l l2 : List Val) (i : Nat) (w : Val), (zipL l l2)[i]? = some w → ∃ v v2, l[i]? = some v ∧ l2[i]? = some v2 ∧ w = .tup [v, v2]
  | [], _, _, _, h => by simp [zipL] at h
  | _ :: _, [], _, _, h => by simp [zipL] at h
  | v :: r, v2 :: r2, 0, w, h => by
    simp only [zipL, List.getElem?_cons_zero, Option.some.injEq] at h
    exact ⟨v, v2, rfl, rfl, h.symm⟩
  | v :: r, v2 :: r2, i + 1, w, h => by
    simp only [zipL, List.getElem?_cons_succ] at h
    simpa using zipL_get r r2 i w h
theorem zipL_len : ∀ (l l2 : List Val), (zipL l l2).length = min l.length l2.length
  | [], _ => by simp [zipL]
  | _ :: _, [] => by simp [zipL]
  | v :: r, v2 :: r2 => by simp only [zipL, List.length_cons, zipL_len r r2]; omega
/-- what v stands for as a source -/
def srcK (v : Val) (μ : Mu) : Bool := match content μ v with
  | some (.lst _) => true
  | _ => false
theorem src_at {l : List Val} {v : Val} {x : V} (m0 : MRel K Xc μ0 H0) (d0 : Den K (Dn Xc μ0) H0 v x) (hc : seqOf μ0 v = some l) {Xc' : Addr → Prop} {μ : Mu} {H : Hp} (m : MRel K Xc' μ H) (hd : ∀ v x, Den K (Dn Xc μ0) H0 v x → Den K (Dn Xc' μ) H v x) (g : gOk (guard v l) μ) {p : Addr} (hx : x = .ref p) :
    ∃ xs, zH (srcK v μ0) K H p xs ∧ DenL K (Dn Xc' μ) H l xs := by
  unfold seqOf at hc
  split at hc
  · rename_i l' hl
    cases hc
    obtain ⟨xs, h1, h2⟩ := gOk_list d0 hl m hd g hx
    refine ⟨xs, ?_, h2⟩
    unfold srcK
    rw [hl]
    exact h1
  · rename_i l' hl
    cases hc
    have ev : v = .tup l := by
      cases v with
      | ref b => obtain ⟨o, _, z⟩ := m0.obj b _ hl; exact z.elim
      | tup _ => cases hl; rfl
      | _ => cases hl
    subst ev
    obtain ⟨a, xs, e, q, hl2⟩ := m.tup (hd _ _ d0) rfl
    rw [hx] at e
    cases e
    exact ⟨xs, q, hl2⟩
  · cases hc
theorem itok_zip {l l2 : List Val} {v v2 : Val} {p p2 : Addr} (m0 : MRel K Xc μ0 H0) (d0 : Den K (Dn Xc μ0) H0 v (.ref p)) (hc : seqOf μ0 v = some l) (hn : guard v l = none) (d2 : Den K (Dn Xc μ0) H0 v2 (.ref p2)) (hc2 : seqOf μ0 v2 = some l2) :
    ItOk K Xc μ0 H0 (zipL l l2) (guard v2 l2) (Izx K (srcK v μ0) (srcK v2 μ0) p p2) := fun i Xc' μ H m hd g => by
  obtain ⟨xs, q1, h1⟩ := src_at m0 d0 hc m hd (by rw [hn]; exact trivial) rfl
  obtain ⟨ys, q2, h2⟩ := src_at m0 d2 hc2 m hd g rfl
  refine ⟨fun w hw => ?_, fun hi => ⟨xs, ys, q1, q2, ?_⟩⟩
  · obtain ⟨u, u2, e1, e2, rfl⟩ := zipL_get l l2 i w hw
    obtain ⟨x, hx, dx⟩ := h1.get e1
    obtain ⟨y, hy, dy⟩ := h2.get e2
    refine ⟨⟨xs, ys, x, y, q1, q2, hx, hy⟩, fun y' H' ⟨T, x', y'', eT, hT, eH, f1, f2⟩ => ?_⟩
    have a1 := f1 xs q1
    have a2 := f2 ys q2
    rw [hx] at a1
    rw [hy] at a2
    cases a1
    cases a2
    subst eT
    subst eH
    refine ⟨Ext.laid hT, m.laid hT, NewRel.den m hT ⟨_, rfl, x, [y], rfl, dx, y, [], rfl, dy, rfl⟩⟩
  · rw [zipL_len, h1.length, h2.length] at hi
    omega
end
section
variable {X : Cx} {Φ : Ph} {W : WX} {a b : Expr} {pos : Pos}
theorem si_zip (hΦ : MonoP Φ) {e f : E} {p tpos : Pos} {elts : List Expr} {kk : Nat} (hg : Gl X "zip") (hm : X.mg "zip" = none) (h : SE X Φ W a e) (h2 : SE X Φ W b f) (hs : starEach [a, b] X.env = (false, eval a X.env) :: starEach [b] X.env := by rfl) (hs2 : starEach [b] X.env = (false, eval b X.env) :: starEach [] X.env := by rfl) (hpl : (backTo pos (starEach [b] X.env)).any (·.1) = false := by rfl) :
    SI X Φ W (.Tuple elts kk tpos) (.Call (.Name "zip" p) [a, b] [] pos) (.zip e f) :=
  PI.imp (pi_zx hg hm (sa_cons hΦ h (sa_cons hΦ h2 sa_nil hs2) hs) hs hpl) fun σ H R ⟨Xc, env, μ, S, q⟩ => by
    simp only [wpI] at q
    have q' : wpEs Φ (.cons e (.cons f .nil)) env μ (fun vs μ' => ∃ v w l l2, vs = [v, w] ∧ seqOf μ' v = some l ∧ guard v l = none ∧ seqOf μ' w = some l2 ∧
      ∀ J H', SRel X.K Xc σ H' env μ' → Ext μ H μ' H' → ItOk X.K Xc μ' H' (zipL l l2) (guard w l2) J → R J H') (XPost X.K X.mg W Xc σ H env μ) := by
      simp only [wpEs]
      refine wpE_mono hΦ e env μ _ _ _ _ (fun v μ1 z => wpE_mono hΦ f env μ1 _ _ _ _ (fun w μ2 y => ?_) (fun _ _ z => z) z) (fun _ _ z => z) q
      split at y
      · rename_i l l2 e1 e2
        exact ⟨v, w, l, l2, rfl, e1, y.1, e2, y.2⟩
      · exact y.elim
    refine useA hΦ S Ext.refl q' fun vs μ1 xs H1 S1 E1 _ d ⟨v, w, l, l2, ev, e1, hn, e2, q1⟩ => ?_
    subst ev
    obtain ⟨x, y, rfl, dx, dy⟩ := d.two
    have ref : ∀ {v : Val} {x : V} {l : List Val}, Den X.K (Dn Xc μ1) H1 v x → seqOf μ1 v = some l → ∃ p, x = .ref p := fun {v x l} d e => by
      unfold seqOf at e
      split at e
      · rename_i l' hl
        obtain ⟨p, ys, rfl, _⟩ := S1.m.lst d hl
        exact ⟨p, rfl⟩
      · rename_i l' hl
        obtain ⟨p, ys, rfl, _⟩ := S1.m.tup d hl
        exact ⟨p, rfl⟩
      · cases e
    obtain ⟨p, rfl⟩ := ref dx e1
    obtain ⟨p2, rfl⟩ := ref dy e2
    have hok := itok_zip S1.m dx e1 hn dy e2
    obtain ⟨xs, h1, _⟩ := src_at S1.m dx e1 S1.m (fun _ _ z => z) (by rw [hn]; exact trivial) rfl
    have g2 : gOk (guard w l2) μ1 := by
      cases w with
      | ref c =>
        unfold seqOf at e2
        split at e2
        · rename_i l' hl
          cases e2
          exact hl
        · rename_i l' hl
          obtain ⟨o, _, z⟩ := S1.m.obj c _ hl
          exact z.elim
        · cases e2
      | _ => exact trivial
    obtain ⟨ys, h2, _⟩ := src_at S1.m dy e2 S1.m (fun _ _ z => z) g2 rfl
    exact ⟨_, _, p, p2, xs, ys, rfl, h1, h2, q1 _ H1 S1 E1 hok⟩
end
end Mi
/-! Mi9: targets, comprehensions. -/
namespace Mi
open PySem PySem.Spec PyProof.Rows L2

/-- a tuple or a list of that length -/
def gSeq (K : Fr) (n : Nat) (t : TGs) : TG := fun v σ H Q => gTup K n t v σ H Q ∨ gUnl K n t v σ H Q
theorem pg_seq {X : Cx} {pos : Pos} {es : List Expr} {k : Nat} {t : TGs} {n : Nat} (hc : X.calm = true) (h : PGs X es t) (hn : (assignEach es X.env).length = n := by rfl) (hst : (assignEach es X.env).findIdx? (·.1) = none := by rfl) : PG X (.Tuple es k pos) (gSeq X.K n t) :=
  ⟨fun pins s σ H v u Q I r hw => hw.elim (fun z => (pg_tup hc h hn hst).run pins s σ H v u Q I r z) fun z => (pg_unl hc h hn hst).run pins s σ H v u Q I r z⟩
mutual
def gT (K : Fr) : Tg → TG
  | .n i => gName i
  | .t l => gSeq K l.length (gTs K l)
def gTs (K : Fr) : List Tg → TGs
  | [] => gNil
  | t :: r => gCons (gT K t) (gTs K r)
end
mutual
def Tg.names : Tg → List Nat
  | .n i => [i]
  | .t l => namesL l
def namesL : List Tg → List Nat
  | [] => []
  | t :: r => t.names ++ namesL r
end
theorem wipe_set {σ : List (Option V)} {i : Nat} {x : Option V} : ∀ {vs : List Nat}, i ∈ vs → L2.wipe (σ.set i x) vs = L2.wipe σ vs
  | v :: vs, h => by
    unfold L2.wipe
    by_cases hv : i ∈ vs
    · rw [wipe_set hv]
    · have e : i = v := by
        rcases List.mem_cons.mp h with e | h
        · exact e
        · exact (hv h).elim
      subst e
      have : ∀ (vs : List Nat), i ∉ vs → L2.wipe (σ.set i x) vs = (L2.wipe σ vs).set i x := fun vs => by
        induction vs with
        | nil => intro _; rfl
        | cons w ws ih =>
          intro hn
          unfold L2.wipe
          rw [ih (fun z => hn (List.mem_cons_of_mem _ z)), List.set_comm _ _ (fun z => hn (by rw [z]; exact List.mem_cons_self))]
      rw [this vs hv, List.set_set]
theorem wipe_get {σ : List (Option V)} {i : Nat} : ∀ {vs : List Nat}, i ∉ vs → (L2.wipe σ vs)[i]? = σ[i]?
  | [], _ => rfl
  | v :: vs, h => by
    unfold L2.wipe
    rw [List.getElem?_set_ne (fun z => h (by rw [z]; exact List.mem_cons_self)), wipe_get (fun z => h (List.mem_cons_of_mem _ z))]
theorem wipeE_some {env : Env} {i : Nat} {v : Val} : ∀ {vs : List Nat}, (Mi.wipe env vs)[i]? = some (some v) → env[i]? = some (some v) ∧ i ∉ vs
  | [], h => ⟨h, by simp⟩
  | w :: vs, h => by
    unfold Mi.wipe at h
    by_cases e : w = i
    · subst e
      by_cases hl : w < (Mi.wipe env vs).length
      · rw [List.getElem?_set_self hl] at h; cases h
      · rw [List.getElem?_eq_none (by simpa using hl)] at h; cases h
    · rw [List.getElem?_set_ne e] at h
      obtain ⟨h1, h2⟩ := wipeE_some h
      exact ⟨h1, fun z => by
        rcases List.mem_cons.mp z with z | z
        · exact e z.symm
        · exact h2 z⟩
theorem wipeE_length (env : Env) : ∀ vs : List Nat, (Mi.wipe env vs).length = env.length
  | [] => rfl
  | v :: vs => by unfold Mi.wipe; rw [List.length_set, wipeE_length env vs]
theorem wipe_idem (σ : List (Option V)) : ∀ (vs ws : List Nat), (∀ i ∈ ws, i ∈ vs) → L2.wipe (L2.wipe σ ws) vs = L2.wipe σ vs
  | vs, [], _ => rfl
  | vs, w :: ws, h => by
    show L2.wipe ((L2.wipe σ ws).set w none) vs = _
    rw [wipe_set (h w List.mem_cons_self), wipe_idem σ vs ws (fun i hi => h i (List.mem_cons_of_mem _ hi))]

section
variable {K : Fr} {Xc : Addr → Prop} {H : Hp} {μ : Mu}
theorem SRel.set {σ : List (Option V)} {env : Env} (S : SRel K Xc σ H env μ) {i : Nat} {v : Val} {x : V} (d : Den K (Dn Xc μ) H v x) : SRel K Xc (σ.set i (some x)) H (env.set i (some v)) μ where
  m := S.m
  len := by rw [List.length_set, List.length_set]; exact S.len
  slot := fun j w h => by
    by_cases e : i = j
    · subst e
      by_cases hl : i < env.length
      · rw [List.getElem?_set_self hl] at h
        cases h
        exact ⟨x, by rw [List.getElem?_set_self (by rw [← S.len]; exact hl)], d⟩
      · rw [List.getElem?_eq_none (by simpa using hl)] at h; cases h
    · rw [List.getElem?_set_ne e] at h
      obtain ⟨y, h1, h2⟩ := S.slot j w h
      exact ⟨y, by rw [List.getElem?_set_ne e]; exact h1, h2⟩
theorem SRel.forget {σ : List (Option V)} {env : Env} (S : SRel K Xc σ H env μ) {i : Nat} : SRel K Xc (σ.set i none) H (env.set i none) μ where
  m := S.m
  len := by rw [List.length_set, List.length_set]; exact S.len
  slot := fun j w h => by
    by_cases e : i = j
    · subst e
      by_cases hl : i < env.length
      · rw [List.getElem?_set_self hl] at h
        cases h
      · rw [List.getElem?_eq_none (by simpa using hl)] at h; cases h
    · rw [List.getElem?_set_ne e] at h
      obtain ⟨y, h1, h2⟩ := S.slot j w h
      exact ⟨y, by rw [List.getElem?_set_ne e]; exact h1, h2⟩
theorem SRel.wipe {σ : List (Option V)} {env : Env} (S : SRel K Xc σ H env μ) (vs : List Nat) : SRel K Xc (L2.wipe σ vs) H (Mi.wipe env vs) μ where
  m := S.m
  len := by rw [wipeE_length, wipe_length]; exact S.len
  slot := fun j w h => by
    obtain ⟨h1, h2⟩ := wipeE_some h
    obtain ⟨y, h3, h4⟩ := S.slot j w h1
    exact ⟨y, by rw [wipe_get h2]; exact h3, h4⟩
mutual
theorem gT_ok : ∀ (t : Tg) (v : Val) (env env' : Env) (σ : List (Option V)) (x : V) (Q : List (Option V) → Hp → Prop), t.asg v env = some env' → SRel K Xc σ H env μ → Den K (Dn Xc μ) H v x →
    (∀ σ', SRel K Xc σ' H env' μ → (∀ vs, (∀ i ∈ t.names, i ∈ vs) → L2.wipe σ' vs = L2.wipe σ vs) → Q σ' H) → gT K t x σ H Q
  | .n i, v, env, env', σ, x, Q, e, S, d, q => by
    simp only [Tg.asg, Option.some.injEq] at e
    subst e
    exact q _ (S.set d) fun vs h => wipe_set (h i (by simp [Tg.names]))
  | .t l, v, env, env', σ, x, Q, e, S, d, q => by
    cases v with
    | tup vs =>
      simp only [Tg.asg] at e
      split at e
      · rename_i hl
        obtain ⟨a, xs, rfl, r, dl⟩ := S.m.tup d rfl
        exact .inl ⟨a, xs, rfl, r, by rw [← dl.length]; exact hl.symm, gTs_ok l vs env env' σ xs Q e S dl q⟩
      · cases e
    | lst vs =>
      simp only [Tg.asg] at e
      split at e
      · rename_i hl
        obtain ⟨a, xs, rfl, r, dl⟩ := S.m.lst d rfl
        exact .inr ⟨a, xs, rfl, r, by rw [← dl.length]; exact hl.symm, gTs_ok l vs env env' σ xs Q e S dl q⟩
      · cases e
    | _ => simp [Tg.asg] at e
theorem gTs_ok : ∀ (l : List Tg) (vs : List Val) (env env' : Env) (σ : List (Option V)) (xs : List V) (Q : List (Option V) → Hp → Prop), asgL l vs env = some env' → SRel K Xc σ H env μ → DenL K (Dn Xc μ) H vs xs →
    (∀ σ', SRel K Xc σ' H env' μ → (∀ vs, (∀ i ∈ namesL l, i ∈ vs) → L2.wipe σ' vs = L2.wipe σ vs) → Q σ' H) → gTs K l xs σ H Q
  | [], [], env, env', σ, xs, Q, e, S, d, q => by
    simp only [asgL, Option.some.injEq] at e
    subst e
    exact ⟨d, q σ S fun _ _ => rfl⟩
  | [], _ :: _, env, env', σ, xs, Q, e, S, d, q => by simp [asgL] at e
  | _ :: _, [], env, env', σ, xs, Q, e, S, d, q => by simp [asgL] at e
  | t :: ts, v :: vs, env, env', σ, xs, Q, e, S, ⟨x, r, ex, d1, d2⟩, q => by
    simp only [asgL] at e
    cases h1 : t.asg v env with
    | none => rw [h1] at e; cases e
    | some env1 =>
      rw [h1] at e
      refine ⟨x, r, ex, gT_ok t v env env1 σ x _ h1 S d1 fun σ1 S1 w1 => ?_⟩
      refine gTs_ok ts vs env1 env' σ1 r Q e S1 d2 fun σ2 S2 w2 => q σ2 S2 fun ws hw => ?_
      rw [w2 ws (fun i hi => hw i (by simp only [namesL]; exact List.mem_append_right _ hi)), w1 ws (fun i hi => hw i (by simp only [namesL]; exact List.mem_append_left _ hi))]
end

/-! ### with a list beside that is being made -/
def del (H : Hp) (D : Addr) : Hp := fun a => if a = D then none else H a
theorem del_ne {H : Hp} {D a : Addr} (h : a ≠ D) : del H D a = H a := if_neg h
theorem del_self {H : Hp} {D : Addr} : del H D D = none := if_pos rfl
theorem upd_del {H : Hp} {D : Addr} {o : HO} : upd (del H D) D o = upd H D o := by
  funext a
  unfold upd del
  by_cases h : a = D
  · rw [if_pos h, if_pos h]
  · rw [if_neg h, if_neg h, if_neg h]
def plusX (Xc : Addr → Prop) (D : Addr) : Addr → Prop := fun a => Xc a ∨ a = D
variable {D : Addr} {o : HO}
theorem rd_ne {u : HO} {a : Addr} (hD : H D = none) (r : Rd H a u) : a ≠ D := fun z => rdSome r (by rw [z]; exact hD)
theorem rd_upd {u : HO} {a : Addr} (h : a ≠ D) (r : Rd H a u) : Rd (upd H D o) a u := by
  rcases r with r | ⟨b, r⟩
  · exact .inl (by rw [upd_ne h]; exact r)
  · exact .inr ⟨b, by rw [upd_ne h]; exact r⟩
theorem rd_del {u : HO} {a : Addr} (h : a ≠ D) (r : Rd H a u) : Rd (del H D) a u := by
  rcases r with r | ⟨b, r⟩
  · exact .inl (by rw [del_ne h]; exact r)
  · exact .inr ⟨b, by rw [del_ne h]; exact r⟩
theorem dn_plus {a : Addr} (n : ¬ Dn Xc μ a) (h : a ≠ D) : ¬ Dn (plusX Xc D) μ a := fun z => by
  rcases z with z | z | z
  · exact n (.inl z)
  · exact n (.inr z)
  · exact h z
theorem dn_of_plus {a : Addr} (n : ¬ Dn (plusX Xc D) μ a) : ¬ Dn Xc μ a ∧ a ≠ D := ⟨fun z => n (z.imp id .inl), fun z => n (.inr (.inr z))⟩
mutual
theorem Den.plus (hD : H D = none) : ∀ (v : Val) (x : V), Den K (Dn Xc μ) H v x → Den K (Dn (plusX Xc D) μ) (upd H D o) v x
  | .non, x, h => h
  | .bl _, x, h => h
  | .int _, x, h => h
  | .str _, x, h => h
  | .ref _, x, h => h
  | .exn _ _, x, h => h
  | .ins c l, x, ⟨a, C, dx, xs, e1, n, r, hc, hl⟩ => ⟨a, C, dx, xs, e1, dn_plus n (rd_ne hD r), rd_upd (rd_ne hD r) r, hc, DenL.plus hD l xs hl⟩
  | .tup l, x, ⟨a, xs, e1, h, hl⟩ => ⟨a, xs, e1, h.imp (fun ⟨n, r⟩ => ⟨dn_plus n (rd_ne hD r), rd_upd (rd_ne hD r) r⟩) id, DenL.plus hD l xs hl⟩
  | .lst l, x, ⟨a, xs, e1, h, hl⟩ => ⟨a, xs, e1, h.imp (fun ⟨n, r⟩ => ⟨dn_plus n (rd_ne hD r), rd_upd (rd_ne hD r) r⟩) id, DenL.plus hD l xs hl⟩
  | .dct l, x, ⟨a, kvs, e1, n, r, hl⟩ => ⟨a, kvs, e1, dn_plus n (rd_ne hD r), rd_upd (rd_ne hD r) r, DenP.plus hD l kvs hl⟩
theorem DenL.plus (hD : H D = none) : ∀ (l : List Val) (xs : List V), DenL K (Dn Xc μ) H l xs → DenL K (Dn (plusX Xc D) μ) (upd H D o) l xs
  | [], xs, h => h
  | v :: r, xs, ⟨x, t, e1, h1, h2⟩ => ⟨x, t, e1, Den.plus hD v x h1, DenL.plus hD r t h2⟩
theorem DenP.plus (hD : H D = none) : ∀ (l : List Val) (kvs : List (Key × V)), DenP K (Dn Xc μ) H l kvs → DenP K (Dn (plusX Xc D) μ) (upd H D o) l kvs
  | [], kvs, h => h
  | .tup [kv, v] :: r, kvs, ⟨k, x, t, e1, ek, h1, h2⟩ => ⟨k, x, t, e1, ek, Den.plus hD v x h1, DenP.plus hD r t h2⟩
  | .tup [] :: _, kvs, h => h
  | .tup [_] :: _, kvs, h => h
  | .tup (_ :: _ :: _ :: _) :: _, kvs, h => h
  | .non :: _, kvs, h => h
  | .bl _ :: _, kvs, h => h
  | .int _ :: _, kvs, h => h
  | .str _ :: _, kvs, h => h
  | .lst _ :: _, kvs, h => h
  | .dct _ :: _, kvs, h => h
  | .ref _ :: _, kvs, h => h
  | .exn _ _ :: _, kvs, h => h
  | .ins _ _ :: _, kvs, h => h
end
mutual
theorem Den.minus : ∀ (v : Val) (x : V), Den K (Dn (plusX Xc D) μ) H v x → Den K (Dn Xc μ) (del H D) v x
  | .non, x, h => h
  | .bl _, x, h => h
  | .int _, x, h => h
  | .str _, x, h => h
  | .ref _, x, h => h
  | .exn _ _, x, h => h
  | .ins c l, x, ⟨a, C, dx, xs, e1, n, r, hc, hl⟩ => ⟨a, C, dx, xs, e1, (dn_of_plus n).1, rd_del (dn_of_plus n).2 r, hc, DenL.minus l xs hl⟩
  | .tup l, x, ⟨a, xs, e1, h, hl⟩ => ⟨a, xs, e1, h.imp (fun ⟨n, r⟩ => ⟨(dn_of_plus n).1, rd_del (dn_of_plus n).2 r⟩) id, DenL.minus l xs hl⟩
  | .lst l, x, ⟨a, xs, e1, h, hl⟩ => ⟨a, xs, e1, h.imp (fun ⟨n, r⟩ => ⟨(dn_of_plus n).1, rd_del (dn_of_plus n).2 r⟩) id, DenL.minus l xs hl⟩
  | .dct l, x, ⟨a, kvs, e1, n, r, hl⟩ => ⟨a, kvs, e1, (dn_of_plus n).1, rd_del (dn_of_plus n).2 r, DenP.minus l kvs hl⟩
theorem DenL.minus : ∀ (l : List Val) (xs : List V), DenL K (Dn (plusX Xc D) μ) H l xs → DenL K (Dn Xc μ) (del H D) l xs
  | [], xs, h => h
  | v :: r, xs, ⟨x, t, e1, h1, h2⟩ => ⟨x, t, e1, Den.minus v x h1, DenL.minus r t h2⟩
theorem DenP.minus : ∀ (l : List Val) (kvs : List (Key × V)), DenP K (Dn (plusX Xc D) μ) H l kvs → DenP K (Dn Xc μ) (del H D) l kvs
  | [], kvs, h => h
  | .tup [kv, v] :: r, kvs, ⟨k, x, t, e1, ek, h1, h2⟩ => ⟨k, x, t, e1, ek, Den.minus v x h1, DenP.minus r t h2⟩
  | .tup [] :: _, kvs, h => h
  | .tup [_] :: _, kvs, h => h
  | .tup (_ :: _ :: _ :: _) :: _, kvs, h => h
  | .non :: _, kvs, h => h
  | .bl _ :: _, kvs, h => h
  | .int _ :: _, kvs, h => h
  | .str _ :: _, kvs, h => h
  | .lst _ :: _, kvs, h => h
  | .dct _ :: _, kvs, h => h
  | .ref _ :: _, kvs, h => h
  | .exn _ _ :: _, kvs, h => h
  | .ins _ _ :: _, kvs, h => h
end
theorem CRel.plus (hD : H D = none) {c : Val} {u : HO} (h : CRel K (Dn Xc μ) H c u) : CRel K (Dn (plusX Xc D) μ) (upd H D o) c u := by
  cases c with
  | lst l => obtain ⟨xs, e1, hl⟩ := h; exact ⟨xs, e1, DenL.plus hD l xs hl⟩
  | dct l => obtain ⟨kvs, e1, hl⟩ := h; exact ⟨kvs, e1, DenP.plus hD l kvs hl⟩
  | ins c l => obtain ⟨C, dx, xs, e1, hc, hl⟩ := h; exact ⟨C, dx, xs, e1, hc, DenL.plus hD l xs hl⟩
  | _ => exact h.elim
theorem CRel.minus {c : Val} {u : HO} (h : CRel K (Dn (plusX Xc D) μ) H c u) : CRel K (Dn Xc μ) (del H D) c u := by
  cases c with
  | lst l => obtain ⟨xs, e1, hl⟩ := h; exact ⟨xs, e1, DenL.minus l xs hl⟩
  | dct l => obtain ⟨kvs, e1, hl⟩ := h; exact ⟨kvs, e1, DenP.minus l kvs hl⟩
  | ins c l => obtain ⟨C, dx, xs, e1, hc, hl⟩ := h; exact ⟨C, dx, xs, e1, hc, DenL.minus l xs hl⟩
  | _ => exact h.elim
theorem MRel.plus (m : MRel K Xc μ H) (hD : H D = none) : MRel K (plusX Xc D) μ (upd H D o) where
  obj := fun a c h => by
    obtain ⟨u, e, r⟩ := m.obj a c h
    exact ⟨u, by rw [upd_ne (ne_of_none e hD)]; exact e, r.plus hD⟩
  xc := fun a h => by
    by_cases e : a = D
    · rw [e, upd_same]; intro z; cases z
    · rw [upd_ne e]
      rcases h with h | h
      · exact m.xc a h
      · exact (e h).elim
theorem MRel.minus (m : MRel K (plusX Xc D) μ H) (hD : μ D = none) (hx : ¬ Xc D) : MRel K Xc μ (del H D) where
  obj := fun a c h => by
    obtain ⟨u, e, r⟩ := m.obj a c h
    exact ⟨u, by rw [del_ne (fun z => by rw [z, hD] at h; cases h)]; exact e, r.minus⟩
  xc := fun a h => by
    rw [del_ne (fun z => hx (by rw [← z]; exact h))]
    exact m.xc a (.inl h)
theorem Ext.minus {μ' : Mu} {H' : Hp} (hD : H D = none) (e : Ext μ (upd H D o) μ' H') : Ext μ H μ' (del H' D) where
  keepO := fun a u h n => by
    have ne := ne_of_none h hD
    rw [del_ne ne]
    exact e.keepO a u (by rw [upd_ne ne]; exact h) n
  nonew := fun a h n => by
    have ne : a ≠ D := fun z => h (by rw [z]; exact hD)
    exact e.nonew a (by rw [upd_ne ne]; exact h) n
  there := fun a h => by
    have ne : a ≠ D := fun z => h (by rw [z]; exact hD)
    rw [del_ne ne]
    exact e.there a (by rw [upd_ne ne]; exact h)
end

/-! ### list comprehensions -/
section
variable {X : Cx} {Φ : Ph} {W : WX} {pos : Pos}
abbrev W0 : WX := fun _ _ _ _ => False
theorem PTs.imp {a : List Expr} {t t' : TT} (h : PTs X a t) (f : ∀ σ H Q, t' σ H Q → t σ H Q) : PTs X a t' := ⟨fun pins s σ H Q I q => h.run pins s σ H Q I (f _ _ _ q)⟩
theorem pts_yes : PTs X [] (rdT X.K X.mg Φ W (.c (.bl true))) := PTs.imp pts_nil fun σ H Q ⟨Xc, env, μ, S, q⟩ => by
  simp only [wpE] at q
  exact q H S Ext.refl
theorem comp_read (hΦ : MonoP Φ) {K : Fr} {mg : Str → Option Value} {elt : E} {t : Tg} {own : List Nat} {it : It} {cond : E} (hown : ∀ i ∈ t.names, i ∈ own) {σ : List (Option V)} {H : Hp} {Q : VK}
    (h : rdF K mg Φ W (.comp elt t own it cond) σ H Q) : tLc (rdI K mg Φ W it) (gT K t) (rdT K mg Φ W0 cond) (rdE K mg Φ W0 elt) own σ H Q := by
  obtain ⟨Xc, env, μ, S, q⟩ := h
  simp only [wpE] at q
  refine ⟨Xc, env, μ, S, wpI_mono hΦ it env μ _ _ _ _ (fun l g μ1 lc J H1 S1 E1 ok D hD => ?_) (fun _ _ z => z) q⟩
  refine ⟨fun i m Hc => ∃ (μ' : Mu) (acc : List Val) (Hm : Hp) (vs : List V), m = l.length - i ∧ i ≤ l.length ∧ Hc = upd Hm D (.lst vs) ∧ Hm D = none ∧ MRel K Xc μ' Hm ∧ Ext μ1 H1 μ' Hm ∧ DenL K (Dn Xc μ') Hm acc vs ∧
    loopC (gOk g) (fun v μ2 R => match t.asg v (Mi.wipe env own) with
      | some env' => wpE Φ cond env' μ2 (fun tv μ3 => match truthV μ3 tv with
        | some true => wpE Φ elt env' μ3 (fun y μ4 => R (some y) μ4) fun _ _ => False
        | some false => R none μ3
        | none => False) fun _ _ => False
      | none => False) (l.drop i) acc μ' (fun r μ' => FPost K Xc σ H env μ Q (.lst r) μ'), ⟨l.length, μ1, [], H1, [], by simp, Nat.zero_le _, rfl, hD, S1.m, Ext.refl, rfl, lc⟩, ?_⟩
  rintro i m Hc ⟨μ', acc, Hm, vs, rfl, hi, rfl, hDm, mm, Em, dacc, lc'⟩
  have mc : MRel K (plusX Xc D) μ' (upd Hm D (.lst vs)) := mm.plus hDm
  have dens : ∀ v x, Den K (Dn Xc μ1) H1 v x → Den K (Dn (plusX Xc D) μ') (upd Hm D (.lst vs)) v x := fun v x d => Den.plus hDm v x (d.ext Em)
  have hμD : μ' D = none := dn_none (mm.fresh hDm)
  have hXD : ¬ Xc D := fun z => mm.xc D z hDm
  by_cases hlt : i < l.length
  · have hdrop : l.drop i = l[i] :: l.drop (i + 1) := List.drop_eq_getElem_cons hlt
    rw [hdrop] at lc'
    obtain ⟨hg, step⟩ := lc'
    obtain ⟨ok1, _⟩ := ok i (plusX Xc D) μ' (upd Hm D (.lst vs)) mc dens hg
    obtain ⟨go, yl⟩ := ok1 l[i] (List.getElem?_eq_getElem hlt)
    refine .inr ⟨go, fun Hn => ∃ (μ' : Mu) (acc : List Val) (Hm : Hp) (vs : List V), i + 1 ≤ l.length ∧ Hn = upd Hm D (.lst vs) ∧ Hm D = none ∧ MRel K Xc μ' Hm ∧ Ext μ1 H1 μ' Hm ∧ DenL K (Dn Xc μ') Hm acc vs ∧ loopC (gOk g) _ (l.drop (i + 1)) acc μ' _,
      fun Hn ⟨μ2, acc2, Hm2, vs2, a1, a2, a3, a4, a5, a6, a7⟩ => ⟨l.length - (i + 1), by omega, μ2, acc2, Hm2, vs2, rfl, a1, a2, a3, a4, a5, a6, a7⟩, fun x H' y => ?_⟩
    obtain ⟨Ey, my, dy⟩ := yl x H' y
    cases ha : t.asg l[i] (Mi.wipe env own) with
    | none => rw [ha] at step; exact step.elim
    | some env' =>
      rw [ha] at step
      have S' : SRel K (plusX Xc D) σ H' env μ' := ⟨my, fun j w hw => by
        obtain ⟨z, h1, h2⟩ := S1.slot j w hw
        exact ⟨z, h1, (dens w z h2).ext Ey⟩, S1.len⟩
      refine gT_ok t _ _ _ _ _ _ ha (S'.wipe own) dy fun σ2 S2 hw => ⟨by rw [hw own hown, wipe_idem _ own own (fun _ h => h)], ?_⟩
      refine ⟨plusX Xc D, env', μ', S2, wpE_mono hΦ cond env' μ' _ _ _ _ (fun tv μ3 z => ?_) (fun _ _ z => z.elim) step⟩
      unfold TPost
      cases hb : truthV μ3 tv with
      | none => rw [hb] at z; exact z
      | some b =>
        rw [hb] at z
        intro H3 S3 E3
        cases b with
        | false =>
          refine iteF ⟨μ3, acc, del H3 D, vs, hlt, ?_, del_self, ?_, ?_, ?_, z⟩
          · rw [upd_del]
            have hk : H3 D = some (.lst vs) := (Ey.trans E3).keepO D _ upd_same hμD
            funext a
            by_cases e : a = D
            · rw [e, upd_same]; exact hk
            · rw [upd_ne e]
          · exact S3.m.minus ((Ey.trans E3).nonew D (by rw [upd_same]; intro z; cases z) hμD) hXD
          · exact Em.trans ((Ey.trans E3).minus hDm)
          · exact DenL.ext ((Ey.trans E3).minus hDm) acc vs dacc
        | true =>
          refine iteT ⟨plusX Xc D, env', μ3, S3, wpE_mono hΦ elt env' μ3 _ _ _ _ (fun yv μ4 z4 y4 H4 S4 E4 d4 => ?_) (fun _ _ z => z.elim) z⟩
          have Et := (Ey.trans E3).trans E4
          have hk : H4 D = some (.lst vs) := Et.keepO D _ upd_same hμD
          obtain ⟨hlen, z5⟩ := z4
          refine ⟨vs, hk, by rw [← big_line, ← dacc.length]; exact hlen, μ4, acc ++ [yv], del H4 D, vs ++ [y4], hlt, by rw [upd_del], del_self, ?_, ?_, ?_, z5⟩
          · exact S4.m.minus (Et.nonew D (by rw [upd_same]; intro z; cases z) hμD) hXD
          · exact Em.trans (Et.minus hDm)
          · exact (DenL.ext (Et.minus hDm) acc vs dacc).append ⟨y4, [], rfl, Den.minus _ _ d4, rfl⟩
  · have e : i = l.length := by omega
    subst e
    rw [List.drop_length] at lc'
    obtain ⟨hg, fin⟩ := lc'
    obtain ⟨_, stop⟩ := ok l.length (plusX Xc D) μ' (upd Hm D (.lst vs)) mc dens hg
    exact .inl ⟨stop (Nat.le_refl _), fin D (.lst vs) Hm (S1.of_ext mm Em) (E1.trans Em) hDm ⟨vs, rfl, dacc⟩⟩
theorem sf_comp (hΦ : MonoP Φ) {elt tg iter : Expr} {ifs : List Expr} {scope : Scope} {own : List (Str × Nat)} {e : E} {t : Tg} {it : It} {cond : E} (hc : X.calm = true) (hN : X.N.Nodup) (hi : SI X Φ W tg iter it) (ok : BlkOk X.N X.env.scope scope own)
    (hg : ∀ (s : Shared) (H : Hp) (C : Addr) (cl : List (Str × Addr)) (fp : List Addr), PG (X.blk s H scope (compEnvC scope cl C X.env) fp) tg (gT X.K t))
    (ht : ∀ (s : Shared) (H : Hp) (C : Addr) (cl : List (Str × Addr)) (fp : List Addr), PTs (X.blk s H scope (compEnvC scope cl C X.env) fp) ifs (rdT X.K X.mg Φ W0 cond))
    (he : ∀ (s : Shared) (H : Hp) (C : Addr) (cl : List (Str × Addr)) (fp : List Addr), SE (X.blk s H scope (compEnvC scope cl C X.env) fp) Φ W0 elt e)
    (hown : ∀ i ∈ t.names, i ∈ own.map (·.2)) (hs : ∀ x, foldedSetIterable iter X.env x = pure x := by intro _; rfl) :
    SF X Φ W (.ListComp elt [⟨tg, iter, ifs, 0⟩] scope pos) (.comp e t (own.map (·.2)) it cond) :=
  PE.imp (pe_lc hc hN hi ok hg ht he hs) fun σ H Q h => comp_read hΦ hown h
end
end Mi
/-! Mi10: statements, defs. -/
namespace Mi
open PySem PySem.Spec PyProof.Rows L2

section
variable (K : Fr) (mg : Str → Option Value) (W : WX) (Xc : Addr → Prop) (H : Hp) (μ : Mu) (D : Ends)
/-- what is wanted behind a statement, from (H, μ) on -/
def enOf : En where
  nx := fun env' μ' => ∀ σ' H', SRel K Xc σ' H' env' μ' → Ext μ H μ' H' → D.nx σ' H'
  rt := fun v μ' => ∀ x H', MRel K Xc μ' H' → Ext μ H μ' H' → Den K (Dn Xc μ') H' v x → D.rt x H'
  ex := fun e env' μ' => ∀ cls d σ' H', SRel K Xc σ' H' env' μ' → Ext μ H μ' H' → ExR K mg e cls d → W cls d σ' H'
end
def rdS (K : Fr) (mg : Str → Option Value) (Φ : Ph) (W : WX) (s : S) : TS := fun D σ H => ∃ Xc env μ, SRel K Xc σ H env μ ∧ wpS Φ s env μ (enOf K mg W Xc H μ D)
abbrev SS (X : Cx) (Φ : Ph) (W : WX) (a : Stmt) (s : S) : Prop := PS X a (rdS X.K X.mg Φ W s)
abbrev SB (X : Cx) (Φ : Ph) (W : WX) (a : List Stmt) (s : S) : Prop := PSs X a (rdS X.K X.mg Φ W s)
theorem PS.imp {X : Cx} {a : Stmt} {t t' : TS} (h : PS X a t) (f : ∀ D σ H, t' D σ H → t D σ H) : PS X a t' := ⟨fun pins s σ H D I q => h.run pins s σ H D I (f _ _ _ q)⟩
theorem PSs.imp {X : Cx} {a : List Stmt} {t t' : TS} (h : PSs X a t) (f : ∀ D σ H, t' D σ H → t D σ H) : PSs X a t' := ⟨fun pins s σ H D I q => h.run pins s σ H D I (f _ _ _ q)⟩

section
variable {K : Fr} {mg : Str → Option Value} {Φ : Ph} {W : WX} {Xc : Addr → Prop} {σ : List (Option V)} {H H0 : Hp} {env : Env} {μ μ0 : Mu} {D : Ends}
theorem enOf.le (E0 : Ext μ0 H0 μ H) : (enOf K mg W Xc H0 μ0 D).Le (enOf K mg W Xc H μ D) :=
  ⟨fun e μ' h σ' H' S E => h σ' H' S (E0.trans E), fun v μ' h x H' S E d => h x H' S (E0.trans E) d, fun v e μ' h cls d σ' H' S E r => h cls d σ' H' S (E0.trans E) r⟩
/-- exceptions of a part -/
theorem ex_x {e : Val} {μ' : Mu} (h : (enOf K mg W Xc H μ D).ex e env μ') : XPost K mg W Xc σ H env μ e μ' := fun cls d H' S E r => h cls d σ H' S E r
theorem useS (hΦ : MonoP Φ) {e : E} {F : Val → Mu → Prop} {R : VK} (S : SRel K Xc σ H env μ) (q : wpE Φ e env μ F (fun x μ' => (enOf K mg W Xc H μ D).ex x env μ'))
    (k : ∀ v μ1 x H1, SRel K Xc σ H1 env μ1 → Ext μ H μ1 H1 → Den K (Dn Xc μ1) H1 v x → F v μ1 → R x H1) : rdE K mg Φ W e σ H R :=
  use hΦ S Ext.refl (wpE_mono hΦ e env μ _ _ _ _ (fun _ _ z => z) (fun _ _ z => ex_x z) q) fun v μ1 x H1 S1 E1 _ d f => k v μ1 x H1 S1 E1 d f
end

section
variable {X : Cx} {Φ : Ph} {W : WX} {pos : Pos}
theorem sb_nil : SB X Φ W [] .skip := PSs.imp pss_nil fun D σ H ⟨Xc, env, μ, S, q⟩ => q σ H S Ext.refl
theorem sb_one {a : Stmt} {s : S} (h : SS X Φ W a s) : SB X Φ W [a] s := pss_one h
theorem sb_cons (hΦ : MonoP Φ) {a : Stmt} {r : List Stmt} {s t : S} (h : SS X Φ W a s) (hr : SB X Φ W r t) : SB X Φ W (a :: r) (.seq s t) :=
  PSs.imp (pss_cons h hr) fun D σ H ⟨Xc, env, μ, S, q⟩ => by
    rw [wpS] at q
    refine ⟨Xc, env, μ, S, wpS_mono hΦ s env μ _ _ ?_ q⟩
    exact ⟨fun e μ' z σ' H' S' E' => ⟨Xc, e, μ', S', wpS_mono hΦ t e μ' _ _ (enOf.le E') z⟩, fun _ _ z => z, fun _ _ _ z => z⟩
theorem ss_pass : SS X Φ W (.Pass pos) .skip := PS.imp ps_pass fun D σ H ⟨Xc, env, μ, S, q⟩ => q σ H S Ext.refl
theorem ss_doc {x j p1} : SS X Φ W (.Expr (.Constant (.str x) j p1) pos) .skip := PS.imp ps_doc fun D σ H ⟨Xc, env, μ, S, q⟩ => q σ H S Ext.refl
theorem ss_ex (hΦ : MonoP Φ) {a : Expr} {e : E} (h : SE X Φ W a e) (hs : swapsWith a none pos.line X.env = pure false := by rfl) : SS X Φ W (.Expr a pos) (.ex e) :=
  PS.imp (ps_expr h hs) fun D σ H ⟨Xc, env, μ, S, q⟩ => by
    rw [wpS] at q
    exact useS hΦ S q fun v μ1 x H1 S1 E1 d f => f σ H1 S1 E1
theorem ss_asg (hΦ : MonoP Φ) {i : Nat} {x : Str} {a : Expr} {e : E} {pos' : Pos} (hN : X.N.Nodup) (hi : X.N[i]? = some x) (hx : Loc X.env.scope x) (h : SE X Φ W a e) (hs : swapsWith a (some (.Name x pos')) pos.line X.env = pure false := by rfl)
    (hf : X.fn x = true ∨ X.env.scope.names.lookup x = some .local) : SS X Φ W (.Assign [.Name x pos'] a pos) (.asg i e) :=
  PS.imp (ps_set hN hi hx h hs hf) fun D σ H ⟨Xc, env, μ, S, q⟩ => by
    rw [wpS] at q
    exact useS hΦ S q fun v μ1 x H1 S1 E1 d f => f _ H1 (S1.set d) E1
theorem ss_asgT (hΦ : MonoP Φ) {tg a : Expr} {e : E} {t : Tg} (h : SE X Φ W a e) (hg : PG X tg (gT X.K t)) (hs : swapsWithSole [tg] a pos.line X.env = pure false := by rfl) (hw : swappedStores [tg] a X.env = pure none := by rfl)
    (h1 : (assignEach [tg] X.env).map (·.2) = [assign tg X.env] := by rfl) : SS X Φ W (.Assign [tg] a pos) (.asgT t e) :=
  PS.imp (ps_asg h hg hs hw h1) fun D σ H ⟨Xc, env, μ, S, q⟩ => by
    rw [wpS] at q
    refine useS hΦ S q fun v μ1 x H1 S1 E1 d f => ?_
    cases ha : t.asg v env with
    | none => rw [ha] at f; exact f.elim
    | some env' =>
      rw [ha] at f
      exact gT_ok t v env env' σ x _ ha S1 d fun σ' S' _ => f σ' H1 S' E1
/-- name = [..] -/
theorem ss_asgC (hΦ : MonoP Φ) {i : Nat} {y : Str} {py : Pos} {elt tg iter : Expr} {ifs : List Expr} {scope : Scope} {own : List (Str × Nat)} {cpos : Pos} {e : E} {t : Tg} {it : It} {cond : E} (hc : X.calm = true) (hN : X.N.Nodup) (hy : X.N[i]? = some y) (hyl : X.env.scope.names.lookup y = some .local)
    (hsw : swapsWith (.ListComp elt [⟨tg, iter, ifs, 0⟩] scope cpos) (some (.Name y py)) pos.line X.env = pure true) (hi : SI X Φ W tg iter it) (ok : BlkOk X.N X.env.scope scope own)
    (hg : ∀ (s : Shared) (H : Hp) (C : Addr) (cl : List (Str × Addr)) (fp : List Addr), PG (X.blk s H scope (compEnvC scope cl C X.env) fp) tg (gT X.K t))
    (ht : ∀ (s : Shared) (H : Hp) (C : Addr) (cl : List (Str × Addr)) (fp : List Addr), PTs (X.blk s H scope (compEnvC scope cl C X.env) fp) ifs (rdT X.K X.mg Φ W0 cond))
    (he : ∀ (s : Shared) (H : Hp) (C : Addr) (cl : List (Str × Addr)) (fp : List Addr), SE (X.blk s H scope (compEnvC scope cl C X.env) fp) Φ W0 elt e)
    (hown : ∀ i ∈ t.names, i ∈ own.map (·.2)) (hs : ∀ x, foldedSetIterable iter X.env x = pure x := by intro _; rfl) :
    SS X Φ W (.Assign [.Name y py] (.ListComp elt [⟨tg, iter, ifs, 0⟩] scope cpos) pos) (.asg i (.comp e t (own.map (·.2)) it cond)) :=
  PS.imp (ps_setLc hc hN hy hyl hsw hi ok hg ht he hs) fun D σ H ⟨Xc, env, μ, S, q⟩ => by
    rw [wpS] at q
    refine comp_read (Q := fun x H1 => D.nx (σ.set i (some x)) H1) hΦ hown ⟨Xc, env, μ, S, wpE_mono hΦ _ env μ _ _ _ _ (fun v μ' z p o H1 S1 E1 hp r => ?_) (fun _ _ z => ex_x z) q⟩
    exact z _ _ ((S1.laid hp).set (r.den S1.m hp)) (E1.trans (Ext.laid hp))
theorem ss_asgCN (hΦ : MonoP Φ) {i : Nat} {y : Str} {py : Pos} {elt tg iter : Expr} {ifs : List Expr} {scope : Scope} {own : List (Str × Nat)} {cpos : Pos} {e : E} {t : Tg} {it : It} {cond : E} (hc : X.calm = true) (hN : X.N.Nodup) (hy : X.N[i]? = some y) (hyl : X.env.scope.names.lookup y = some .local)
    (hsw : swapsWith (.ListComp elt [⟨tg, iter, ifs, 0⟩] scope cpos) (some (.Name y py)) pos.line X.env = pure true) (hi : SI X Φ W tg iter it) (ok : BlkOk X.N X.env.scope scope own)
    (hg : ∀ (s : Shared) (H : Hp) (C : Addr) (cl : List (Str × Addr)) (fp : List Addr), PG (X.blk s H scope (compEnvC scope cl C X.env) fp) tg (gT X.K t))
    (ht : ∀ (s : Shared) (H : Hp) (C : Addr) (cl : List (Str × Addr)) (fp : List Addr), PTs (X.blk s H scope (compEnvC scope cl C X.env) fp) ifs (rdT X.K X.mg Φ W0 cond))
    (he : ∀ (s : Shared) (H : Hp) (C : Addr) (cl : List (Str × Addr)) (fp : List Addr), SE (X.blk s H scope (compEnvC scope cl C X.env) fp) Φ W0 elt e)
    (hown : ∀ i ∈ t.names, i ∈ own.map (·.2)) (hs : ∀ x, foldedSetIterable iter X.env x = pure x := by intro _; rfl) :
    SS X Φ W (.Assign [.Name y py] (.ListComp elt [⟨tg, iter, ifs, 0⟩] scope cpos) pos) (.asg i (.new (.comp e t (own.map (·.2)) it cond))) :=
  PS.imp (ps_setLc hc hN hy hyl hsw hi ok hg ht he hs) fun D σ H ⟨Xc, env, μ, S, q⟩ => by
    rw [wpS, wpE] at q
    refine comp_read (Q := fun x H1 => D.nx (σ.set i (some x)) H1) hΦ hown ⟨Xc, env, μ, S, wpE_mono hΦ _ env μ _ _ _ _ (fun v μ' z p o H1 S1 E1 hp r => ?_) (fun _ _ z => ex_x z) q⟩
    obtain ⟨hcn, k⟩ := z
    have r' : CRel X.K (Dn Xc μ') H1 v o := by
      cases v with
      | lst l => exact r
      | dct l => exact r
      | _ => cases hcn
    exact k p (dn_none (S1.m.fresh hp)) _ _ ((S1.laidM hp r').set rfl) (E1.trans (Ext.laidM hp))
/-! ### o[i] = v -/
def rSetM (K : Fr) : TSet := fun o i v H Q => ∃ Xc μ ov iv vv μ', MRel K Xc μ H ∧ Den K (Dn Xc μ) H ov o ∧ Den K (Dn Xc μ) H iv i ∧ Den K (Dn Xc μ) H vv v ∧ setV μ ov iv vv = some μ' ∧ ∀ H', MRel K Xc μ' H' → Ext μ H μ' H' → Q H'
theorem DenP.put {K : Fr} {D : Addr → Prop} {H : Hp} {k v : Val} {j : Key} {x : V} (hk : keyOf k = some j) (d : Den K D H v x) : ∀ {l : List Val} {kvs : List (Key × V)}, DenP K D H l kvs → (kvs.map (·.1)).Nodup → DenP K D H (dPut k v l) (putK kvs j x)
  | [], kvs, h, _ => by rw [show kvs = [] from h]; exact ⟨j, x, [], rfl, hk, d, rfl⟩
  | .tup [k', w] :: r, kvs, ⟨j', y, t, e, hk', dw, dr⟩, nd => by
    subst e
    simp only [dPut]
    rw [keyEq_of hk hk']
    rw [List.map_cons, List.nodup_cons] at nd
    by_cases z : j = j'
    · subst z
      rw [decide_eq_true rfl, if_pos rfl]
      have e : putK ((j, y) :: t) j x = (j, x) :: t := by
        unfold putK
        rw [if_pos (by simp)]
        rw [List.map_cons, if_pos rfl]
        congr 1
        conv => rhs; rw [← List.map_id t]
        refine List.map_congr_left fun kv hkv => ?_
        rw [if_neg (fun q => nd.1 (List.mem_map.mpr ⟨kv, hkv, q⟩))]
        rfl
      rw [e]
      exact ⟨j, x, t, rfl, hk', d, dr⟩
    · rw [decide_eq_false z, if_neg Bool.false_ne_true]
      have e : putK ((j', y) :: t) j x = (j', y) :: putK t j x := by
        have zz : ¬ j' = j := fun q => z q.symm
        unfold putK
        by_cases ha : (t.any fun kv => decide (kv.1 = j)) = true
        · rw [if_pos ha, if_pos (by rw [List.any_cons, ha, Bool.or_true]), List.map_cons, if_neg zz]
        · rw [if_neg ha, if_neg (by rw [List.any_cons, decide_eq_false zz, Bool.false_or]; exact ha)]
          rfl
      rw [e]
      exact ⟨j', y, _, rfl, hk', dw, DenP.put hk d dr nd.2⟩
  | .tup [] :: _, _, h, _ => h.elim
  | .tup [_] :: _, _, h, _ => h.elim
  | .tup (_ :: _ :: _ :: _) :: _, _, h, _ => h.elim
  | .non :: _, _, h, _ => h.elim
  | .bl _ :: _, _, h, _ => h.elim
  | .int _ :: _, _, h, _ => h.elim
  | .str _ :: _, _, h, _ => h.elim
  | .lst _ :: _, _, h, _ => h.elim
  | .dct _ :: _, _, h, _ => h.elim
  | .ref _ :: _, _, h, _ => h.elim
  | .exn _ _ :: _, _, h, _ => h.elim
  | .ins _ _ :: _, _, h, _ => h.elim
theorem dk_nodup {pins : List (Addr × Obj)} {σ : List (Option V)} {H : Hp} {s : Shared} {a : Addr} {kvs : List (Key × V)} (I : Inv X pins σ H s) (h : H a = some (.dK kvs)) : (kvs.map (·.1)).Nodup := by
  obtain ⟨_, _, vs, rel, o, es, ep, e, x, d, he, nd⟩ := dk_of I.hok h
  rw [rel.keys]
  exact nd.2
theorem set_m {k : Nat} (hr : RoomH k X.A) : PSet X (rSetM X.K) := by
  intro pins s σ H o i v ov iv u Q I ro ri rv h
  obtain ⟨Xc, μ, ov', iv', vv', μ', m, d1, d2, d3, e, q⟩ := h
  have hu := hr.un
  unfold setV at e
  split at e
  · rename_i a
    split at e
    · rename_i l k' hl
      cases hk : Mi.ixN l.length k' with
      | none => rw [hk] at e; cases e
      | some j =>
        rw [hk] at e
        cases e
        obtain ⟨xs, hx, l1⟩ := m.lstM hl
        have hk' : L2.ixN xs.length k' = some j := by rw [← l1.length]; exact hk
        have r' : CRel X.K (Dn Xc μ) H (.lst (l.set j vv')) (.lst (xs.set j v)) := ⟨_, rfl, l1.set j d3⟩
        exact set_list pins s σ H o i v ov iv u Q I ro ri rv ⟨a, xs, k', j, d1, d2, hx, hk', q _ (m.put hl r') (Ext.put hl)⟩
    · rename_i l _ hl
      split at e
      · rename_i hk
        cases e
        obtain ⟨j, hj⟩ := key_isKey hk.1
        obtain ⟨kvs, hx, l1⟩ := m.dctM hl
        have r' : CRel X.K (Dn Xc μ) H (.dct (dPut _ vv' _)) (.dK (putK kvs j v)) := ⟨_, rfl, DenP.put hj d3 l1 (dk_nodup I hx)⟩
        rw [show o = V.ref a from d1] at ro
        obtain rfl : ov = Value.ref a := ro
        have g : DPut H a i v (upd H a (.dK (putK kvs j v))) := .inl ⟨kvs, j, hx, keyOf_den hj d2, by rw [← big_line, ← l1.length]; exact hk.2, rfl⟩
        exact d_setItem (by omega) I g ri rv fun s' I' => ⟨_, I', q _ (m.put hl r') (Ext.put hl)⟩
      · cases e
    · cases e
  · cases e
theorem ss_setix {k : Nat} (hr : RoomH k X.A) (hΦ : MonoP Φ) {o i a : Expr} {eo ei e : E} {spos : Pos} (h : SE X Φ W a e) (ho : SE X Φ W o eo) (hi : SE X Φ W i ei)
    (hs : swapsWithSole [.Subscript o i spos] a pos.line X.env = pure false := by rfl) (hw : swappedStores [.Subscript o i spos] a X.env = pure none := by rfl)
    (h1 : (assignEach [.Subscript o i spos] X.env).map (·.2) = [assign (.Subscript o i spos) X.env] := by rfl)
    (ha : ∀ v, assign (.Subscript o i spos) X.env v = (do
      let ov ← holding [v] (eval o X.env)
      let iv ← holding [v, ov] (eval i X.env)
      standAt spos
      holding [v, ov, iv] (setItem ov iv v)
      release [v, ov, iv] []) := by intro _; rfl) : SS X Φ W (.Assign [.Subscript o i spos] a pos) (.setix eo ei e) :=
  PS.imp (ps_asg h (pg_sub ho hi (set_m hr) ha) hs hw h1) fun D σ H ⟨Xc, env, μ, S, q⟩ => by
    rw [wpS] at q
    have x2 : ∀ (v : Val) (μ' : Mu), (enOf X.K X.mg W Xc H μ D).ex v env μ' → XPost X.K X.mg W Xc σ H env μ v μ' := fun _ _ z => ex_x z
    refine use hΦ S Ext.refl (wpE_mono hΦ e env μ _ _ _ _ (fun _ _ z => z) x2 q) fun v μ1 x H1 S1 E1 E1' d q1 => ?_
    refine use hΦ S1 E1' (wpE_mono hΦ eo env μ1 _ _ _ _ (fun _ _ z => z) x2 q1) fun ov μ2 y H2 S2 E2 E2' d2 q2 => ?_
    refine use hΦ S2 E2' (wpE_mono hΦ ei env μ2 _ _ _ _ (fun _ _ z => z) x2 q2) fun iv μ3 z H3 S3 E3 E3' d3 q3 => ?_
    split at q3
    · rename_i μ4 hm
      exact ⟨Xc, μ3, ov, iv, v, μ4, S3.m, d2.ext E3, d3, (d.ext E2).ext E3, hm, fun H4 m4 E4 => q3 σ H4 (S3.of_ext m4 E4) (E3'.trans E4)⟩
    · exact q3.elim
theorem ss_ite (hΦ : MonoP Φ) {c : Expr} {a b : List Stmt} {ec : E} {s t : S} (hc : ST X Φ W c ec) (ha : SB X Φ W a s) (hb : SB X Φ W b t) : SS X Φ W (.If c a b pos) (.ite ec s t) :=
  PS.imp (ps_if hc ha hb) fun D σ H ⟨Xc, env, μ, S, q⟩ => by
    rw [wpS] at q
    refine useT hΦ S Ext.refl (wpE_mono hΦ ec env μ _ _ _ _ (fun _ _ z => z) (fun _ _ z => ex_x z) q) (fun v μ1 f z => by rw [z] at f; exact f) fun v μ1 b H1 S1 E1 hb f => ?_
    rw [hb] at f
    cases b with
    | true => exact iteT ⟨Xc, env, μ1, S1, wpS_mono hΦ s env μ1 _ _ (enOf.le E1) f⟩
    | false => exact iteF ⟨Xc, env, μ1, S1, wpS_mono hΦ t env μ1 _ _ (enOf.le E1) f⟩
theorem ss_for (hΦ : MonoP Φ) {tg iter : Expr} {body : List Stmt} {t : Tg} {it : It} {s : S} (hp : PassesOwn (model X.prog X.w) X.A X.env X.xe) (hc : X.calm = true) (hi : SI X Φ W tg iter it) (hg : PG X tg (gT X.K t)) (hb : SB X Φ W body s)
    (hs : ∀ x, foldedSetIterable iter X.env x = pure x := by intro _; rfl) : SS X Φ W (.For tg iter body [] pos) (.forS t it s) :=
  PS.imp (ps_for hp hc hi hg hb hs) fun D σ H ⟨Xc, env, μ, S, q⟩ => by
    rw [wpS] at q
    refine ⟨Xc, env, μ, S, wpI_mono hΦ it env μ _ _ _ _ (fun l g μ1 lf J H1 S1 E1 ok => ?_) (fun _ _ z => ex_x z) q⟩
    refine ⟨fun i m σ' H' => ∃ env' μ', m = l.length - i ∧ i ≤ l.length ∧ SRel X.K Xc σ' H' env' μ' ∧ Ext μ1 H1 μ' H' ∧ loopF (gOk g) (fun v env' μ' R => match t.asg v env' with
      | some env2 => wpS Φ s env2 μ' { enOf X.K X.mg W Xc H μ D with nx := R }
      | none => False) (enOf X.K X.mg W Xc H μ D).nx (l.drop i) env' μ', ⟨l.length, env, μ1, by simp, Nat.zero_le _, S1, Ext.refl, lf⟩, ?_⟩
    rintro i m σ' H' ⟨env', μ', rfl, hi, S', E', lf'⟩
    have dens : ∀ v x, Den X.K (Dn Xc μ1) H1 v x → Den X.K (Dn Xc μ') H' v x := fun v x d => d.ext E'
    by_cases hlt : i < l.length
    · have hdrop : l.drop i = l[i] :: l.drop (i + 1) := List.drop_eq_getElem_cons hlt
      rw [hdrop] at lf'
      obtain ⟨hg, step⟩ := lf'
      obtain ⟨ok1, _⟩ := ok i Xc μ' H' S'.m dens hg
      obtain ⟨go, yl⟩ := ok1 l[i] (List.getElem?_eq_getElem hlt)
      refine .inr ⟨go, fun σ2 H2 => ∃ env2 μ2, i + 1 ≤ l.length ∧ SRel X.K Xc σ2 H2 env2 μ2 ∧ Ext μ1 H1 μ2 H2 ∧ loopF (gOk g) _ (enOf X.K X.mg W Xc H μ D).nx (l.drop (i + 1)) env2 μ2,
        fun σ2 H2 ⟨e2, μ2, a1, a2, a3, a4⟩ => ⟨l.length - (i + 1), by omega, e2, μ2, rfl, a1, a2, a3, a4⟩, fun x H2 y => ?_⟩
      obtain ⟨Ey, my, dy⟩ := yl x H2 y
      cases ha : t.asg l[i] env' with
      | none => rw [ha] at step; exact step.elim
      | some env2 =>
        rw [ha] at step
        refine gT_ok t _ _ _ _ _ _ ha (S'.of_ext my Ey) dy fun σ2 S2 _ => ⟨Xc, env2, μ', S2, wpS_mono hΦ s env2 μ' _ _ ?_ step⟩
        have Et : Ext μ H μ' H2 := (E1.trans E').trans Ey
        exact ⟨fun e3 μ3 z σ3 H3 S3 E3 => ⟨e3, μ3, hlt, S3, (E'.trans Ey).trans E3, z⟩, fun v μ3 z x H3 S3 E3 d => z x H3 S3 (Et.trans E3) d, fun v e μ3 z cls d σ3 H3 S3 E3 r => z cls d σ3 H3 S3 (Et.trans E3) r⟩
    · have e : i = l.length := by omega
      subst e
      rw [List.drop_length] at lf'
      obtain ⟨hg, fin⟩ := lf'
      obtain ⟨_, stop⟩ := ok l.length Xc μ' H' S'.m dens hg
      exact .inl ⟨stop (Nat.le_refl _), fin σ' H' S' (E1.trans E')⟩
theorem ss_while (hΦ : MonoP Φ) {c : Expr} {body : List Stmt} {ec : E} {s : S} (hp : PassesOwn (model X.prog X.w) X.A X.env X.xe) (hc : ST X Φ W c ec) (hb : SB X Φ W body s) : SS X Φ W (.While c body [] pos) (.whileS ec s) :=
  PS.imp (ps_while hp hc hb) fun D σ H ⟨Xc, env, μ, S, q⟩ => by
    rw [wpS] at q
    obtain ⟨n, q⟩ := q
    refine ⟨fun m σ' H' => ∃ env' μ', SRel X.K Xc σ' H' env' μ' ∧ Ext μ H μ' H' ∧ loopW (fun env' μ' R => wpE Φ ec env' μ' (fun v μ1 => match truthV μ1 v with
      | some true => wpS Φ s env' μ1 { enOf X.K X.mg W Xc H μ D with nx := R }
      | some false => (enOf X.K X.mg W Xc H μ D).nx env' μ1
      | none => False) fun x μ1 => (enOf X.K X.mg W Xc H μ D).ex x env' μ1) m env' μ', ⟨n, env, μ, S, Ext.refl, q⟩, ?_⟩
    rintro m σ' H' ⟨env', μ', S', E', lw⟩
    cases m with
    | zero => exact lw.elim
    | succ m =>
      simp only [loopW] at lw
      refine ⟨Xc, env', μ', S', wpE_mono hΦ ec env' μ' _ _ _ _ (fun v μ1 f => ?_) (fun v μ1 z cls d H1 S1 E1 r => z cls d σ' H1 S1 (E'.trans E1) r) lw⟩
      unfold TPost
      cases hb : truthV μ1 v with
      | none => rw [hb] at f; exact f
      | some b =>
        rw [hb] at f
        intro H1 S1 E1
        cases b with
        | true =>
          refine iteT ⟨fun σ2 H2 => ∃ env2 μ2, SRel X.K Xc σ2 H2 env2 μ2 ∧ Ext μ H μ2 H2 ∧ loopW _ m env2 μ2, fun σ2 H2 w => ⟨m, Nat.lt_succ_self m, w⟩, Xc, env', μ1, S1, wpS_mono hΦ s env' μ1 _ _ ?_ f⟩
          have Et := E'.trans E1
          exact ⟨fun e3 μ3 z σ3 H3 S3 E3 => ⟨e3, μ3, S3, Et.trans E3, z⟩, fun v μ3 z x H3 S3 E3 d => z x H3 S3 (Et.trans E3) d, fun v e μ3 z cls d σ3 H3 S3 E3 r => z cls d σ3 H3 S3 (Et.trans E3) r⟩
        | false => exact iteF (f σ' H1 S1 (E'.trans E1))
theorem ss_ret (hΦ : MonoP Φ) {a : Expr} {e : E} (h : SE X Φ W a e) : SS X Φ W (.Return (some a) pos) (.ret e) :=
  PS.imp (ps_ret h) fun D σ H ⟨Xc, env, μ, S, q⟩ => by
    rw [wpS] at q
    exact useS hΦ S q fun v μ1 x H1 S1 E1 d f => f x H1 S1.m E1 d
/-- raise C('..') -/
theorem ss_raise {c : String} {C : Addr} {m : Str} {j : Nat} {p p2 p3 : Pos} {B newId initId : String} {bmB : List Value} (F : ExcBaseFacts B newId initId bmB) (q : PySem.W.excIn X.K C bmB newId = true) (gC : X.mg (Str.ofString c) = some (.ref C)) (kC : PySem.W.keepIn X.K (.ref C) = true) (r : Raises X (.ref C)) (hg : Gl X (Str.ofString c)) (ie : IsExc X.K X.mg c)
    (hc : X.calm = true) (tk : Takes X W) (hdb : (Str.ofString c == ("__debug__" : Str)) = false) : SS X Φ W (.Raise (some (.Call (.Name (Str.ofString c) p) [.Constant (.str m) j p2] [] p3)) none pos) (.raise c) :=
  PS.imp (ps_raise hc tk (pmk_own F q gC kC r hg hdb)) fun D σ H ⟨Xc, env, μ, S, q⟩ => by
    rw [wpS] at q
    exact q (.ref C) none σ H S Ext.refl ⟨c, rfl, gC, ie, rfl⟩
theorem at_monoP {Φ : Ph} {c : String} {a : Ad} (h : MonoP Φ) : MonoP (Φ.at c a) := h
/-- try: .. except C: .. -/
theorem ss_try1 (hΦ : MonoP Φ) {h : String} {c : Value} {body suite : List Stmt} {b₀ : Stmt} {np pos' : Pos} {s t : S} (hs : X.stack = X.env :: X.outer) (hf : X.env.frame = some X.env.locals) (hm : h ∈ excNames) (hc : X.mg (Str.ofString h) = some c) (hg : Gl X (Str.ofString h)) (hdb : (Str.ofString h == ("__debug__" : Str)) = false) (tk : Takes X W)
    (hb : ∀ (W' : WX) (pn : List (Addr × Obj)) (xe : Value → Shared → Prop), Takes (X.tr pn xe) W' → PassesOwn (model X.prog X.w) X.A X.env xe → SB (X.tr pn xe) Φ W' body s)
    (hsu : ∀ (a : Addr) (oe : Obj) (cls : Value) (d : Option Addr) (pn : List (Addr × Obj)), Zc cls d oe → (∃ vs, oe.data = .fields vs) → SB (X.suite a ((a, oe) :: pn)) Φ W (b₀ :: suite) t) :
    SS X Φ W (.Try body [.ExceptHandler (some (.Name (Str.ofString h) np)) none (b₀ :: suite) pos'] [] [] pos) (.tryS s [h] none t) :=
  PS.imp (ps_try_only (tb := fun W' => rdS X.K X.mg Φ W' s) (ts := fun _ _ _ => rdS X.K X.mg Φ W t) hs hf ⟨hg, hdb, .inl hc⟩ tk hb hsu) fun D σ H ⟨Xc, env, μ, S, q⟩ => by
    rw [wpS] at q
    refine ⟨Xc, env, μ, S, wpS_mono hΦ s env μ _ _ ?_ q⟩
    refine ⟨fun _ _ z => z, fun _ _ z => z, fun e env' μ' z cls d σ' H' S' E' r => ?_⟩
    obtain ⟨cn, rfl, hcl, ie, hdn⟩ := r
    have hx := ie.ex cls hcl h hm c hc
    refine ⟨isSub cn h, hx, fun hb a ha => ?_, fun hb => ?_⟩
    · have e1 : ([h].any fun d => isSub cn d) = true := by simp [hb]
      dsimp only at z
      rw [if_pos e1] at z
      refine ⟨Xc, env', μ', S', wpS_mono hΦ t env' μ' _ _ ?_ z⟩
      exact ⟨fun e3 μ3 z σ3 H3 S3 E3 => z σ3 H3 S3 (E'.trans E3), fun v μ3 z x H3 S3 E3 d => z x H3 S3 (E'.trans E3) d, fun v e μ3 z cls d σ3 H3 S3 E3 r => z cls d σ3 H3 S3 (E'.trans E3) r⟩
    · have e1 : ¬ ([h].any fun d => isSub cn d) = true := by simp [hb]
      dsimp only at z
      rw [if_neg e1] at z
      exact z cls d σ' H' S' E' ⟨cn, rfl, hcl, ie, hdn⟩
theorem SRel.setN {K : Fr} {Xc : Addr → Prop} {σ : List (Option V)} {H : Hp} {env : Env} {μ : Mu} (S : SRel K Xc σ H env μ) (i : Nat) : SRel K Xc (σ.set i none) H (env.set i none) μ where
  m := S.m
  slot := fun j v h => by
    by_cases e : i = j
    · subst e
      rw [List.getElem?_set] at h
      simp at h
    · rw [List.getElem?_set_ne e] at h ⊢
      exact S.slot j v h
  len := by rw [List.length_set, List.length_set]; exact S.len
/-- try: .. except C as n: .. -/
theorem ss_tryA (hΦ : MonoP Φ) {h : String} {c : Value} {i : Nat} {n : Str} {body suite : List Stmt} {b₀ : Stmt} {np pos' : Pos} {s t : S} (hs : X.stack = X.env :: X.outer) (hf : X.env.frame = some X.env.locals) (hN : X.N.Nodup) (hi : X.N[i]? = some n) (hln : X.env.kindOf n = some .local) (hm : h ∈ excNames) (hc : X.mg (Str.ofString h) = some c) (hg : Gl X (Str.ofString h)) (hdb : (Str.ofString h == ("__debug__" : Str)) = false) (tk : Takes X W)
    (hb : ∀ (W' : WX) (pn : List (Addr × Obj)) (xe : Value → Shared → Prop), Takes (X.tr pn xe) W' → PassesOwn (model X.prog X.w) X.A X.env xe → SB (X.tr pn xe) Φ W' body s)
    (hsu : ∀ (a : Addr) (oe : Obj) (cls : Value) (d : Option Addr) (pn : List (Addr × Obj)), Zc cls d oe → (∃ vs, oe.data = .fields vs) → ∀ cn : String, X.mg (Str.ofString cn) = some cls ∧ IsExc X.K X.mg cn ∧ d = none → SB (X.suite a ((a, oe) :: pn)) (Φ.at cn a) W (b₀ :: suite) t) :
    SS X Φ W (.Try body [.ExceptHandler (some (.Name (Str.ofString h) np)) (some n) (b₀ :: suite) pos'] [] [] pos) (.tryS s [h] (some i) t) :=
  PS.imp (ps_try_as (tb := fun W' => rdS X.K X.mg Φ W' s) (ts := fun a cls d D σ H => ∃ cn : String, (X.mg (Str.ofString cn) = some cls ∧ IsExc X.K X.mg cn ∧ d = none) ∧ rdS X.K X.mg (Φ.at cn a) W t D σ H) hs hf hN hi hln ⟨hg, hdb, .inl hc⟩ tk hb
    fun a oe cls d pn hz hv => ⟨fun pins s' σ H D I ⟨cn, h1, r⟩ => (hsu a oe cls d pn hz hv cn h1).run pins s' σ H D I r⟩) fun D σ H ⟨Xc, env, μ, S, q⟩ => by
    rw [wpS] at q
    refine ⟨Xc, env, μ, S, wpS_mono hΦ s env μ _ _ ?_ q⟩
    refine ⟨fun _ _ z => z, fun _ _ z => z, fun e env' μ' z cls d σ' H' S' E' r => ?_⟩
    obtain ⟨cn, rfl, hcl, ie, hdn⟩ := r
    have hx := ie.ex cls hcl h hm c hc
    refine ⟨isSub cn h, hx, fun hb a ha => ?_, fun hb => ?_⟩
    · have e1 : ([h].any fun d => isSub cn d) = true := by simp [hb]
      dsimp only at z
      rw [if_pos e1] at z
      have hμ : μ' a = none := by
        cases hz : μ' a with
        | none => rfl
        | some v =>
          obtain ⟨o, ho, _⟩ := S'.m.obj a v hz
          rw [ha] at ho; cases ho
      refine ⟨cn, ⟨hcl, ie, hdn⟩, Xc, env'.set i (some (.ref a)), μ', S'.set (v := .ref a) (x := .ref a) rfl, wpS_mono (at_monoP hΦ) t _ μ' _ _ ?_ (z a hμ)⟩
      exact ⟨fun e3 μ3 z σ3 H3 S3 E3 => z (σ3.set i none) H3 (S3.setN i) (E'.trans E3), fun v μ3 z x H3 S3 E3 d => z x H3 S3 (E'.trans E3) d, fun v e μ3 z cls d σ3 H3 S3 E3 r => z cls d σ3 H3 S3 (E'.trans E3) r⟩
    · have e1 : ¬ ([h].any fun d => isSub cn d) = true := by simp [hb]
      dsimp only at z
      rw [if_neg e1] at z
      exact z cls d σ' H' S' E' ⟨cn, rfl, hcl, ie, hdn⟩
end
end Mi
/-! Mi10b: instances of the program's own classes: fields, methods, making. -/
namespace Mi
open PySem PySem.Spec PyProof.Rows L2
theorem nat_inj' {a b : Char} (h : a.toNat = b.toNat) : a = b := Char.ext (UInt32.toNat_inj.mp h)
theorem nats_inj' : ∀ {l r : List Char}, l.map Char.toNat = r.map Char.toNat → l = r
  | [], [], _ => rfl
  | [], _ :: _, h => by cases h
  | _ :: _, [], h => by cases h
  | a :: l, b :: r, h => by
    rw [List.map_cons, List.map_cons] at h
    injection h with h1 h2
    rw [nat_inj' h1, nats_inj' h2]
theorem os_inj' {a b : String} (h : Str.ofString a = Str.ofString b) : a = b := by
  rw [PySem.Str.ofString_eq_toList, PySem.Str.ofString_eq_toList] at h
  injection h with h
  injection h with h
  exact String.toList_inj.mp (nats_inj' h)
/-! fields -/
theorem zip_lookup {f : String} {z : V} : ∀ {ns : List String} {xs : List V} {i : Nat}, ns.idxOf? f = some i → xs[i]? = some z → ((ns.map Str.ofString).zip xs).lookup (Str.ofString f) = some z
  | [], xs, i, h, _ => by cases h
  | n :: r, [], i, h, hz => by simp at hz
  | n :: r, y :: xs, i, h, hz => by
    rw [List.idxOf?_cons] at h
    rw [List.map_cons, List.zip_cons_cons, List.lookup_cons]
    by_cases e : n = f
    · subst e
      rw [if_pos (beq_self_eq_true _)] at h
      cases h
      rw [beq_self_eq_true]
      simpa using hz
    · have e2 : (n == f) = false := beq_eq_false_iff_ne.mpr e
      rw [if_neg (by rw [e2]; exact Bool.false_ne_true)] at h
      obtain ⟨j, hj, rfl⟩ := Option.map_eq_some_iff.mp h
      have e3 : (Str.ofString f == Str.ofString n) = false := beq_eq_false_iff_ne.mpr fun q => e (os_inj' q).symm
      rw [e3]
      exact zip_lookup hj (by simpa using hz)
theorem zip_lookup_no {f : String} : ∀ {ns : List String} {xs : List V}, f ∉ ns → ((ns.map Str.ofString).zip xs).lookup (Str.ofString f) = none
  | [], xs, _ => rfl
  | n :: r, [], _ => rfl
  | n :: r, y :: xs, h => by
    rw [List.map_cons, List.zip_cons_cons, List.lookup_cons]
    have e3 : (Str.ofString f == Str.ofString n) = false := beq_eq_false_iff_ne.mpr fun q => h (by rw [os_inj' q]; exact List.mem_cons_self)
    rw [e3]
    exact zip_lookup_no fun z => h (List.mem_cons_of_mem _ z)
theorem zip_put {f : String} {z : V} : ∀ {ns : List String} {xs : List V} {i : Nat}, ns.idxOf? f = some i → i < xs.length → putF (Str.ofString f) z ((ns.map Str.ofString).zip xs) = (ns.map Str.ofString).zip (xs.set i z)
  | [], xs, i, h, _ => by cases h
  | n :: r, [], i, h, hz => by simp at hz
  | n :: r, y :: xs, i, h, hz => by
    rw [List.idxOf?_cons] at h
    rw [List.map_cons, List.zip_cons_cons, putF]
    by_cases e : n = f
    · subst e
      rw [if_pos (beq_self_eq_true _)] at h
      cases h
      rw [if_pos rfl]
      rfl
    · have e2 : (n == f) = false := beq_eq_false_iff_ne.mpr e
      rw [if_neg (by rw [e2]; exact Bool.false_ne_true)] at h
      obtain ⟨j, hj, rfl⟩ := Option.map_eq_some_iff.mp h
      rw [if_neg fun q => e (os_inj' q), zip_put hj (by simpa using hz)]
      rfl
theorem zip_add {f : String} {z : V} : ∀ {ns : List String} {xs : List V}, ns.idxOf? f = some xs.length → putF (Str.ofString f) z ((ns.map Str.ofString).zip xs) = (ns.map Str.ofString).zip (xs ++ [z])
  | [], xs, h => by cases h
  | n :: r, [], h => by
    rw [List.idxOf?_cons] at h
    by_cases e : n = f
    · subst e
      show putF (Str.ofString n) z [] = _
      simp [putF]
    · have e2 : (n == f) = false := beq_eq_false_iff_ne.mpr e
      rw [if_neg (by rw [e2]; exact Bool.false_ne_true)] at h
      obtain ⟨j, hj, e4⟩ := Option.map_eq_some_iff.mp h
      simp at e4
  | n :: r, y :: xs, h => by
    rw [List.idxOf?_cons] at h
    by_cases e : n = f
    · subst e
      rw [if_pos (beq_self_eq_true _)] at h
      cases h
    · have e2 : (n == f) = false := beq_eq_false_iff_ne.mpr e
      rw [if_neg (by rw [e2]; exact Bool.false_ne_true)] at h
      obtain ⟨j, hj, e4⟩ := Option.map_eq_some_iff.mp h
      have e5 : j = xs.length := by simpa using e4
      subst e5
      rw [List.map_cons, List.zip_cons_cons, putF, if_neg fun q => e (os_inj' q), zip_add hj]
      rfl
/-- the classes' facts -/
structure ClsOk (K : Fr) : Prop where
  cls : ∀ c C, clsAt K c C → fieldsOf c ≠ [] → Cls K C
  no : ∀ c C f, clsAt K c C → f ∈ fieldsOf c → NoAttr K C (Str.ofString f)
theorem fIx_mem {c f : String} {i : Nat} (h : fIx c f = some i) : f ∈ fieldsOf c := by
  unfold fIx at h
  exact List.isSome_idxOf?.mp (by rw [h]; rfl)
section
variable {X : Cx} {Φ : Ph} {W : WX} {a o : Expr} {ea eo : E} {pos apos : Pos}
theorem se_attr (hΦ : MonoP Φ) (F : ClsOk X.K) {f : String} (ha : SE X Φ W a ea) (hb : attributeBase a (Str.ofString f) X.env (eval a X.env) = eval a X.env := by rfl) : SE X Φ W (.Attribute a (Str.ofString f) pos) (.attr ea f) := by
  refine PE.imp (pe_fld ha hb) fun σ H Q ⟨Xc, env, μ, S, q⟩ => ?_
  simp only [wpE] at q
  refine use hΦ S Ext.refl q fun v μ1 x H1 S1 E1 E1' d q1 => ?_
  split at q1
  · rename_i r hr
    unfold attrV at hr
    split at hr
    · rename_i b
      split at hr
      · rename_i c l hc
        obtain ⟨i, hi, hl⟩ := Option.bind_eq_some_iff.mp hr
        obtain ⟨u, hu, C, dx, xs, rfl, hcl, dl⟩ := S1.m.obj b _ hc
        obtain ⟨z, hz, dz⟩ := dl.get hl
        have hm := fIx_mem hi
        exact ⟨b, C, dx, _, z, d, hu, F.cls c C hcl (List.ne_nil_of_mem hm), F.no c C f hcl hm, zip_lookup hi hz, q1 z H1 S1 E1' dz⟩
      · cases hr
    · cases hr
  · exact q1.elim
theorem ss_setattr (hΦ : MonoP Φ) (F : ClsOk X.K) {f : String} {v : Expr} {ev : E} {pos' : Pos} (ho : SE X Φ W o eo) (hv : SE X Φ W v ev) (hs : swapsWith v (some (.Attribute o (Str.ofString f) pos')) pos.line X.env = pure false := by rfl) : SS X Φ W (.Assign [.Attribute o (Str.ofString f) pos'] v pos) (.setattr eo f ev) :=
  PS.imp (ps_fld ho hv hs) fun D σ H ⟨Xc, env, μ, S, q⟩ => by
    rw [wpS] at q
    have x2 : ∀ (v : Val) (μ' : Mu), (enOf X.K X.mg W Xc H μ D).ex v env μ' → XPost X.K X.mg W Xc σ H env μ v μ' := fun _ _ z => ex_x z
    refine use hΦ S Ext.refl (wpE_mono hΦ ev env μ _ _ _ _ (fun _ _ z => z) x2 q) fun v μ1 y H1 S1 E1 E1' d q1 => ?_
    refine use hΦ S1 E1' (wpE_mono hΦ eo env μ1 _ _ _ _ (fun _ _ z => z) x2 q1) fun ov μ2 x H2 S2 E2 E2' d2 q2 => ?_
    split at q2
    · rename_i μ3 hm
      unfold setAttrV at hm
      split at hm
      · rename_i b
        split at hm
        · rename_i c l hc
          obtain ⟨i, hi, hl⟩ := Option.bind_eq_some_iff.mp hm
          obtain ⟨u, hu, C, dx, xs, rfl, hcl, dl⟩ := S2.m.obj b _ hc
          have hmem := fIx_mem hi
          have dy := d.ext E2
          have len : (flds c xs).length < 1000 := by
            unfold flds
            rw [List.length_zip, List.length_map]
            have : (fieldsOf c).length < 1000 := by unfold fieldsOf; split <;> decide
            omega
          have go : ∀ (l' : List Val) (xs' : List V), DenL X.K (Dn Xc μ2) H2 l' xs' → putF (Str.ofString f) y (flds c xs) = flds c xs' → μ3 = μ2.set b (.ins c l') → ∃ a C dx fs, x = .ref a ∧ H2 a = some (.ins C dx fs) ∧ Cls X.K C ∧ NoAttr X.K C (Str.ofString f) ∧ fs.length < 1000 ∧ D.nx σ (upd H2 a (.ins C dx (putF (Str.ofString f) y fs))) := fun l' xs' dl' e1 e2 => by
            refine ⟨b, C, dx, _, d2, hu, F.cls c C hcl (List.ne_nil_of_mem hmem), F.no c C f hcl hmem, len, ?_⟩
            subst e2
            rw [e1]
            have r' : CRel X.K (Dn Xc μ2) H2 (.ins c l') (.ins C dx (flds c xs')) := ⟨C, dx, xs', rfl, hcl, dl'⟩
            exact q2 σ _ (S2.put hc r') (E2'.trans (Ext.put hc))
          split at hl
          · rename_i hlt
            cases hl
            exact go _ _ (dl.set i dy) (zip_put hi (by rw [← dl.length]; exact hlt)) rfl
          · split at hl
            · rename_i hlen
              cases hl
              exact go _ _ (dl.append (show DenL X.K (Dn Xc μ2) H2 [v] [y] from ⟨y, [], rfl, dy, rfl⟩)) (zip_add (by rw [← dl.length, ← hlen]; exact hi)) rfl
            · cases hl
        · cases hm
      · cases hm
    · exact q2.elim
end
end Mi
/-! Mi10c: methods called, instances made. -/
namespace Mi
open PySem PySem.Spec PyProof.Rows L2
section
variable {X : Cx} {CX : CXT} {k : Nat} {f C : Addr} {fd : FuncData} {ps : List Str} {sp : Sp} {WX' : L2.St → XK} {x m : Str} {p pos apos : Pos} {e o : Expr} {es : List Expr} {to : TE} {t : TA}
/-- o.m(..), what is raised told by the slots -/
def tMthS (C : Addr) (m : Str) (sp : Sp) (WX' : L2.St → XK) (to : TE) (t : TA) : TE := fun σ H Q => to σ H fun y H1 => ∃ a dx fs, y = .ref a ∧ H1 a = some (.ins C dx fs) ∧ fs.lookup m = none ∧ t σ H1 fun vs H2 => sp (y :: vs) H2 Q (WX' σ)
theorem pe_mthS {late : Sem Bool} (ho : PE X o to) (c : Cls X.K C) (hm : Meth X.K C m f) (F : FnOk X.prog X.w X.K X.mg X.base CX k f fd ps sp) (room : Room k X.A) (hb : Binds X.K fd ps []) (hx : ∀ σ, PassesAt CX X σ (WX' σ)) (ha : PA X (e :: es) t)
    (hst : starEach (e :: es) X.env = (false, eval e X.env) :: starEach es X.env := by rfl) (hpl : (backTo pos (starEach es X.env)).any (·.1) = false := by rfl)
    (look : eval (.Call (.Attribute o m apos) (e :: es) [] pos) X.env = (do
      let ov ← eval o X.env
      standAt apos.atName
      let (g, one) ← holding [ov] (getMethod ov m late)
      callWith pos g one (backTo pos (starEach (e :: es) X.env)) (backToKw pos (keywordEach [] X.env))) := by rfl) :
    PE X (.Call (.Attribute o m apos) (e :: es) [] pos) (tMthS C m sp WX' to t) := by
  refine ⟨fun pins s σ H Q I q0 => ?_⟩
  refine PySem.W.methodCall_KW (pl := late) (thn (ho.run pins s σ H _ I q0) fun u s1 ⟨y, H1, I1, ru, a, dx, fs, ey, ea, l, q⟩ => ?_) look
  subst ey
  obtain rfl : u = Value.ref a := ru
  refine getmeth_ok I1 ea c hm l ?_
  refine PySem.W.callWith_K (first := [.ref a]) (h₀ := X.base) I.ok.mod.kin hm.kp (thn (ha.run pos pins s1 σ H1 _ I1 q) fun us s2 ⟨ys, H2, I2, r, q2⟩ => ⟨I2.kIn, ?_⟩) hst hpl
  exact run_fnS (us := .ref a :: us) (vs := .ref a :: ys) F room hb (hx σ) I2 (.cons rfl r) q2
theorem pe_mthS0 {late : Sem Bool} (ho : PE X o to) (c : Cls X.K C) (hm : Meth X.K C m f) (F : FnOk X.prog X.w X.K X.mg X.base CX k f fd ps sp) (room : Room k X.A) (hb : Binds X.K fd ps []) (hx : ∀ σ, PassesAt CX X σ (WX' σ))
    (look : eval (.Call (.Attribute o m apos) [] [] pos) X.env = (do
      let ov ← eval o X.env
      standAt apos.atName
      let (g, one) ← holding [ov] (getMethod ov m late)
      callWith pos g one (backTo pos (starEach [] X.env)) (backToKw pos (keywordEach [] X.env))) := by rfl) :
    PE X (.Call (.Attribute o m apos) [] [] pos) (tMthS C m sp WX' to tNil) := by
  refine ⟨fun pins s σ H Q I q0 => ?_⟩
  refine PySem.W.methodCall_KW (pl := late) (thn (ho.run pins s σ H _ I q0) fun u s1 ⟨y, H1, I1, ru, a, dx, fs, ey, ea, l, q⟩ => ?_) look
  subst ey
  obtain rfl : u = Value.ref a := ru
  refine getmeth_ok I1 ea c hm l ?_
  exact PySem.W.callWith_K0 (first := [.ref a]) I1.kIn hm.kp (run_fnS (us := [.ref a]) (vs := [.ref a]) F room hb (hx σ) I1 (.cons rfl .nil) q)
/-- C(..) -/
def tMkS (C : Addr) (sp : Sp) (WX' : L2.St → XK) (t : TA) : TE := fun σ H Q => t σ H fun vs H1 => ∀ y dx, H1 y = none → H1 dx = none → dx ≠ y → sp (.ref y :: vs) (upd (upd H1 dx (.own y)) y (.ins C dx [])) (fun v H2 => v = .non ∧ Q (.ref y) H2) (WX' σ)
theorem run_mkS {pins : List (Addr × Obj)} {σ : L2.St} {H : Hp} {s : Shared} {Q : VK} {us : List Value} {vs : List V} (M : Mk X.K C f) (F : FnOk X.prog X.w X.K X.mg X.base CX k f fd ps sp) (room : Room (k + 1) X.A) (hb : Binds X.K fd ps []) (hx : PassesAt CX X σ (WX' σ)) (I : Inv X pins σ H s) (r : Vals vs us)
    (q0 : ∀ y dx, H y = none → H dx = none → dx ≠ y → sp (.ref y :: vs) (upd (upd H dx (.own y)) y (.ins C dx [])) (fun v H2 => v = .non ∧ Q (.ref y) H2) (WX' σ)) : wpAny (model X.prog X.w) X.A (call (.ref C) us) (EP X pins σ Q) X.xe s := by
  have q1 := q0 (s.heap.objs.size + 1) s.heap.objs.size (I.hok.fresh (Nat.le_succ _)) (I.hok.fresh (Nat.le_refl _)) (Nat.ne_of_lt (Nat.lt_succ_self _))
  have J := Inv.made (C := C) I
  have r2 : Vals (V.ref (s.heap.objs.size + 1) :: vs) (Value.ref (s.heap.objs.size + 1) :: us) := .cons rfl r
  have len : (Value.ref (s.heap.objs.size + 1) :: us).length = ps.length := by
    have e2 := r2.length
    rw [F.len _ _ _ _ q1] at e2
    exact e2.symm
  have b := hb _ (Value.ref (s.heap.objs.size + 1) :: us) J.kIn (by rw [List.append_nil]; exact len)
  rw [List.append_nil] at b
  refine wpAny_call (make_map (f := f) I.kIn M.makes M.init (beq_iff_eq.mp M.fn) (codeAny_mono (F.run _ X.stack _ _ ⟨Value.ref (s.heap.objs.size + 1) :: us, []⟩ _ _ _ (WX' σ) (room.make C us []) (J.env0.make C us []) b r2 q1) fun z u hz => ?_))
  cases z with
  | error e' => exact hx pins _ _ e' u J hz
  | ok fl =>
    cases fl with
    | ret w =>
      obtain ⟨v, H', J2, rv, ev, q3⟩ := J.after hz
      subst ev
      exact ⟨rv, ⟨V.ref (s.heap.objs.size + 1), H', J2, rfl, q3⟩⟩
    | next => exact hz.elim
    | brk => exact hz.elim
    | cont => exact hz.elim
theorem pe_mkS (M : Mk X.K C f) (F : FnOk X.prog X.w X.K X.mg X.base CX k f fd ps sp) (room : Room (k + 1) X.A) (hg : Gl X x) (hm : X.mg x = some (.ref C)) (hb : Binds X.K fd ps []) (hx : ∀ σ, PassesAt CX X σ (WX' σ)) (ha : PA X (e :: es) t) (hdb : (x == ("__debug__" : Str)) = false)
    (he : starEach (e :: es) X.env = (false, eval e X.env) :: starEach es X.env := by rfl) (hpl : (backTo pos (starEach es X.env)).any (·.1) = false := by rfl) : PE X (.Call (.Name x p) (e :: es) [] pos) (tMkS C sp WX' t) := by
  refine ⟨fun pins s σ H Q I q0 => ?_⟩
  refine wpAny_Call_Name_kw (ld_glob I hg hm ?_ hdb)
  refine PySem.W.callWith_K (h₀ := X.base) I.ok.mod.kin M.kp (thn (ha.run pos pins s σ H _ I q0) fun us s1 ⟨ys, H1, I1, r, q⟩ => ⟨I1.kIn, ?_⟩) he hpl
  exact run_mkS M F room hb (hx σ) I1 r q
end
/-! the language's side -/
/-- the method m of the class c promises the language's run of f -/
def MtT (P : Program) (w : World) (K : Fr) (mg : Str → Option Value) (base : Heap) (Φ : Ph) (k : Nat) (c m f : String) : Prop :=
  ∃ (C a : Addr) (fd : FuncData) (ps : List Str), clsAt K c C ∧ Meth K C (Str.ofString m) a ∧ Binds K fd ps [] ∧ FnOk P w K mg base (L2.CX P w) k a fd ps (spP K mg Φ f)
/-- __init__ of the class c -/
def MkT (P : Program) (w : World) (K : Fr) (mg : Str → Option Value) (base : Heap) (Φ : Ph) (k : Nat) (c f : String) : Prop :=
  ∃ (C a : Addr) (fd : FuncData) (ps : List Str), clsAt K c C ∧ mg (Str.ofString c) = some (.ref C) ∧ Mk K C a ∧ Binds K fd ps [] ∧ FnOk P w K mg base (L2.CX P w) k a fd ps (spP K mg Φ f)
theorem clsAt_one {K : Fr} {c : String} {C C' : Addr} (h : clsAt K c C) (h' : clsAt K c C') : C = C' := by
  unfold clsAt at h h'
  rw [h] at h'
  injection h' with h1
  injection h1 with h2
  injection h2
section
variable {X : Cx} {Φ : Ph} {W : WX} {o e : Expr} {es : List Expr} {eo : E} {l : Es} {pos apos p : Pos} {k : Nat} {c f m : String} {md : Md}
theorem mth_read (hΦ : MonoP Φ) {C a : Addr} (hc : clsAt X.K c C) (hno : m ∉ fieldsOf c) {σ : List (Option V)} {H : Hp} {Q : VK} (h : rdE X.K X.mg Φ W (.mth c eo f md l) σ H Q) : tMthS C (Str.ofString m) (spP X.K X.mg Φ f) (WE W) (rdE X.K X.mg Φ W eo) (rdA X.K X.mg Φ W l) σ H Q := by
  obtain ⟨Xc, env, μ, S, q⟩ := h
  simp only [wpE] at q
  refine use hΦ S Ext.refl q fun v μ1 x H1 S1 E1 E1' d q1 => ?_
  obtain ⟨hi, q2⟩ := q1
  unfold isIns at hi
  split at hi
  · rename_i b
    split at hi
    · rename_i c' l' hb
      have : c' = c := by simpa using hi
      subst this
      obtain ⟨u, hu, C', dx, xs, rfl, hcl, dl⟩ := S1.m.obj b _ hb
      have e := clsAt_one hc hcl
      subst e
      refine ⟨b, dx, _, d, hu, zip_lookup_no hno, ?_⟩
      refine useA hΦ S1 E1' q2 fun vs μ2 ys H2 S2 E2 E2' dl2 q3 => ⟨Xc, μ2, md, .ref b :: vs, S2.m, ⟨x, ys, rfl, d, dl2⟩, ?_⟩
      exact hΦ _ _ _ _ _ _ _ _ (fun v μ3 z y H3 m3 E3 d3 => z y H3 (S2.of_ext m3 E3) (E2'.trans E3) d3) (fun v μ3 z cls d' H3 m3 E3 r => z cls d' H3 (S2.of_ext m3 E3) (E2'.trans E3) r) q3
    · cases hi
  · cases hi
theorem se_mth (hΦ : MonoP Φ) (F : ClsOk X.K) (T : MtT X.prog X.w X.K X.mg X.base Φ k c m f) (hne : fieldsOf c ≠ []) (hno : m ∉ fieldsOf c) (hr : Room k X.A) (tk : Takes X W) (ho : SE X Φ W o eo) (ha : SA X Φ W (e :: es) l) {late : Sem Bool}
    (hst : starEach (e :: es) X.env = (false, eval e X.env) :: starEach es X.env := by rfl) (hpl : (backTo pos (starEach es X.env)).any (·.1) = false := by rfl)
    (look : eval (.Call (.Attribute o (Str.ofString m) apos) (e :: es) [] pos) X.env = (do
      let ov ← eval o X.env
      standAt apos.atName
      let (g, one) ← holding [ov] (getMethod ov (Str.ofString m) late)
      callWith pos g one (backTo pos (starEach (e :: es) X.env)) (backToKw pos (keywordEach [] X.env))) := by rfl) : SE X Φ W (.Call (.Attribute o (Str.ofString m) apos) (e :: es) [] pos) (.mth c eo f md l) := by
  obtain ⟨C, a, fd, ps, h1, h2, h3, h4⟩ := T
  exact PE.imp (pe_mthS (WX' := WE W) ho (F.cls c C h1 hne) h2 h4 hr h3 (fun σ => passAt tk σ) ha hst hpl look) fun σ H Q h => mth_read (a := a) hΦ h1 hno h
theorem mth_read0 (hΦ : MonoP Φ) {C : Addr} (hc : clsAt X.K c C) (hno : m ∉ fieldsOf c) {σ : List (Option V)} {H : Hp} {Q : VK} (h : rdE X.K X.mg Φ W (.mth c eo f md .nil) σ H Q) : tMthS C (Str.ofString m) (spP X.K X.mg Φ f) (WE W) (rdE X.K X.mg Φ W eo) tNil σ H Q := by
  obtain ⟨Xc, env, μ, S, q⟩ := h
  simp only [wpE] at q
  refine use hΦ S Ext.refl q fun v μ1 x H1 S1 E1 E1' d q1 => ?_
  obtain ⟨hi, q2⟩ := q1
  rw [wpEs] at q2
  unfold isIns at hi
  split at hi
  · rename_i b
    split at hi
    · rename_i c' l' hb
      have : c' = c := by simpa using hi
      subst this
      obtain ⟨u, hu, C', dx, xs, rfl, hcl, dl⟩ := S1.m.obj b _ hb
      have e := clsAt_one hc hcl
      subst e
      refine ⟨b, dx, _, d, hu, zip_lookup_no hno, ?_⟩
      refine ⟨Xc, μ1, md, [.ref b], S1.m, ⟨x, [], rfl, d, rfl⟩, ?_⟩
      exact hΦ _ _ _ _ _ _ _ _ (fun v μ3 z y H3 m3 E3 d3 => z y H3 (S1.of_ext m3 E3) (E1'.trans E3) d3) (fun v μ3 z cls d' H3 m3 E3 r => z cls d' H3 (S1.of_ext m3 E3) (E1'.trans E3) r) q2
    · cases hi
  · cases hi
theorem se_mth0 (hΦ : MonoP Φ) (F : ClsOk X.K) (T : MtT X.prog X.w X.K X.mg X.base Φ k c m f) (hne : fieldsOf c ≠ []) (hno : m ∉ fieldsOf c) (hr : Room k X.A) (tk : Takes X W) (ho : SE X Φ W o eo) {late : Sem Bool}
    (look : eval (.Call (.Attribute o (Str.ofString m) apos) [] [] pos) X.env = (do
      let ov ← eval o X.env
      standAt apos.atName
      let (g, one) ← holding [ov] (getMethod ov (Str.ofString m) late)
      callWith pos g one (backTo pos (starEach [] X.env)) (backToKw pos (keywordEach [] X.env))) := by rfl) : SE X Φ W (.Call (.Attribute o (Str.ofString m) apos) [] [] pos) (.mth c eo f md .nil) := by
  obtain ⟨C, a, fd, ps, h1, h2, h3, h4⟩ := T
  exact PE.imp (pe_mthS0 (WX' := WE W) ho (F.cls c C h1 hne) h2 h4 hr h3 (fun σ => passAt tk σ) look) fun σ H Q h => mth_read0 hΦ h1 hno h
theorem se_mk (hΦ : MonoP Φ) (T : MkT X.prog X.w X.K X.mg X.base Φ k c f) (hr : Room (k + 1) X.A) (tk : Takes X W) (hg : Gl X (Str.ofString c)) (ha : SA X Φ W (e :: es) l) (hdb : (Str.ofString c == ("__debug__" : Str)) = false)
    (he : starEach (e :: es) X.env = (false, eval e X.env) :: starEach es X.env := by rfl) (hpl : (backTo pos (starEach es X.env)).any (·.1) = false := by rfl) : SE X Φ W (.Call (.Name (Str.ofString c) p) (e :: es) [] pos) (.mk c f l) := by
  obtain ⟨C, a, fd, ps, h1, h2, h3, h4, h5⟩ := T
  refine PE.imp (pe_mkS (WX' := WE W) h3 h5 hr hg h2 h4 (fun σ => passAt tk σ) ha hdb he hpl) fun σ H Q ⟨Xc, env, μ, S, q⟩ => ?_
  simp only [wpE] at q
  refine useA hΦ S Ext.refl q fun vs μ1 xs H1 S1 E1 E1' d q1 => ?_
  intro y dx hy hdx hne
  have S2 : SRel X.K Xc σ (upd H1 dx (.own y)) env μ1 := S1.laid hdx
  have hy2 : (upd H1 dx (.own y)) y = none := by rw [upd_ne (Ne.symm hne)]; exact hy
  have E2 : Ext μ1 H1 μ1 (upd H1 dx (.own y)) := Ext.laid hdx
  have r : CRel X.K (Dn Xc μ1) (upd H1 dx (.own y)) (.ins c []) (.ins C dx []) := ⟨C, dx, [], by unfold flds; rw [List.zip_nil_right], h1, rfl⟩
  have S3 := S2.laidM hy2 r
  have E3 : Ext μ1 H1 (μ1.set y (.ins c [])) (upd (upd H1 dx (.own y)) y (.ins C dx [])) := E2.trans (Ext.laidM hy2)
  have hμ : μ1 y = none := by
    cases hz : μ1 y with
    | none => rfl
    | some v =>
      obtain ⟨o, ho, _⟩ := S1.m.obj y v hz
      rw [hy] at ho; cases ho
  refine ⟨Xc, μ1.set y (.ins c []), .keep, .ref y :: vs, S3.m, ⟨.ref y, xs, rfl, rfl, DenL.ext E3 _ _ d⟩, ?_⟩
  refine hΦ _ _ _ _ _ _ _ _ (fun v μ2 z x H2 m2 E4 d2 => ?_) (fun v μ2 z cls d' H2 m2 E4 r => z cls d' H2 (S3.of_ext m2 E4) ((E1'.trans E3).trans E4) r) (q1 y hμ)
  split at z
  · exact ⟨d2, z (.ref y) H2 (S3.of_ext m2 E4) ((E1'.trans E3).trans E4) rfl⟩
  · exact z.elim
end
end Mi
/-! Mi10d: a, b(, c) = x, y(, z): stored from the right. -/
namespace Mi
open PySem PySem.Spec PyProof.Rows L2
section
variable {X : Cx} {pos : Pos}
/-- three at once -/
def tPar3 (i j k : Nat) (ta : TA) : TS := fun D σ H => ta σ H fun vs H1 => ∃ u v w, vs = [u, v, w] ∧ D.nx (((σ.set i (some u)).set j (some v)).set k (some w)) H1
theorem ps_par3 {i j k : Nat} {x y z : Str} {a b c : Expr} {ta : TA} {px py pz pt : Pos} {kt k2 pt2} (hc : X.calm = true) (hN : X.N.Nodup) (hi : X.N[i]? = some x) (hj : X.N[j]? = some y) (hk : X.N[k]? = some z) (hij : i ≠ j) (hik : i ≠ k) (hjk : j ≠ k)
    (hx : X.env.scope.names.lookup x = some .local) (hy : X.env.scope.names.lookup y = some .local) (hz : X.env.scope.names.lookup z = some .local) (ha : PA X [a, b, c] ta)
    (hw : swappedStores [.Tuple [.Name x px, .Name y py, .Name z pz] kt pt] (.Tuple [a, b, c] k2 pt2) X.env = pure (some [x, y, z]))
    (hs : swapsWithSole [.Tuple [.Name x px, .Name y py, .Name z pz] kt pt] (.Tuple [a, b, c] k2 pt2) pos.line X.env = pure false := by rfl) :
    PS X (.Assign [.Tuple [.Name x px, .Name y py, .Name z pz] kt pt] (.Tuple [a, b, c] k2 pt2) pos) (tPar3 i j k ta) := by
  refine ⟨fun pins s σ H D I h => ?_⟩
  rw [exec_Assign_arm]
  refine wpAny_bind (wpAny_standAt ?_); rw [hs]; refine wpAny_bind (wpAny_pure ?_); rw [if_neg (by decide)]
  refine wpAny_bind (Tuple_ (thn (ha.run _ pins s σ H _ I h) fun us s1 ⟨vs, H1, I1, r1, u0, v0, w0, ev, q1⟩ => ?_))
  subst ev
  obtain ⟨u, v, w, rfl, ru, rv, rw'⟩ : ∃ u v w, us = [u, v, w] ∧ RelV u0 u ∧ RelV v0 v ∧ RelV w0 w := by
    rcases r1 with _ | ⟨g1, _ | ⟨g2, _ | ⟨g3, _ | _⟩⟩⟩
    exact ⟨_, _, _, rfl, g1, g2, g3⟩
  refine wpAny_newObj_type ?_ (by show 3 ≤ sizeLine; decide)
  have I2 : Inv X pins σ H1 { s1 with heap := s1.heap.push { cls := .type "tuple", data := .seq [u, v, w].toArray } } := I1.kept (t' := s1.toks) fun b o e => Heap.get?_push_of_some _ e
  rw [hw]; refine wpAny_bind (wpAny_pure ?_)
  show wpAny (model X.prog X.w) X.A (do rule "assign.swapped-stores"; let items ← unpackItems (.ref s1.heap.objs.size) 3 none; assignInOrder [fun v => bindName X.env z v, fun v => bindName X.env y v, fun v => bindName X.env x v] items.reverse; pure Flow.next) _ _ _
  refine wpAny_bind (wpAny_rule (wpAny_bind (unpackItems_tuple (items := #[u, v, w]) (I.ok.hd hc) (IsTup.new s1.heap _) fun h' hx' => ?_)))
  have I3 := I2.kept (h' := h') (t' := s1.toks) fun b o e => hx' b o (Nat.ne_of_lt (Heap.lt_size e)) e
  show wpAny _ _ (assignInOrder [fun v => bindName X.env z v, fun v => bindName X.env y v, fun v => bindName X.env x v] [w, v, u] >>= fun _ => pure Flow.next) _ _ _
  refine wpAny_bind (assignInOrder_cons (wpAny_bindName (store_ok I3 hN hk (.inl hz) rw' (fun s2 I4 => ?_) (.inr hz))))
  refine assignInOrder_cons (wpAny_bindName (store_ok I4 hN hj (.inl hy) rv (fun s3 I5 => ?_) (.inr hy)))
  refine assignInOrder_cons (wpAny_bindName (store_ok I5 hN hi (.inl hx) ru (fun s4 I6 => assignInOrder_nil (wpAny_pure ?_)) (.inr hx)))
  have e : ((σ.set k (some w0)).set j (some v0)).set i (some u0) = ((σ.set i (some u0)).set j (some v0)).set k (some w0) := by
    rw [List.set_comm _ _ (Ne.symm hij), List.set_comm _ _ (Ne.symm hik), List.set_comm _ _ (Ne.symm hjk)]
  rw [e] at I6
  exact ⟨_, H1, I6, q1⟩
variable {Φ : Ph} {W : WX}
theorem ss_par3 (hΦ : MonoP Φ) {i j k : Nat} {x y z : Str} {a b c : Expr} {l : Es} {px py pz pt : Pos} {kt k2 pt2} (hc : X.calm = true) (hN : X.N.Nodup) (hi : X.N[i]? = some x) (hj : X.N[j]? = some y) (hk : X.N[k]? = some z) (hij : i ≠ j) (hik : i ≠ k) (hjk : j ≠ k)
    (hx : X.env.scope.names.lookup x = some .local) (hy : X.env.scope.names.lookup y = some .local) (hz : X.env.scope.names.lookup z = some .local) (ha : SA X Φ W [a, b, c] l)
    (hw : swappedStores [.Tuple [.Name x px, .Name y py, .Name z pz] kt pt] (.Tuple [a, b, c] k2 pt2) X.env = pure (some [x, y, z]))
    (hs : swapsWithSole [.Tuple [.Name x px, .Name y py, .Name z pz] kt pt] (.Tuple [a, b, c] k2 pt2) pos.line X.env = pure false := by rfl) :
    SS X Φ W (.Assign [.Tuple [.Name x px, .Name y py, .Name z pz] kt pt] (.Tuple [a, b, c] k2 pt2) pos) (.asgT (.t [.n i, .n j, .n k]) (.tup l)) :=
  PS.imp (ps_par3 hc hN hi hj hk hij hik hjk hx hy hz ha hw hs) fun D σ H ⟨Xc, env, μ, S, q⟩ => by
    simp only [wpS, wpE] at q
    have q' : wpEs Φ l env μ (fun vs μ' => ∃ env', (Tg.t [.n i, .n j, .n k]).asg (.tup vs) env = some env' ∧ (enOf X.K X.mg W Xc H μ D).nx env' μ') (XPost X.K X.mg W Xc σ H env μ) := by
      refine wpEs_mono hΦ l env μ _ _ _ _ (fun vs μ' z => ?_) (fun _ _ z => ex_x z) q
      split at z
      · rename_i env' he
        exact ⟨env', he, z⟩
      · exact z.elim
    refine useA hΦ S Ext.refl q' fun vs μ1 xs H1 S1 E1 E1' d ⟨env', he, f⟩ => ?_
    simp only [Tg.asg] at he
    split at he
    · rename_i hl
      match vs, hl, d, he with
      | [v1, v2, v3], _, ⟨x1, t1, e1, d1, x2, t2, e2, d2, x3, t3, e3, d3, e4⟩, he =>
        subst e1
        subst e2
        subst e3
        have e4' : t3 = [] := e4
        subst e4'
        simp only [asgL, Tg.asg, Option.bind_some, Option.some.injEq] at he
        subst he
        exact ⟨x1, x2, x3, rfl, f _ H1 (((S1.set d1).set d2).set d3) E1'⟩
    · cases he
/-- two at once -/
theorem ss_par2 (hΦ : MonoP Φ) {i j : Nat} {x y : Str} {a b : Expr} {l : Es} {px py pt : Pos} {kt k2 pt2} (hc : X.calm = true) (hN : X.N.Nodup) (hi : X.N[i]? = some x) (hj : X.N[j]? = some y) (hij : i ≠ j)
    (hx : X.env.scope.names.lookup x = some .local) (hy : X.env.scope.names.lookup y = some .local) (ha : SA X Φ W [a, b] l)
    (hw : swappedStores [.Tuple [.Name x px, .Name y py] kt pt] (.Tuple [a, b] k2 pt2) X.env = pure (some [x, y]))
    (hs : swapsWithSole [.Tuple [.Name x px, .Name y py] kt pt] (.Tuple [a, b] k2 pt2) pos.line X.env = pure false := by rfl) :
    SS X Φ W (.Assign [.Tuple [.Name x px, .Name y py] kt pt] (.Tuple [a, b] k2 pt2) pos) (.asgT (.t [.n i, .n j]) (.tup l)) :=
  PS.imp (ps_par hc hN hi hj hij hx hy ha hw hs) fun D σ H ⟨Xc, env, μ, S, q⟩ => by
    simp only [wpS, wpE] at q
    have q' : wpEs Φ l env μ (fun vs μ' => ∃ env', (Tg.t [.n i, .n j]).asg (.tup vs) env = some env' ∧ (enOf X.K X.mg W Xc H μ D).nx env' μ') (XPost X.K X.mg W Xc σ H env μ) := by
      refine wpEs_mono hΦ l env μ _ _ _ _ (fun vs μ' z => ?_) (fun _ _ z => ex_x z) q
      split at z
      · rename_i env' he
        exact ⟨env', he, z⟩
      · exact z.elim
    refine useA hΦ S Ext.refl q' fun vs μ1 xs H1 S1 E1 E1' d ⟨env', he, f⟩ => ?_
    simp only [Tg.asg] at he
    split at he
    · rename_i hl
      match vs, hl, d, he with
      | [v1, v2], _, ⟨x1, t1, e1, d1, x2, t2, e2, d2, e4⟩, he =>
        subst e1
        subst e2
        have e4' : t2 = [] := e4
        subst e4'
        simp only [asgL, Tg.asg, Option.bind_some, Option.some.injEq] at he
        subst he
        exact ⟨x1, x2, rfl, f _ H1 ((S1.set d1).set d2) E1'⟩
    · cases he
end
end Mi
/-! Mi11: a def keeps the promise that the language's run of it makes. -/
namespace Mi
open PySem PySem.Spec PyProof.Rows L2

section
variable {K : Fr} {D D2 : Addr → Prop} {H : Hp}
mutual
/-- what is told by fewer things that may change -/
theorem Den.map (f : Ad → Option Val) (hD : ∀ a, D2 a → D a) (hf : ∀ a w x, f a = some w → Den K D H (.ref a) x → Den K D2 H w x) : ∀ (v : Val) (x : V), Den K D H v x → Den K D2 H (mapRef f v) x
  | .non, x, h => h
  | .bl _, x, h => h
  | .int _, x, h => h
  | .str _, x, h => h
  | .exn _ _, x, h => h
  | .ins c l, x, ⟨a, C, dx, xs, e1, n, r, hc, hl⟩ => ⟨a, C, dx, xs, e1, fun z => n (hD a z), r, hc, DenL.map f hD hf l xs hl⟩
  | .ref a, x, h => by
    simp only [mapRef]
    cases e : f a with
    | none => exact h
    | some w => exact hf a w x e h
  | .tup l, x, ⟨a, xs, e1, h, hl⟩ => ⟨a, xs, e1, h.imp (fun ⟨n, r⟩ => ⟨fun z => n (hD a z), r⟩) id, DenL.map f hD hf l xs hl⟩
  | .lst l, x, ⟨a, xs, e1, h, hl⟩ => ⟨a, xs, e1, h.imp (fun ⟨n, r⟩ => ⟨fun z => n (hD a z), r⟩) id, DenL.map f hD hf l xs hl⟩
  | .dct l, x, ⟨a, kvs, e1, n, r, hl⟩ => ⟨a, kvs, e1, fun z => n (hD a z), r, DenP.map f hD hf l kvs hl⟩
theorem DenL.map (f : Ad → Option Val) (hD : ∀ a, D2 a → D a) (hf : ∀ a w x, f a = some w → Den K D H (.ref a) x → Den K D2 H w x) : ∀ (l : List Val) (xs : List V), DenL K D H l xs → DenL K D2 H (mapRefL f l) xs
  | [], xs, h => h
  | v :: r, xs, ⟨x, t, e1, h1, h2⟩ => ⟨x, t, e1, Den.map f hD hf v x h1, DenL.map f hD hf r t h2⟩
theorem DenP.map (f : Ad → Option Val) (hD : ∀ a, D2 a → D a) (hf : ∀ a w x, f a = some w → Den K D H (.ref a) x → Den K D2 H w x) : ∀ (l : List Val) (kvs : List (Key × V)), DenP K D H l kvs → DenP K D2 H (mapRefL f l) kvs
  | [], kvs, h => h
  | .tup [kv, v] :: r, kvs, ⟨k, x, t, e1, ek, h1, h2⟩ => by
    have hk : keyOf (mapRef f kv) = some k := by cases kv <;> first | exact ek | cases ek
    exact ⟨k, x, t, e1, hk, Den.map f hD hf v x h1, DenP.map f hD hf r t h2⟩
  | .tup [] :: _, kvs, h => h.elim
  | .tup [_] :: _, kvs, h => h.elim
  | .tup (_ :: _ :: _ :: _) :: _, kvs, h => h.elim
  | .non :: _, kvs, h => h.elim
  | .bl _ :: _, kvs, h => h.elim
  | .int _ :: _, kvs, h => h.elim
  | .str _ :: _, kvs, h => h.elim
  | .lst _ :: _, kvs, h => h.elim
  | .dct _ :: _, kvs, h => h.elim
  | .ref _ :: _, kvs, h => h.elim
  | .exn _ _ :: _, kvs, h => h.elim
  | .ins _ _ :: _, kvs, h => h.elim
end
end
section
variable {K : Fr} {Xc : Addr → Prop} {H H' : Hp} {μ μ' : Mu}
theorem resoF_den {D2 : Addr → Prop} {μk : Mu} (m : MRel K Xc μ' H') (hD : ∀ a, D2 a → Dn Xc μ' a) (hk : ∀ a, μk a = none → (μ' a).isSome = true → ¬ D2 a) : ∀ (n : Nat) (a : Ad) (w : Val) (x : V), resoF μk μ' n a = some w → Den K (Dn Xc μ') H' (.ref a) x → Den K D2 H' w x
  | 0, a, w, x, e, d => by cases e
  | n + 1, a, w, y, e, hy => by
    simp only [resoF] at e
    split at e
    · cases e
    · rename_i hk0
      obtain ⟨c, hc, rfl⟩ := Option.map_eq_some_iff.mp e
      have hn : μk a = none := by
        cases q : μk a with
        | none => rfl
        | some z => rw [q] at hk0; exact (hk0 rfl).elim
      obtain ⟨o, ho, r⟩ := m.obj a c hc
      have nd : ¬ D2 a := hk a hn (by rw [hc]; rfl)
      rw [show y = V.ref a from hy]
      have ih := resoF_den m hD hk n
      cases c with
      | lst l =>
        obtain ⟨xs, rfl, hl⟩ := r
        exact ⟨a, xs, rfl, .inl ⟨nd, .inl ho⟩, DenL.map _ hD ih l xs hl⟩
      | dct l =>
        obtain ⟨xs, rfl, hl⟩ := r
        exact ⟨a, xs, rfl, nd, .inl ho, DenP.map _ hD ih l xs hl⟩
      | ins c l =>
        obtain ⟨C, dx, xs, rfl, hc, hl⟩ := r
        exact ⟨a, C, dx, xs, rfl, nd, .inl ho, hc, DenL.map _ hD ih l xs hl⟩
      | _ => exact r.elim
theorem reso_den {D2 : Addr → Prop} {μk : Mu} (m : MRel K Xc μ' H') (hD : ∀ a, D2 a → Dn Xc μ' a) (hk : ∀ a, μk a = none → (μ' a).isSome = true → ¬ D2 a) (n : Nat) (v : Val) (x : V) (d : Den K (Dn Xc μ') H' v x) : Den K D2 H' (reso μk μ' n v) x :=
  Den.map _ hD (resoF_den m hD hk n) v x d
theorem CRel.weak {D D2 : Addr → Prop} (hD : ∀ a, D2 a → D a) {c : Val} {o : HO} (h : CRel K D H c o) : CRel K D2 H (mapRef (fun _ => none) c) o := by
  cases c with
  | lst l => obtain ⟨xs, e, hl⟩ := h; exact ⟨xs, e, DenL.map _ hD (fun _ _ _ e => by cases e) l xs hl⟩
  | dct l => obtain ⟨xs, e, hl⟩ := h; exact ⟨xs, e, DenP.map _ hD (fun _ _ _ e => by cases e) l xs hl⟩
  | ins c l => obtain ⟨C, dx, xs, e, hc, hl⟩ := h; exact ⟨C, dx, xs, e, hc, DenL.map _ hD (fun _ _ _ e => by cases e) l xs hl⟩
  | _ => exact h.elim
theorem mapRef_none_both : (∀ v : Val, mapRef (fun _ => none) v = v) ∧ ∀ l : List Val, mapRefL (fun _ => none) l = l := by
  refine ⟨fun v => ?_, fun l => ?_⟩
  · exact Val.rec (motive_1 := fun v => mapRef (fun _ => none) v = v) (motive_2 := fun l => mapRefL (fun _ => none) l = l) rfl (fun _ => rfl) (fun _ => rfl) (fun _ => rfl)
      (fun l h => by simp only [mapRef, h]) (fun l h => by simp only [mapRef, h]) (fun l h => by simp only [mapRef, h]) (fun _ => rfl) (fun c l h => by simp only [mapRef, h]) (fun c l h => by simp only [mapRef, h]) rfl (fun v r h1 h2 => by simp only [mapRefL, h1, h2]) v
  · exact Val.rec_1 (motive_1 := fun v => mapRef (fun _ => none) v = v) (motive_2 := fun l => mapRefL (fun _ => none) l = l) rfl (fun _ => rfl) (fun _ => rfl) (fun _ => rfl)
      (fun l h => by simp only [mapRef, h]) (fun l h => by simp only [mapRef, h]) (fun l h => by simp only [mapRef, h]) (fun _ => rfl) (fun c l h => by simp only [mapRef, h]) (fun c l h => by simp only [mapRef, h]) rfl (fun v r h1 h2 => by simp only [mapRefL, h1, h2]) l
theorem mapRef_none (v : Val) : mapRef (fun _ => none) v = v := mapRef_none_both.1 v
theorem CRel.weak' {D D2 : Addr → Prop} (hD : ∀ a, D2 a → D a) {c : Val} {o : HO} (h : CRel K D H c o) : CRel K D2 H c o := by
  have := h.weak hD
  rwa [mapRef_none] at this
theorem Den.weak' {D D2 : Addr → Prop} (hD : ∀ a, D2 a → D a) {v : Val} {x : V} (h : Den K D H v x) : Den K D2 H v x := by
  have := Den.map (fun _ => none) hD (fun _ _ _ e => by cases e) v x h
  rwa [mapRef_none] at this
theorem cut_some {a : Addr} {c : Val} (h : (μ'.cut μ) a = some c) : μ' a = some c ∧ (μ a).isSome = true := by
  unfold Mu.cut at h
  split at h
  · exact ⟨h, by assumption⟩
  · cases h
theorem cut_none {a : Addr} (h : μ a = none) : (μ'.cut μ) a = none := by
  unfold Mu.cut
  rw [h] <;> rfl
theorem cut_dn {a : Addr} (h : Dn Xc (μ'.cut μ) a) : Dn Xc μ' a := by
  rcases h with h | h
  · cases q : (μ'.cut μ) a with
    | none => rw [q] at h; cases h
    | some c => exact .inl (by rw [(cut_some q).1]; rfl)
  · exact .inr h
theorem MRel.cut (m : MRel K Xc μ' H') : MRel K Xc (μ'.cut μ) H' where
  obj := fun a c h => by
    obtain ⟨o, ho, r⟩ := m.obj a c (cut_some h).1
    exact ⟨o, ho, r.weak' fun _ z => cut_dn z⟩
  xc := m.xc
theorem Ext.cut (e : Ext μ H μ' H') : Ext μ H (μ'.cut μ) H' := ⟨e.keepO, fun a _ n => cut_none n, e.there⟩
/-- a new thing of a call is none that the caller knew -/
theorem new_xc (m0 : MRel K Xc μ H) (e : Ext μ H μ' H') {a : Addr} (h : μ a = none) (h' : (μ' a).isSome = true) : ¬ Xc a ∧ H a = none := by
  have hH : H a = none := by
    cases q : H a with
    | none => rfl
    | some o =>
      have := e.nonew a (by rw [q]; intro z; cases z) h
      rw [this] at h'; cases h'
  exact ⟨fun z => m0.xc a z hH, hH⟩
/-- how a def hands back -/
theorem fin_den {m : Md} {v : Val} {x : V} {Q : VK} (m0 : MRel K Xc μ H) (m' : MRel K Xc μ' H') (e : Ext μ H μ' H') (d : Den K (Dn Xc μ') H' v x)
    (f : finM m μ (fun v μ2 => ∀ x H2, MRel K Xc μ2 H2 → Ext μ H μ2 H2 → Den K (Dn Xc μ2) H2 v x → Q x H2) v μ') : Q x H' := by
  cases m with
  | keep => exact f x H' m' e d
  | val =>
    refine f x H' m'.cut e.cut (reso_den m' (fun a h => cut_dn h) (fun a h1 h2 z => ?_) 4 v x d)
    rcases z with z | z
    · rw [cut_none h1] at z; cases z
    · exact (new_xc m0 e h1 h2).1 z
  | obj =>
    simp only [finM] at f
    split at f
    · rename_i p
      obtain ⟨hp, f⟩ := f
      split at f
      · rename_i c hc
        have hx : x = .ref p := d
        subst hx
        obtain ⟨o, ho, r⟩ := m'.obj p c hc
        have hdn : ∀ a, Dn Xc ((μ'.cut μ).set p (reso (μ.set p c) μ' 4 c)) a → Dn Xc μ' a := fun a h => by
          rcases h with h | h
          · by_cases ea : a = p
            · subst ea; exact .inl (by rw [hc]; rfl)
            · rw [Mu.set_ne ea] at h; exact cut_dn (.inl h)
          · exact .inr h
        have hk : ∀ a, (μ.set p c) a = none → (μ' a).isSome = true → ¬ Dn Xc ((μ'.cut μ).set p (reso (μ.set p c) μ' 4 c)) a := fun a h1 h2 z => by
          by_cases ea : a = p
          · subst ea; rw [Mu.set_same] at h1; cases h1
          · rw [Mu.set_ne ea] at h1
            rcases z with z | z
            · rw [Mu.set_ne ea, cut_none h1] at z; cases z
            · exact (new_xc m0 e h1 h2).1 z
        have rc : CRel K (Dn Xc ((μ'.cut μ).set p (reso (μ.set p c) μ' 4 c))) H' (reso (μ.set p c) μ' 4 c) o := by
          have ih := resoF_den (μk := μ.set p c) m' hdn hk 4
          generalize hD2 : Dn Xc ((μ'.cut μ).set p (reso (μ.set p c) μ' 4 c)) = D2 at *
          cases c with
          | lst l => obtain ⟨xs, e, hl⟩ := r; exact ⟨xs, e, DenL.map _ hdn ih l xs hl⟩
          | dct l => obtain ⟨xs, e, hl⟩ := r; exact ⟨xs, e, DenP.map _ hdn ih l xs hl⟩
          | ins c l => obtain ⟨C, dx, xs, e, hc, hl⟩ := r; exact ⟨C, dx, xs, e, hc, DenL.map _ hdn ih l xs hl⟩
          | _ => exact r.elim
        refine f (.ref p) H' ⟨fun a c' h => ?_, m'.xc⟩ ⟨e.keepO, fun a h1 h2 => ?_, e.there⟩ rfl
        · by_cases ea : a = p
          · subst ea
            rw [Mu.set_same] at h
            cases h
            exact ⟨o, ho, rc⟩
          · rw [Mu.set_ne ea] at h
            obtain ⟨u, hu, ru⟩ := m'.obj a c' (cut_some h).1
            exact ⟨u, hu, ru.weak' hdn⟩
        · by_cases ea : a = p
          · subst ea
            exact (h1 (new_xc m0 e hp (by rw [hc]; rfl)).2).elim
          · rw [Mu.set_ne ea]; exact cut_none h2
      · exact f.elim
    · exact f.elim
end
theorem start_slot {K : Fr} {D : Addr → Prop} {H : Hp} {args : List Val} {vs : List V} (d : DenL K D H args vs) (N : List Str) (k : Nat) : ∀ (i : Nat) (v : Val), (args.map some ++ List.replicate k (none : Option Val))[i]? = some (some v) → ∃ x, (start N vs)[i]? = some (some x) ∧ Den K D H v x := fun i v h => by
  have hlen := d.length
  by_cases hi : i < args.length
  · rw [List.getElem?_append_left (by simpa using hi), List.getElem?_map] at h
    obtain ⟨w, hw, e⟩ := Option.map_eq_some_iff.mp h
    cases e
    obtain ⟨x, hx, dx⟩ := d.get hw
    refine ⟨x, ?_, dx⟩
    unfold L2.start
    rw [List.getElem?_append_left (by rw [List.length_map]; omega), List.getElem?_map, hx]
    rfl
  · rw [List.getElem?_append_right (by simpa using hi), List.getElem?_replicate] at h
    split at h <;> cases h
/-- THE RULE for a def -/
theorem fn_okk {P : Program} {w : World} {K : Fr} {mg : Str → Option Value} {base : Heap} {PR : Prog} {n k : Nat} {f : String} {d : Fn} {x qual : Str} {st : Stmt} {a : Addr} {fd : FuncData} {N ps : List Str} (F : L2.Fun K x qual st a fd) (S : FnScope N ps (defScope st))
    (hd : PR f = some d) (h1 : d.ps = ps.length) (h2 : d.slots = N.length)
    (body : ∀ (cdv : Value) (A : Around) (outer : List PySem.Env) (s : Shared) (H : Hp) (E : XK), Room k (A.deeper (envOfC qual (defScope st) s.heap.objs.size a cdv)) →
      SB (cxOf (L2.CX P w) P w K mg base N qual (defScope st) a cdv A outer s H E) (phi PR n) (fun cls d _ H => E cls d H) (defBody st) d.body) : FnOk P w K mg base (L2.CX P w) (k + 1) a fd ps (spP K mg (phi PR (n + 1)) f) := by
  refine (F.okX S (fun vs H Q E h => ?_) fun cdv A outer s H vs Q E hr h => ⟨_, body cdv A outer s H E hr, ?_⟩)
  · obtain ⟨Xc, μ, m, args, m0, d0, q⟩ := h
    simp only [phi, hd] at q
    rw [← d0.length, q.1, h1]
  · obtain ⟨Xc, μ, m, args, m0, d0, q⟩ := h
    simp only [phi, hd] at q
    obtain ⟨hl, q⟩ := q
    have hNl : ps.length ≤ N.length := by have := congrArg List.length S.pre; rw [List.length_take] at this; omega
    refine ⟨Xc, _, μ, ⟨m0, start_slot d0 N (d.slots - d.ps), ?_⟩, wpS_mono (phi_mono PR n) d.body _ μ _ _ ?_ q⟩
    · unfold L2.start
      have := d0.length
      simp only [List.length_append, List.length_map, List.length_replicate]
      omega
    · refine ⟨fun e μ' z σ' H' S' E' => fin_den m0 S'.m E' (show Den K (Dn Xc μ') H' .non .non from rfl) z, fun v μ' z x H' m' E' dx => fin_den m0 m' E' dx z, fun v e μ' z cls dd σ' H' S' E' r => ?_⟩
      obtain ⟨c, rfl, r1, r2⟩ := r
      cases m with
      | keep => exact z cls dd H' S'.m E' ⟨c, rfl, r1, r2⟩
      | val => exact z cls dd H' S'.m.cut E'.cut ⟨c, rfl, r1, r2⟩
      | obj => exact z cls dd H' S'.m.cut E'.cut ⟨c, rfl, r1, r2⟩
theorem fn_ok {P : Program} {w : World} {K : Fr} {mg : Str → Option Value} {base : Heap} {PR : Prog} {n k : Nat} {f : String} {d : Fn} {x qual : Str} {st : Stmt} {a : Addr} {fd : FuncData} {N ps : List Str} (F : L2.Fun K x qual st a fd) (hm : mg (Str.ofString f) = some (.ref a)) (hb : Binds K fd ps []) (S : FnScope N ps (defScope st))
    (hd : PR f = some d) (h1 : d.ps = ps.length) (h2 : d.slots = N.length)
    (body : ∀ (cdv : Value) (A : Around) (outer : List PySem.Env) (s : Shared) (H : Hp) (E : XK), Room k (A.deeper (envOfC qual (defScope st) s.heap.objs.size a cdv)) →
      SB (cxOf (L2.CX P w) P w K mg base N qual (defScope st) a cdv A outer s H E) (phi PR n) (fun cls d _ H => E cls d H) (defBody st) d.body) : FnT P w K mg base (phi PR (n + 1)) (k + 1) f :=
  ⟨a, fd, ps, hm, F.kp, hb, fn_okk F S hd h1 h2 body⟩
/-- nothing runs at depth nought -/
theorem fn_zero {P : Program} {w : World} {K : Fr} {mg : Str → Option Value} {base : Heap} {PR : Prog} {k : Nat} {f : String} {a : Addr} {fd : FuncData} {ps : List Str} (kp : PySem.W.keepIn K (.ref a) = true) (hm : mg (Str.ofString f) = some (.ref a)) (hb : Binds K fd ps []) : FnT P w K mg base (phi PR 0) k f :=
  ⟨a, fd, ps, hm, kp, hb, ⟨fun vs H Q E h => by
    obtain ⟨_, _, _, _, _, _, q⟩ := h
    exact q.elim, fun A outer s H args us vs Q E hr he hb hv h => by
    obtain ⟨_, _, _, _, _, _, q⟩ := h
    exact q.elim⟩⟩
/-! methods -/
section
variable {P : Program} {w : World} {K : Fr} {mg : Str → Option Value} {base : Heap} {PR : Prog} {n k : Nat} {c m f : String} {d : Fn} {x qual : Str} {st : Stmt} {a C : Addr} {fd : FuncData} {N ps : List Str}
theorem mt_ok (F : L2.Fun K x qual st a fd) (hc : clsAt K c C) (M : Meth K C (Str.ofString m) a) (hb : Binds K fd ps []) (S : FnScope N ps (defScope st)) (hd : PR f = some d) (h1 : d.ps = ps.length) (h2 : d.slots = N.length)
    (body : ∀ (cdv : Value) (A : Around) (outer : List PySem.Env) (s : Shared) (H : Hp) (E : XK), Room k (A.deeper (envOfC qual (defScope st) s.heap.objs.size a cdv)) →
      SB (cxOf (L2.CX P w) P w K mg base N qual (defScope st) a cdv A outer s H E) (phi PR n) (fun cls d _ H => E cls d H) (defBody st) d.body) : MtT P w K mg base (phi PR (n + 1)) (k + 1) c m f :=
  ⟨C, a, fd, ps, hc, M, hb, fn_okk F S hd h1 h2 body⟩
theorem mk_ok (F : L2.Fun K x qual st a fd) (hc : clsAt K c C) (hm : mg (Str.ofString c) = some (.ref C)) (M : Mk K C a) (hb : Binds K fd ps []) (S : FnScope N ps (defScope st)) (hd : PR f = some d) (h1 : d.ps = ps.length) (h2 : d.slots = N.length)
    (body : ∀ (cdv : Value) (A : Around) (outer : List PySem.Env) (s : Shared) (H : Hp) (E : XK), Room k (A.deeper (envOfC qual (defScope st) s.heap.objs.size a cdv)) →
      SB (cxOf (L2.CX P w) P w K mg base N qual (defScope st) a cdv A outer s H E) (phi PR n) (fun cls d _ H => E cls d H) (defBody st) d.body) : MkT P w K mg base (phi PR (n + 1)) (k + 1) c f :=
  ⟨C, a, fd, ps, hc, hm, M, hb, fn_okk F S hd h1 h2 body⟩
theorem fn_none : FnOk P w K mg base (L2.CX P w) k a fd ps (spP K mg (phi PR 0) f) :=
  ⟨fun vs H Q E ⟨_, _, _, _, _, _, q⟩ => q.elim, fun A outer s H args us vs Q E hr he hb hv ⟨_, _, _, _, _, _, q⟩ => q.elim⟩
theorem mt_zero (hc : clsAt K c C) (M : Meth K C (Str.ofString m) a) (hb : Binds K fd ps []) : MtT P w K mg base (phi PR 0) k c m f := ⟨C, a, fd, ps, hc, M, hb, fn_none⟩
theorem mk_zero (hc : clsAt K c C) (hm : mg (Str.ofString c) = some (.ref C)) (M : Mk K C a) (hb : Binds K fd ps []) : MkT P w K mg base (phi PR 0) k c f := ⟨C, a, fd, ps, hc, hm, M, hb, fn_none⟩
/-- the only class with fields -/
theorem clsOk_R (hc : clsAt K "Running" C) (h : Cls K C) (no : ∀ f ∈ fieldsOf "Running", NoAttr K C (Str.ofString f)) : ClsOk K := by
  have only : ∀ c, fieldsOf c ≠ [] → c = "Running" := fun c h => by
    unfold fieldsOf at h
    split at h
    · assumption
    · exact absurd rfl h
  refine ⟨fun c C' h1 h2 => ?_, fun c C' f h1 h2 => ?_⟩
  · obtain rfl := only c h2
    rw [clsAt_one h1 hc]
    exact h
  · obtain rfl := only c (List.ne_nil_of_mem h2)
    rw [clsAt_one h1 hc]
    exact no f h2
end
end Mi
/-! Mi12: short words for the printed derivations. -/
namespace Mi
open PySem PySem.Spec PyProof.Rows L2
section
variable {X : Cx} {Φ : Ph} {W : WX} {pos : Pos}
theorem se_vB {x : Str} (i : Nat) (hN : X.N[i]? = some x) (hv : Vis X.env.scope x) (hd : (x == ("__debug__" : Str)) = false) (hcd : (x == ("__classdict__" : Str)) = false) : SE X Φ W (.Name x pos) (.v i) := se_v (pe_var hN hv hd hcd)
theorem se_globI {x : Str} {i : Int} (hg : Gl X x) (hm : ∃ t, X.mg x = some (.int i t)) (hd : (x == ("__debug__" : Str)) = false) : SE X Φ W (.Name x pos) (.c (.int i)) := by
  obtain ⟨t, hm⟩ := hm
  exact PE.imp (pe_glob (v := .int i) hg hm ⟨t, rfl⟩ hd) fun σ H Q ⟨Xc, env, μ, S, q⟩ => q _ H S Ext.refl rfl
end
/-- the class c of refusals stands in the top -/
def ExcAt (K : Fr) (mg : Str → Option Value) (c : String) : Prop := ∃ C : Addr, PySem.W.excIn K C [.type "ValueError", .type "Exception", .type "BaseException", .type "object"] "ValueError.__new__" = true ∧ mg (Str.ofString c) = some (.ref C) ∧ PySem.W.keepIn K (.ref C) = true ∧
  PySem.W.subIn K (.ref C) (.type "BaseException") = some true ∧ PySem.W.typeIn K (.ref C) = some (.type "type")
end Mi
/-! Mi12b: dict displays. -/
namespace Mi
open PySem PySem.Spec PyProof.Rows L2
/-- {k: e, ..} with texts for keys -/
def dispE : List (Str × E) → Es
  | [] => .nil
  | (k, e) :: r => .cons (.tup (.cons (.c (.str k)) (.cons e .nil))) (dispE r)
section
variable {X : Cx} {Φ : Ph} {W : WX} {pos : Pos}
theorem disp_read (hΦ : MonoP Φ) {K : Fr} {mg : Str → Option Value} {Xc : Addr → Prop} {σ : List (Option V)} {env : Env} {μ0 : Mu} {H0 : Hp} : ∀ (ps : List (Str × E)) (H : Hp) (μ : Mu) (F : List (V × V) → Hp → Prop) (G : List Val → Mu → Prop),
    (∀ p ∈ ps, PyData.strOk p.1 = true) → SRel K Xc σ H env μ → Ext μ0 H0 μ H → wpEs Φ (dispE ps) env μ G (XPost K mg W Xc σ H0 env μ0) →
    (∀ vs μ1 kvs H1, SRel K Xc σ H1 env μ1 → Ext μ H μ1 H1 → Ext μ0 H0 μ1 H1 → DenP K (Dn Xc μ1) H1 vs kvs → kvs.map (·.1) = ps.map (fun p => Sum.inr p.1) → G vs μ1 → F (kvs.map fun kv => (kV kv.1, kv.2)) H1) →
    tPairs (ps.map fun p => (rdE K mg Φ W (.c (.str p.1)), rdE K mg Φ W p.2)) σ H F
  | [], H, μ, F, G, _, S, E, q, k => k [] μ [] H S Ext.refl E rfl rfl q
  | (s, e) :: r, H, μ, F, G, hs, S, E, q, k => by
    have q' : wpE Φ e env μ (fun v μ1 => wpEs Φ (dispE r) env μ1 (fun vs μ2 => G (.tup [.str s, v] :: vs) μ2) (XPost K mg W Xc σ H0 env μ0)) (XPost K mg W Xc σ H0 env μ0) := q
    refine ⟨Xc, env, μ, S, ?_⟩
    intro x H1 S1 E1 d1
    obtain ⟨rfl, _⟩ := d1
    refine use hΦ S1 (E.trans E1) q' fun v μ2 y H2 S2 E2 E2' d2 q2 => ?_
    refine disp_read hΦ r H2 μ2 _ _ (fun p hp => hs p (List.mem_cons_of_mem _ hp)) S2 E2' q2 fun vs μ3 kvs H3 S3 E3 E3' d3 hk g => ?_
    have := k (.tup [.str s, v] :: vs) μ3 ((Sum.inr s, y) :: kvs) H3 S3 ((E1.trans E2).trans E3) E3' ⟨Sum.inr s, y, kvs, rfl, rfl, d2.ext E3, d3⟩ (by simp [hk]) g
    exact this
theorem putK_new {kvs : List (Key × V)} {k : Key} {v : V} (h : k ∉ kvs.map (·.1)) : putK kvs k v = kvs ++ [(k, v)] := by
  unfold putK
  rw [if_neg]
  intro z
  obtain ⟨p, hp, e⟩ := List.any_eq_true.mp z
  exact h (List.mem_map.mpr ⟨p, hp, by simpa using e⟩)
theorem mergeK_new : ∀ (more kvs : List (Key × V)), ((kvs ++ more).map (·.1)).Nodup → mergeK kvs more = kvs ++ more
  | [], kvs, _ => by rw [List.append_nil]; rfl
  | (k, v) :: r, kvs, h => by
    have hk : k ∉ kvs.map (·.1) := by
      rw [List.map_append, List.nodup_append] at h
      intro z
      exact h.2.2 k z k (by simp) rfl
    show mergeK (putK kvs k v) r = _
    rw [putK_new hk, mergeK_new r (kvs ++ [(k, v)]) (by simpa using h)]
    simp
theorem sf_disp (ps : List (Str × E)) (hΦ : MonoP Φ) {keys : List (Option Expr)} {values : List Expr} {trs : List (TE × TE)} (h : PPs X pos keys values trs) (ht : trs = ps.map fun p => (rdE X.K X.mg Φ W (.c (.str p.1)), rdE X.K X.mg Φ W p.2))
    (hs : ps.all (fun p => PyData.strOk p.1) = true) (hn : (ps.map (·.1)).Nodup) (hall : keys.all (·.isSome) = true) (hl : keys.length = values.length) (h0 : keys ≠ []) (h15 : keys.length ≤ 15) (hp15 : ps.length ≤ 15) : SF X Φ W (.Dict keys values pos) (.dct (dispE ps)) :=
  PE.imp (pe_disp h hall hl h0 h15) fun σ H Q ⟨Xc, env, μ, S, q⟩ => by
    subst ht
    intro p hp
    have hμ : μ p = none := dn_none (S.m.fresh hp)
    have hX : ¬ Xc p := fun z => S.m.xc p z hp
    have S' : SRel X.K (plusX Xc p) σ (upd H p (.dK [])) env μ := ⟨S.m.plus hp, fun j w hw => by
      obtain ⟨z, h1, h2⟩ := S.slot j w hw
      exact ⟨z, h1, Den.plus hp w z h2⟩, S.len⟩
    refine disp_read (Xc := plusX Xc p) hΦ ps _ μ _ _ (fun p hp => List.all_eq_true.mp hs p hp) S' Ext.refl (wpEs_mono hΦ _ env μ _ _ _ _ (fun _ _ z => z) (fun e μ' z => ?_) q) fun vs μ1 kvs H1 S1 E1 _ d1 hk g => ?_
    · intro cls d H' S2 E2 r
      have hD : ∀ a, Dn Xc μ' a → Dn (plusX Xc p) μ' a := fun a z => z.imp id .inl
      exact z cls d H' ⟨⟨fun a c h => by
        obtain ⟨o, ho, rr⟩ := S2.m.obj a c h
        exact ⟨o, ho, rr.weak' hD⟩, fun a h => S2.m.xc a (.inl h)⟩, fun j w hw => by
        obtain ⟨y, h1, h2⟩ := S2.slot j w hw
        exact ⟨y, h1, Den.weak' hD h2⟩, S2.len⟩ ((Ext.laid hp).trans E2) r
    · have hk1 : H1 p = some (.dK []) := E1.keepO p _ upd_same hμ
      refine ⟨hk1, kvs, rfl, ?_, ?_⟩
      · have := congrArg List.length hk
        simp at this
        omega
      · have hnd : (kvs.map (·.1)).Nodup := by
          rw [hk]
          have : ps.map (fun p => (Sum.inr p.1 : Key)) = (ps.map (·.1)).map Sum.inr := by simp
          rw [this]
          exact List.pairwise_map.mpr (hn.imp fun h e => h (by injection e))
        rw [mergeK_new kvs [] hnd, List.nil_append]
        have hμ1 : μ1 p = none := E1.nonew p (by rw [upd_same]; intro z; cases z) hμ
        have Sm : SRel X.K Xc σ (del H1 p) env μ1 := ⟨S1.m.minus hμ1 hX, fun j w hw => by
          obtain ⟨z, h1, h2⟩ := S1.slot j w hw
          exact ⟨z, h1, Den.minus w z h2⟩, S1.len⟩
        have := g p (.dK kvs) (del H1 p) Sm (E1.minus hp) del_self ⟨kvs, rfl, DenP.minus vs kvs d1⟩
        rw [upd_del] at this
        exact this
end
end Mi
/-! Mi12c: isinstance of the exception that is held. -/
namespace Mi
open PySem PySem.Spec PyProof.Rows L2
section
variable {X : Cx} {a1 : Addr} {oe1 : Obj} {cls1 : Value} {d1 : Option Addr} {pn1 : List (Addr × Obj)} {cn : String} {Φ : Ph} {W : WX} {a : Expr} {x y : Str} {p p2 pos : Pos} {e : E}
theorem se_isE (hz : Zc cls1 d1 oe1) (hf : ∃ vs, oe1.data = .fields vs) (F : X.mg (Str.ofString cn) = some cls1 ∧ IsExc X.K X.mg cn ∧ d1 = none) (hΦ : MonoP Φ) {h : String} (hh : h ∈ excNames) (hc : ∃ C, X.mg (Str.ofString h) = some (.ref C)) (hgh : Gl X (Str.ofString h)) (hdh : (Str.ofString h == ("__debug__" : Str)) = false)
    (hg : Gl X x) (hm : X.mg x = none) (hv : bootBuiltins x = some (.builtin "isinstance")) (hn : x ≠ "__name__") (hdb : (x == ("__debug__" : Str)) = false) (ha : SE (X.suite a1 ((a1, oe1) :: pn1)) (Φ.at cn a1) W a e)
    (he : starEach (a :: [.Name (Str.ofString h) p2]) X.env = (false, eval a X.env) :: starEach [.Name (Str.ofString h) p2] X.env := by rfl) (he2 : starEach [.Name (Str.ofString h) p2] X.env = (false, eval (.Name (Str.ofString h) p2) X.env) :: starEach [] X.env := by rfl) (hpl : (backTo pos (starEach [.Name (Str.ofString h) p2] X.env)).any (·.1) = false := by rfl) :
    SE (X.suite a1 ((a1, oe1) :: pn1)) (Φ.at cn a1) W (.Call (.Name x p) [a, .Name (Str.ofString h) p2] [] pos) (.isC e h) := by
  obtain ⟨hcl, ie, hd⟩ := F
  obtain ⟨D, rfl, xc, hk, _⟩ := ie.kit _ hcl
  subst hd
  obtain ⟨C, hC⟩ := hc
  have hy : PE (X.suite a1 ((a1, oe1) :: pn1)) (.Name (Str.ofString h) p2) (tC (.ref C)) := pe_glob (v := .ref C) hgh hC rfl hdh
  refine PE.imp (pe_callB (X := X.suite a1 ((a1, oe1) :: pn1)) (call_isE xc hz hf) hg hm hv (pa_cons ha (pa_cons hy pa_nil he2) he) hn hdb he hpl) fun σ H Q ⟨Xc, env, μ, S, q⟩ => ?_
  simp only [wpE] at q
  refine use (at_monoP (c := cn) (a := a1) hΦ) S Ext.refl q fun v μ1 x H1 S1 E1 E1' d q1 => ?_
  cases v with
  | ref p' =>
    obtain ⟨e1, q2⟩ := q1
    subst e1
    exact ⟨.ref C, .ref C, isSub cn h, by rw [show x = V.ref p' from d], fun u r => r, (hk h hh _ hC).2, q2 _ H1 S1 E1' rfl⟩
  | _ => exact q1.elim
theorem se_isEV (hz : Zc cls1 d1 oe1) (hf : ∃ vs, oe1.data = .fields vs) (F : X.mg (Str.ofString cn) = some cls1 ∧ IsExc X.K X.mg cn ∧ d1 = none) (hΦ : MonoP Φ)
    (hg : Gl X x) (hm : X.mg x = none) (hv : bootBuiltins x = some (.builtin "isinstance")) (hn : x ≠ "__name__") (hdb : (x == ("__debug__" : Str)) = false) (ha : SE (X.suite a1 ((a1, oe1) :: pn1)) (Φ.at cn a1) W a e)
    (hy : PE (X.suite a1 ((a1, oe1) :: pn1)) (.Name y p2) (tC (.ty "ValueError")))
    (he : starEach (a :: [.Name y p2]) X.env = (false, eval a X.env) :: starEach [.Name y p2] X.env := by rfl) (he2 : starEach [.Name y p2] X.env = (false, eval (.Name y p2) X.env) :: starEach [] X.env := by rfl) (hpl : (backTo pos (starEach [.Name y p2] X.env)).any (·.1) = false := by rfl) :
    SE (X.suite a1 ((a1, oe1) :: pn1)) (Φ.at cn a1) W (.Call (.Name x p) [a, .Name y p2] [] pos) (.isC e "ValueError") := by
  obtain ⟨hcl, ie, hd⟩ := F
  obtain ⟨D, rfl, xc, _, hk⟩ := ie.kit _ hcl
  subst hd
  refine PE.imp (pe_callB (X := X.suite a1 ((a1, oe1) :: pn1)) (call_isE xc hz hf) hg hm hv (pa_cons ha (pa_cons hy pa_nil he2) he) hn hdb he hpl) fun σ H Q ⟨Xc, env, μ, S, q⟩ => ?_
  simp only [wpE] at q
  refine use (at_monoP (c := cn) (a := a1) hΦ) S Ext.refl q fun v μ1 x H1 S1 E1 E1' d q1 => ?_
  cases v with
  | ref p' =>
    obtain ⟨e1, q2⟩ := q1
    subst e1
    have hs : isSub cn "ValueError" = true := by unfold isSub; simp
    rw [hs] at q2
    exact ⟨.ty "ValueError", .type "ValueError", true, by rw [show x = V.ref p' from d], fun u r => r, hk, q2 _ H1 S1 E1' rfl⟩
  | _ => exact q1.elim
end
end Mi
/-! Mi13: the law's own promise, the classes of refusals. -/
namespace Mi
open PySem PySem.Spec PyProof.Rows L2
theorem exm_of {K : Fr} {C S : Addr} {b : Bool} (h1 : PySem.W.subIn K (.ref S) (.type "BaseException") = some true) (h2 : PySem.W.isClsIn K S = true) (h3 : PySem.W.typeIn K (.ref S) = some (.type "type")) (h4 : PySem.W.subIn K (.ref C) (.ref S) = some b) :
    PySem.W.exmOne K (.ref C) (.ref S) = some b := by
  have e1 : (PySem.W.subIn K (.ref S) (.type "BaseException") == some true) = true := by rw [h1] <;> rfl
  have e2 : ((PySem.W.clsIn K S).isSome && PySem.W.typeIn K (.ref S) == some (.type "type")) = true := by
    have h2' : (PySem.W.clsIn K S).isSome = true := h2
    rw [h2', h3] <;> rfl
  show (if (PySem.W.subIn K (.ref S) (.type "BaseException") == some true) = true then (if ((PySem.W.clsIn K S).isSome && PySem.W.typeIn K (.ref S) == some (.type "type")) = true then PySem.W.subIn K (.ref C) (.ref S) else none) else none) = some b
  rw [if_pos e1, if_pos e2]
  exact h4
def ExAt (K : Fr) (mg : Str → Option Value) (c : String) (C : Addr) (h : String) : Prop := ∀ c', mg (Str.ofString h) = some c' → PySem.W.exmOne K (.ref C) c' = some (isSub c h)
theorem ea_no {K : Fr} {mg : Str → Option Value} {c : String} {C : Addr} {h : String} (n : mg (Str.ofString h) = none) : ExAt K mg c C h := fun c' e => by rw [n] at e; cases e
theorem ea_yes {K : Fr} {mg : Str → Option Value} {c : String} {C S : Addr} {h : String} {b : Bool} (g : mg (Str.ofString h) = some (.ref S)) (e : isSub c h = b) (h1 : PySem.W.subIn K (.ref S) (.type "BaseException") = some true) (h2 : PySem.W.isClsIn K S = true) (h3 : PySem.W.typeIn K (.ref S) = some (.type "type")) (h4 : PySem.W.subIn K (.ref C) (.ref S) = some b) : ExAt K mg c C h := fun c' e' => by
  rw [g] at e'; cases e'
  rw [e]
  exact exm_of h1 h2 h3 h4
def KiAt (K : Fr) (mg : Str → Option Value) (c : String) (C : Addr) (h : String) : Prop := ∀ c', mg (Str.ofString h) = some c' → (∃ S, c' = .ref S) ∧ PySem.W.kitOne K (.ref C) c' = some (isSub c h)
theorem ki_no {K : Fr} {mg : Str → Option Value} {c : String} {C : Addr} {h : String} (n : mg (Str.ofString h) = none) : KiAt K mg c C h := fun c' e => by rw [n] at e; cases e
theorem ki_yes {K : Fr} {mg : Str → Option Value} {c : String} {C S : Addr} {h : String} {b : Bool} (g : mg (Str.ofString h) = some (.ref S)) (e : isSub c h = b) (k : PySem.W.kitOne K (.ref C) (.ref S) = some b) : KiAt K mg c C h := fun c' e' => by
  rw [g] at e'; cases e'
  exact ⟨⟨S, rfl⟩, by rw [e]; exact k⟩
theorem ea_all {K : Fr} {mg : Str → Option Value} {c : String} {C : Addr} (g : mg (Str.ofString c) = some (.ref C)) (t : ∀ h ∈ excNames, ExAt K mg c C h) (x : ExcC K C) (k : ∀ h ∈ excNames, KiAt K mg c C h) (v : PySem.W.kitOne K (.ref C) (.type "ValueError") = some true) : IsExc K mg c where
  ex := fun cls e h hh c' e' => by
    rw [g] at e; cases e
    exact t h hh c' e'
  kit := fun cls e => by
    rw [g] at e; cases e
    exact ⟨C, rfl, x, k, v⟩
/-- what the law promises -/
def spLaw (K : Fr) : Sp := fun vs H Q _ => ∃ (a : Addr) (ns : List Int), vs = [.ref a] ∧ ns.length ≤ 63 ∧ SqL K H a (ns.map V.int) ∧ ∀ H', Q (.bl true) H'
theorem ints_den {K : Fr} {D : Addr → Prop} {H : Hp} : ∀ ns : List Int, DenL K D H (ns.map Val.int) (ns.map V.int)
  | [] => rfl
  | i :: r => ⟨.int i, r.map V.int, rfl, rfl, ints_den r⟩
theorem law_sp {K : Fr} {mg : Str → Option Value} {Φ : Ph} (hΦ : MonoP Φ) {f : String} (h : ∀ ns : List Int, ns.length ≤ 63 → Φ f .val [.lst (ns.map Val.int)] (fun _ => none) (fun v _ => v = .bl true) (fun _ _ => False)) (vs : List V) (H : Hp) (Q : VK) (E : XK) (q : spLaw K vs H Q E) : spP K mg Φ f vs H Q E := by
  obtain ⟨a, ns, rfl, hl, hS, hQ⟩ := q
  refine ⟨fun _ => False, fun _ => none, .val, [.lst (ns.map Val.int)], ⟨fun _ _ z => (by cases z), fun _ z => False.elim z⟩, ⟨.ref a, [], rfl, ⟨a, ns.map V.int, rfl, ?_, ints_den ns⟩, rfl⟩, hΦ _ _ _ _ _ _ _ _ (fun v μ' e x H' _ _ d => ?_) (fun _ _ z => False.elim z) (h ns hl)⟩
  · rcases hS with z | z
    · exact .inl ⟨fun y => (by rcases y with y | y; (cases y); (exact y)), z⟩
    · exact .inr z
  · subst e
    rw [show x = .bl true from d]
    exact hQ H'
theorem cx_no {P : Program} {w : World} {H : Hp} {s : Shared} {e : Value} {s' : Shared} (h : L2.CX P w [] H s (fun _ _ _ => False) e s') : False := by
  obtain ⟨_, _, _, _, _, _, _, _, _, _, _, _, z⟩ := h
  exact z
theorem law_walk {l : PySem.W.OpenLaw} {k : Nat} {q : Program} {loose : List Str} {XP : (Str → Option Value) → Heap → Prop} {YP : World → Heap → Prop} {d : DefRec} {K : Params → PySem.W.Frag} (hn : l.most = some 63) (hdf : d.params.defaults = []) (hr : Room k callerA)
    (hY : ∀ (w : World) (h : Heap), YP w h → (K w.params).In h)
    (F : ∀ (w : World) (mg : Str → Option Value) (fa : Addr) (h : Heap), (K w.params).In h → h.Ns mainGlobals mg → mg d.name = some (.ref fa) →
      ∃ fd : FuncData, (∀ (s : Shared) (u : Value), BindsTo s fd ⟨[u], []⟩ [("script", u)]) ∧ ∀ base : Heap, (K w.params).In base → base.Ns mainGlobals mg → FnOk l.prog w (K w.params) mg base (L2.CX l.prog w) k fa fd ["script"] (spLaw (K w.params))) :
    PySem.W.WalkO q loose XP YP l.row.toRowW d [] (fun f vs => PySem.call f vs) :=
  L2.walk_of (n := 63) (k := k) (x := "script") (CX := fun w => L2.CX l.prog w) (sp := fun w => spLaw (K w.params)) hn (by decide) hdf hr hY F (fun _ _ a ns hl _ hS => ⟨a, ns, rfl, hl, hS, fun _ => rfl⟩) fun _ _ _ _ _ z => cx_no z
end Mi
/-! Ml: how runs of the language are gone through. -/
namespace Mi
open PySem (Str)
theorem toNat_inj {a b : Char} (h : a.toNat = b.toNat) : a = b := Char.ext (UInt32.toNat_inj.mp h)
theorem map_toNat_inj : ∀ {l r : List Char}, l.map Char.toNat = r.map Char.toNat → l = r
  | [], [], _ => rfl
  | [], _ :: _, h => by cases h
  | _ :: _, [], h => by cases h
  | a :: l, b :: r, h => by
    rw [List.map_cons, List.map_cons] at h
    injection h with h1 h2
    rw [toNat_inj h1, map_toNat_inj h2]
@[simp] theorem os_inj {a b : String} : Str.ofString a = Str.ofString b ↔ a = b := by
  refine ⟨fun h => ?_, fun h => by rw [h]⟩
  rw [PySem.Str.ofString_eq_toList, PySem.Str.ofString_eq_toList] at h
  injection h with h
  injection h with h
  exact String.toList_inj.mp (map_toNat_inj h)
@[simp] theorem os_beq {a b : String} : (Str.ofString a == Str.ofString b) = (a == b) := by
  rw [Bool.eq_iff_iff]
  simp
theorem os_len (a : String) : (Str.ofString a).length = a.length := by
  rw [PySem.Str.ofString_eq_toList]
  show (List.map Char.toNat a.toList).toArray.size = a.length
  rw [List.size_toArray, List.length_map]
  rfl
theorem str_len_append (a b : Str) : (a ++ b).length = a.length + b.length := Array.size_append

theorem big_eq : big = 16777216 := Nat.eq_of_beq_eq_true (by decide)
/-! ### branches -/
def br (o : Option Bool) (A B : Prop) : Prop := match o with
  | some true => A
  | some false => B
  | none => False
def brV {α : Type} (o : Option α) (Q : α → Prop) : Prop := match o with
  | some v => Q v
  | none => False
@[simp] theorem br_some (b : Bool) (A B : Prop) : br (some b) A B ↔ (b = true → A) ∧ (b = false → B) := by cases b <;> simp [br]
@[simp] theorem brV_some {α : Type} (v : α) (Q : α → Prop) : brV (some v) Q ↔ Q v := Iff.rfl
@[simp] theorem brV_none {α : Type} (Q : α → Prop) : brV none Q ↔ False := Iff.rfl
@[simp] theorem brV_ifn {α : Type} {c : Prop} {_ : Decidable c} {v : α} {Q : α → Prop} : brV (if c then none else some v) Q ↔ ¬ c ∧ Q v := by
  by_cases h : c <;> simp [h]
theorem brV_ite {α : Type} {c : Prop} [Decidable c] {v : α} {Q : α → Prop} (h : c) (q : Q v) : brV (if c then some v else none) Q := by rw [if_pos h]; exact q
@[simp] theorem brV_if {α : Type} {c : Prop} {_ : Decidable c} {v : α} {Q : α → Prop} : brV (if c then some v else none) Q ↔ c ∧ Q v := by
  by_cases h : c <;> simp [h]

/-- what is raised is a refusal -/
def exE (x : Val) (Q : String → List Val → Prop) : Prop := match x with
  | .exn c l => Q c l
  | _ => False
@[simp] theorem exE_exn {c : String} {l : List Val} {Q : String → List Val → Prop} : exE (.exn c l) Q ↔ Q c l := Iff.rfl
section
variable {Φ : Ph} {env : Env} {μ : Mu} {Q : Val → Mu → Prop} {Qs : List Val → Mu → Prop} {X : XQ} {D : En}
/-! ### expressions -/
theorem ie {a : E} {Q Q' : Val → Mu → Prop} (h : ∀ v μ, Q v μ ↔ Q' v μ) : wpE Φ a env μ Q X ↔ wpE Φ a env μ Q' X := by
  have : Q = Q' := by funext v m; exact propext (h v m)
  rw [this]
theorem is' {l : Es} {Q Q' : List Val → Mu → Prop} (h : ∀ v μ, Q v μ ↔ Q' v μ) : wpEs Φ l env μ Q X ↔ wpEs Φ l env μ Q' X := by
  have : Q = Q' := by funext v m; exact propext (h v m)
  rw [this]
theorem brV_iff {α : Type} {o : Option α} {Q : α → Prop} {A : Prop} (h1 : o = none → (A ↔ False)) (h2 : ∀ v, o = some v → (A ↔ Q v)) : A ↔ brV o Q := by
  cases o with
  | none => exact h1 rfl
  | some v => exact h2 v rfl
theorem e_v {i : Nat} : wpE Φ (.v i) env μ Q X ↔ brV (env[i]?) fun o => brV o fun v => Q v μ := by
  rw [wpE]
  cases h : env[i]? with
  | none => exact Iff.rfl
  | some o => cases o <;> exact Iff.rfl
theorem e_c {v : Val} : wpE Φ (.c v) env μ Q X ↔ Q v μ := Iff.rfl
theorem e_tup {l : Es} : wpE Φ (.tup l) env μ Q X ↔ wpEs Φ l env μ (fun vs μ' => Q (.tup vs) μ') X := Iff.rfl
theorem e_lst {l : Es} : wpE Φ (.lst l) env μ Q X ↔ wpEs Φ l env μ (fun vs μ' => Q (.lst vs) μ') X := Iff.rfl
theorem e_dct {l : Es} : wpE Φ (.dct l) env μ Q X ↔ wpEs Φ l env μ (fun vs μ' => Q (.dct vs) μ') X := Iff.rfl
theorem s_nil : wpEs Φ .nil env μ Qs X ↔ Qs [] μ := Iff.rfl
theorem s_cons {a : E} {r : Es} : wpEs Φ (.cons a r) env μ Qs X ↔ wpE Φ a env μ (fun v μ1 => wpEs Φ r env μ1 (fun vs μ2 => Qs (v :: vs) μ2) X) X := Iff.rfl
theorem e_ix {a b : E} : wpE Φ (.ix a b) env μ Q X ↔ wpE Φ a env μ (fun v μ1 => wpE Φ b env μ1 (fun w μ2 => brV (ixV μ2 v w) fun r => Q r μ2) X) X := by
  rw [wpE]; exact ie fun v μ1 => ie fun w μ2 => by cases ixV μ2 v w <;> exact Iff.rfl
theorem e_sl {a : E} {lo hi : Es} : wpE Φ (.sl a lo hi) env μ Q X ↔ wpE Φ a env μ (fun v μ1 => wpEs Φ lo env μ1 (fun l μ2 => brV (optInt l) fun l' => wpEs Φ hi env μ2 (fun h μ3 => brV (optInt h) fun h' => brV ((content μ3 v).bind fun c => slC c l' h') fun r => Q r μ3) X) X) X := by
  rw [wpE]
  refine ie fun v μ1 => is' fun l μ2 => ?_
  cases optInt l with
  | none => exact Iff.rfl
  | some l' =>
    refine is' fun h μ3 => ?_
    cases optInt h with
    | none => exact Iff.rfl
    | some h' =>
      dsimp only [brV]
      cases ((content μ3 v).bind fun c => slC c l' h') <;> exact Iff.rfl
theorem e_bin {o : Op} {a b : E} : wpE Φ (.bin o a b) env μ Q X ↔ wpE Φ a env μ (fun v μ1 => wpE Φ b env μ1 (fun w μ2 => brV (binV μ2 o v w) fun r => Q r μ2) X) X := by
  rw [wpE]; exact ie fun v μ1 => ie fun w μ2 => by cases binV μ2 o v w <;> exact Iff.rfl
theorem e_cmp {o : Cm} {a b : E} : wpE Φ (.cmp o a b) env μ Q X ↔ wpE Φ a env μ (fun v μ1 => wpE Φ b env μ1 (fun w μ2 => brV (cmpV o v w) fun r => Q (.bl r) μ2) X) X := by
  rw [wpE]; exact ie fun v μ1 => ie fun w μ2 => by cases cmpV o v w <;> exact Iff.rfl
theorem e_eq {a b : E} : wpE Φ (.eq .eq a b) env μ Q X ↔ wpE Φ a env μ (fun v μ1 => wpE Φ b env μ1 (fun w μ2 => brV (eqV μ2 v w) fun r => Q (.bl r) μ2) X) X := by
  rw [wpE]; exact ie fun v μ1 => ie fun w μ2 => by cases eqV μ2 v w <;> exact Iff.rfl
theorem e_ne {a b : E} : wpE Φ (.eq .ne a b) env μ Q X ↔ wpE Φ a env μ (fun v μ1 => wpE Φ b env μ1 (fun w μ2 => brV (eqV μ2 v w) fun r => Q (.bl !r) μ2) X) X := by
  rw [wpE]; exact ie fun v μ1 => ie fun w μ2 => by cases eqV μ2 v w <;> exact Iff.rfl
theorem e_in {a b : E} : wpE Φ (.isin .isin a b) env μ Q X ↔ wpE Φ a env μ (fun v μ1 => wpE Φ b env μ1 (fun w μ2 => brV (inV μ2 v w) fun r => Q (.bl r) μ2) X) X := by
  rw [wpE]; exact ie fun v μ1 => ie fun w μ2 => by cases inV μ2 v w <;> exact Iff.rfl
theorem e_nin {a b : E} : wpE Φ (.isin .notin a b) env μ Q X ↔ wpE Φ a env μ (fun v μ1 => wpE Φ b env μ1 (fun w μ2 => brV (inV μ2 v w) fun r => Q (.bl !r) μ2) X) X := by
  rw [wpE]; exact ie fun v μ1 => ie fun w μ2 => by cases inV μ2 v w <;> exact Iff.rfl
def isNo : Val → Bool
  | .non => true
  | _ => false
@[simp] theorem isNo_non : isNo .non = true := rfl
@[simp] theorem isNo_int {i : Int} : isNo (.int i) = false := rfl
@[simp] theorem isNo_tup {l : List Val} : isNo (.tup l) = false := rfl
@[simp] theorem isNo_lst {l : List Val} : isNo (.lst l) = false := rfl
@[simp] theorem isNo_str {s : Str} : isNo (.str s) = false := rfl
@[simp] theorem isNo_bl {b : Bool} : isNo (.bl b) = false := rfl
theorem e_isN {a : E} : wpE Φ (.isN false a) env μ Q X ↔ wpE Φ a env μ (fun v μ' => Q (.bl (isNo v)) μ') X := by
  rw [wpE]; exact ie fun v μ' => by cases v <;> exact Iff.rfl
theorem e_notN {a : E} : wpE Φ (.isN true a) env μ Q X ↔ wpE Φ a env μ (fun v μ' => Q (.bl !(isNo v)) μ') X := by
  rw [wpE]; exact ie fun v μ' => by cases v <;> exact Iff.rfl
theorem e_chain {o p : Cm} {a b c : E} : wpE Φ (.chain o p a b c) env μ Q X ↔ wpE Φ a env μ (fun v μ1 => wpE Φ b env μ1 (fun w μ2 => br (cmpV o v w) (wpE Φ c env μ2 (fun u μ3 => brV (cmpV p w u) fun r => Q (.bl r) μ3) X) (Q (.bl false) μ2)) X) X := by
  rw [wpE]
  refine ie fun v μ1 => ie fun w μ2 => ?_
  cases h : cmpV o v w with
  | none => exact Iff.rfl
  | some b =>
    cases b with
    | false => exact Iff.rfl
    | true => exact ie fun u μ3 => by cases cmpV p w u <;> exact Iff.rfl
def intOf : Val → Option Int
  | .int i => some i
  | _ => none
@[simp] theorem intOf_int {i : Int} : intOf (.int i) = some i := rfl
theorem e_neg {a : E} : wpE Φ (.neg a) env μ Q X ↔ wpE Φ a env μ (fun v μ' => brV (intOf v) fun i => Q (.int (-i)) μ') X := by
  rw [wpE]; exact ie fun v μ' => by cases v <;> exact Iff.rfl
theorem e_not {a : E} : wpE Φ (.not a) env μ Q X ↔ wpE Φ a env μ (fun v μ' => brV (truthV μ' v) fun b => Q (.bl !b) μ') X := by
  rw [wpE]; exact ie fun v μ' => by cases truthV μ' v <;> exact Iff.rfl
theorem e_and {a b : E} : wpE Φ (.and a b) env μ Q X ↔ wpE Φ a env μ (fun v μ' => br (truthV μ' v) (wpE Φ b env μ' Q X) (Q v μ')) X := by
  rw [wpE]; exact ie fun v μ' => by
    cases truthV μ' v with
    | none => exact Iff.rfl
    | some b => cases b <;> exact Iff.rfl
theorem e_or {a b : E} : wpE Φ (.or a b) env μ Q X ↔ wpE Φ a env μ (fun v μ' => br (truthV μ' v) (Q v μ') (wpE Φ b env μ' Q X)) X := by
  rw [wpE]; exact ie fun v μ' => by
    cases truthV μ' v with
    | none => exact Iff.rfl
    | some b => cases b <;> exact Iff.rfl
theorem e_ite {c a b : E} : wpE Φ (.ite c a b) env μ Q X ↔ wpE Φ c env μ (fun v μ' => br (truthV μ' v) (wpE Φ a env μ' Q X) (wpE Φ b env μ' Q X)) X := by
  rw [wpE]; exact ie fun v μ' => by
    cases truthV μ' v with
    | none => exact Iff.rfl
    | some b => cases b <;> exact Iff.rfl
theorem e_call {f : String} {m : Md} {l : Es} : wpE Φ (.call f m l) env μ Q X ↔ wpEs Φ l env μ (fun vs μ' => Φ f m vs μ' Q X) X := Iff.rfl
theorem e_bi {b : Bi} {l : Es} : wpE Φ (.bi b l) env μ Q X ↔ wpEs Φ l env μ (fun vs μ' => brV (biV μ' b vs) fun r => Q r μ') X := by
  rw [wpE]; exact is' fun v μ' => by cases biV μ' b v <;> exact Iff.rfl
theorem e_me {m : Me} {o : E} {l : Es} : wpE Φ (.me m o l) env μ Q X ↔ wpE Φ o env μ (fun v μ1 => meOk μ1 m v = true ∧ wpEs Φ l env μ1 (fun vs μ2 => brV (meV μ2 m v vs) fun p => Q p.1 p.2) X) X := by
  rw [wpE]; exact ie fun v μ1 => and_congr Iff.rfl (is' fun vs μ2 => by cases meV μ2 m v vs <;> exact Iff.rfl)
theorem e_isT {a : E} {t : Ty} : wpE Φ (.isT a t) env μ Q X ↔ wpE Φ a env μ (fun v μ' => brV (tyV μ' t v) fun b => Q (.bl b) μ') X := by
  rw [wpE]; exact ie fun v μ' => by cases tyV μ' t v <;> exact Iff.rfl
theorem e_new {a : E} : wpE Φ (.new a) env μ Q X ↔ wpE Φ a env μ (fun v μ' => isCont v = true ∧ ∀ p, μ' p = none → Q (.ref p) (μ'.set p v)) X := by
  rw [wpE]

theorem e_attr {a : E} {f : String} : wpE Φ (.attr a f) env μ Q X ↔ wpE Φ a env μ (fun v μ' => brV (attrV μ' v f) fun r => Q r μ') X := by
  rw [wpE]; exact ie fun v μ' => by cases attrV μ' v f <;> exact Iff.rfl
theorem e_mth {c f : String} {o : E} {m : Md} {l : Es} : wpE Φ (.mth c o f m l) env μ Q X ↔ wpE Φ o env μ (fun v μ1 => isIns μ1 v c = true ∧ wpEs Φ l env μ1 (fun vs μ2 => Φ f m (v :: vs) μ2 Q X) X) X := by
  rw [wpE]
theorem e_mk {c f : String} {l : Es} : wpE Φ (.mk c f l) env μ Q X ↔ wpEs Φ l env μ (fun vs μ1 => ∀ p, μ1 p = none → Φ f .keep (.ref p :: vs) (μ1.set p (.ins c [])) (fun r μ2 => isNo r = true ∧ Q (.ref p) μ2) X) X := by
  rw [wpE]
  have : ∀ p : Ad, (fun (r : Val) (μ2 : Mu) => match r with
    | .non => Q (.ref p) μ2
    | _ => False) = fun r μ2 => isNo r = true ∧ Q (.ref p) μ2 := fun p => by
    funext r μ2
    cases r <;> simp [isNo]
  exact is' fun vs μ1 => forall_congr' fun p => forall_congr' fun h => iff_of_eq (congrArg (fun K => Φ.call f .keep (.ref p :: vs) (μ1.set p (.ins c [])) K X) (this p))
@[simp] theorem asg_n {i : Nat} {v : Val} : (Tg.n i).asg v env = some (env.set i (some v)) := rfl
@[simp] theorem asg_t {ts : List Tg} {vs : List Val} : (Tg.t ts).asg (.tup vs) env = if ts.length = vs.length then asgL ts vs env else none := rfl
@[simp] theorem asg_l {ts : List Tg} {vs : List Val} : (Tg.t ts).asg (.lst vs) env = if ts.length = vs.length then asgL ts vs env else none := rfl
@[simp] theorem asgL_nil : asgL [] [] env = some env := rfl
@[simp] theorem asgL_cons {t : Tg} {ts : List Tg} {v : Val} {vs : List Val} : asgL (t :: ts) (v :: vs) env = (t.asg v env).bind fun e => asgL ts vs e := rfl
/-! ### statements -/
theorem w_skip : wpS Φ .skip env μ D ↔ D.nx env μ := Iff.rfl
theorem w_seq {a b : S} : wpS Φ (.seq a b) env μ D ↔ wpS Φ a env μ { D with nx := fun env' μ' => wpS Φ b env' μ' D } := Iff.rfl
theorem w_ex {e : E} : wpS Φ (.ex e) env μ D ↔ wpE Φ e env μ (fun _ μ' => D.nx env μ') fun x μ' => D.ex x env μ' := Iff.rfl
theorem w_asg {i : Nat} {e : E} : wpS Φ (.asg i e) env μ D ↔ wpE Φ e env μ (fun v μ' => D.nx (env.set i (some v)) μ') fun x μ' => D.ex x env μ' := Iff.rfl
theorem w_asgT {t : Tg} {e : E} : wpS Φ (.asgT t e) env μ D ↔ wpE Φ e env μ (fun v μ' => brV (t.asg v env) fun env' => D.nx env' μ') fun x μ' => D.ex x env μ' := by
  rw [wpS]; exact ie fun v μ' => by cases t.asg v env <;> exact Iff.rfl
theorem w_setix {o i e : E} : wpS Φ (.setix o i e) env μ D ↔ wpE Φ e env μ (fun v μ1 => wpE Φ o env μ1 (fun ov μ2 => wpE Φ i env μ2 (fun iv μ3 => brV (setV μ3 ov iv v) fun μ4 => D.nx env μ4) fun x μ' => D.ex x env μ') fun x μ' => D.ex x env μ') fun x μ' => D.ex x env μ' := by
  rw [wpS]; exact ie fun v μ1 => ie fun ov μ2 => ie fun iv μ3 => by cases setV μ3 ov iv v <;> exact Iff.rfl
theorem w_setattr {o e : E} {f : String} : wpS Φ (.setattr o f e) env μ D ↔ wpE Φ e env μ (fun v μ1 => wpE Φ o env μ1 (fun ov μ2 => brV (setAttrV μ2 ov f v) fun μ3 => D.nx env μ3) fun x μ' => D.ex x env μ') fun x μ' => D.ex x env μ' := by
  rw [wpS]; exact ie fun v μ1 => ie fun ov μ2 => by cases setAttrV μ2 ov f v <;> exact Iff.rfl
theorem w_ite {c : E} {a b : S} : wpS Φ (.ite c a b) env μ D ↔ wpE Φ c env μ (fun v μ' => br (truthV μ' v) (wpS Φ a env μ' D) (wpS Φ b env μ' D)) fun x μ' => D.ex x env μ' := by
  rw [wpS]; exact ie fun v μ' => by
    cases truthV μ' v with
    | none => exact Iff.rfl
    | some b => cases b <;> exact Iff.rfl
theorem br_iff {o : Option Bool} {A A' B B' : Prop} (h1 : o = some true → (A ↔ A')) (h2 : o = some false → (B ↔ B')) : br o A B ↔ br o A' B' := by
  cases o with
  | none => exact Iff.rfl
  | some b =>
    cases b with
    | false => exact h2 rfl
    | true => exact h1 rfl
@[simp 2000] theorem w_ite_or {a b : E} {s t : S} : wpS Φ (.ite (.or a b) s t) env μ D ↔ wpS Φ (.ite a s (.ite b s t)) env μ D := by
  rw [w_ite, w_ite, e_or]
  refine ie fun v μ' => br_iff (fun h => ?_) (fun _ => ?_)
  · rw [h]; exact Iff.rfl
  · rw [w_ite]
@[simp 2000] theorem w_ite_and {a b : E} {s t : S} : wpS Φ (.ite (.and a b) s t) env μ D ↔ wpS Φ (.ite a (.ite b s t) t) env μ D := by
  rw [w_ite, w_ite, e_and]
  refine ie fun v μ' => br_iff (fun _ => ?_) (fun h => ?_)
  · rw [w_ite]
  · rw [h]; exact Iff.rfl
@[simp 2000] theorem w_ite_not {a : E} {s t : S} : wpS Φ (.ite (.not a) s t) env μ D ↔ wpS Φ (.ite a t s) env μ D := by
  rw [w_ite, w_ite, e_not]
  refine ie fun v μ' => ?_
  cases truthV μ' v with
  | none => exact Iff.rfl
  | some b => cases b <;> exact Iff.rfl
theorem w_ret {e : E} : wpS Φ (.ret e) env μ D ↔ wpE Φ e env μ (fun v μ' => D.rt v μ') fun x μ' => D.ex x env μ' := Iff.rfl
theorem w_raise {c : String} : wpS Φ (.raise c) env μ D ↔ D.ex (.exn c []) env μ := Iff.rfl
theorem w_try {b hb : S} {cs : List String} : wpS Φ (.tryS b cs none hb) env μ D ↔ wpS Φ b env μ { D with ex := fun x env' μ' => exE x fun c l => if (cs.any fun d => isSub c d) = true then wpS Φ hb env' μ' D else D.ex x env' μ' } := by
  rw [wpS]
  have : (fun (x : Val) (env' : Env) (μ' : Mu) => match x with
    | .exn c l => if (cs.any fun d => isSub c d) = true then wpS Φ hb env' μ' D else D.ex x env' μ'
    | _ => False) = fun x env' μ' => exE x fun c l => if (cs.any fun d => isSub c d) = true then wpS Φ hb env' μ' D else D.ex x env' μ' := by
    funext x env' μ'
    cases x <;> rfl
  rw [← this] <;> exact Iff.rfl
theorem w_tryA {b hb : S} {cs : List String} {i : Nat} : wpS Φ (.tryS b cs (some i) hb) env μ D ↔ wpS Φ b env μ { D with ex := fun x env' μ' => exE x fun c l => if (cs.any fun d => isSub c d) = true then ∀ a, μ' a = none → wpS (Φ.at c a) hb (env'.set i (some (.ref a))) μ' { D with nx := fun e2 μ2 => D.nx (e2.set i none) μ2 } else D.ex x env' μ' } := by
  rw [wpS]
  have : (fun (x : Val) (env' : Env) (μ' : Mu) => match x with
    | .exn c l => if (cs.any fun d => isSub c d) = true then ∀ a, μ' a = none → wpS (Φ.at c a) hb (env'.set i (some (.ref a))) μ' { D with nx := fun e2 μ2 => D.nx (e2.set i none) μ2 } else D.ex x env' μ'
    | _ => False) = fun x env' μ' => exE x fun c l => if (cs.any fun d => isSub c d) = true then ∀ a, μ' a = none → wpS (Φ.at c a) hb (env'.set i (some (.ref a))) μ' { D with nx := fun e2 μ2 => D.nx (e2.set i none) μ2 } else D.ex x env' μ' := by
    funext x env' μ'
    cases x <;> rfl
  rw [← this] <;> exact Iff.rfl
theorem e_isC {a : E} {c : String} : wpE Φ (.isC a c) env μ Q X ↔ wpE Φ a env μ (fun v μ' => pinQ Φ.pin v c fun b => Q (.bl b) μ') X := Iff.rfl
@[simp] theorem pin_at {c d : String} {a : Ad} {Q : Bool → Prop} : pinQ (Φ.at c a).pin (.ref a) d Q ↔ Q (isSub c d) := ⟨fun h => h.2, fun h => ⟨rfl, h⟩⟩
theorem at_mono {c : String} {a : Ad} (h : MonoP Φ) : MonoP (Φ.at c a) := h
theorem at_call {c : String} {a : Ad} {f : String} {m : Md} {args : List Val} : (Φ.at c a).call f m args μ Q X ↔ Φ.call f m args μ Q X := Iff.rfl
/-- a call -/
theorem call_ok {P : Prog} {n : Nat} {f : String} {d : Fn} {m : Md} {args : List Val} (h : P f = some d) (hl : args.length = d.ps)
    (q : wpS (phi P n) d.body (args.map some ++ List.replicate (d.slots - d.ps) none) μ
        { nx := fun _ μ' => finM m μ Q .non μ', rt := fun v μ' => finM m μ Q v μ', ex := fun x _ μ' => X (reso μ μ' 4 x) (match m with | .keep => μ' | _ => μ'.cut μ) }) : phi P (n + 1) f m args μ Q X := by
  rw [phi_succ, h]
  exact ⟨hl, q⟩
end

/-! ### what may be changed -/
section
variable {μ μ' : Mu} {p a : Ad} {v w : Val}
theorem Mu.ext {μ μ' : Mu} (h : ∀ a, μ a = μ' a) : μ = μ' := funext h
@[simp] theorem mset_same : (μ.set p v) p = some v := if_pos rfl
theorem mset_ne (h : a ≠ p) : (μ.set p v) a = μ a := if_neg h
@[simp] theorem mset_set : (μ.set p v).set p w = μ.set p w := by
  funext b
  unfold Mu.set
  by_cases h : b = p <;> simp [h]
theorem mset_comm (h : a ≠ p) : (μ.set p v).set a w = (μ.set a w).set p v := by
  funext b
  unfold Mu.set
  by_cases h1 : b = p
  · subst h1; simp [Ne.symm h]
  · simp [h1]
theorem mset_id (h : μ p = some v) : μ.set p v = μ := by
  funext b
  unfold Mu.set
  by_cases h1 : b = p
  · subst h1; simp [h]
  · simp [h1]
theorem cut_self : μ.cut μ = μ := by
  funext b
  unfold Mu.cut
  cases h : μ b <;> simp [h]
theorem cut_new (h : μ p = none) : (μ'.set p v).cut μ = μ'.cut μ := by
  funext b
  unfold Mu.cut Mu.set
  by_cases h1 : b = p
  · subst h1; simp [h]
  · simp [h1]
theorem cut_old (h : μ p = some w) : (μ'.set p v).cut μ = (μ'.cut μ).set p v := by
  funext b
  unfold Mu.cut Mu.set
  by_cases h1 : b = p
  · subst h1; simp [h]
  · simp [h1]
theorem ref_ne (h : μ a = none) (h' : μ p = some v) : a ≠ p := fun e => by rw [e, h'] at h; cases h
theorem ref_ne' (h : μ a = none) (h' : μ p = some v) : p ≠ a := fun e => by rw [← e, h'] at h; cases h
/-! data by value -/
mutual
def nr : Val → Bool
  | .ref _ => false
  | .tup l => nrL l
  | .lst l => nrL l
  | .dct l => nrL l
  | .exn _ l => nrL l
  | .ins _ l => nrL l
  | _ => true
def nrL : List Val → Bool
  | [] => true
  | v :: r => nr v && nrL r
end
mutual
theorem mapRef_nr {f : Ad → Option Val} : ∀ (v : Val), nr v = true → mapRef f v = v
  | .non, _ => rfl
  | .bl _, _ => rfl
  | .int _, _ => rfl
  | .str _, _ => rfl
  | .ref _, h => by cases h
  | .tup l, h => by rw [mapRef, mapRefL_nr l h]
  | .lst l, h => by rw [mapRef, mapRefL_nr l h]
  | .dct l, h => by rw [mapRef, mapRefL_nr l h]
  | .exn _ l, h => by rw [mapRef, mapRefL_nr l h]
  | .ins _ l, h => by rw [mapRef, mapRefL_nr l h]
theorem mapRefL_nr {f : Ad → Option Val} : ∀ (l : List Val), nrL l = true → mapRefL f l = l
  | [], _ => rfl
  | v :: r, h => by
    rw [nrL, Bool.and_eq_true] at h
    rw [mapRefL, mapRef_nr v h.1, mapRefL_nr r h.2]
end
theorem reso_nr {n : Nat} (h : nr v = true) : reso μ μ' n v = v := mapRef_nr v h
mutual
theorem mapRef_no : ∀ (v : Val), mapRef (fun _ => none) v = v
  | .non => rfl
  | .bl _ => rfl
  | .int _ => rfl
  | .str _ => rfl
  | .ref _ => rfl
  | .tup l => by rw [mapRef, mapRefL_no l]
  | .lst l => by rw [mapRef, mapRefL_no l]
  | .dct l => by rw [mapRef, mapRefL_no l]
  | .exn _ l => by rw [mapRef, mapRefL_no l]
  | .ins _ l => by rw [mapRef, mapRefL_no l]
theorem mapRefL_no : ∀ (l : List Val), mapRefL (fun _ => none) l = l
  | [] => rfl
  | v :: r => by rw [mapRefL, mapRef_no v, mapRefL_no r]
end
theorem reso_new {l : Val} {n : Nat} (h : μ p = none) (h' : μ' p = some l) (hn : nr l = true) : reso μ μ' (n + 1) (.ref p) = l := by
  unfold reso
  rw [mapRef, resoF]
  simp only [h, h', Option.isSome_none, Bool.false_eq_true, if_false, Option.map_some, Option.getD_some]
  exact mapRef_nr l hn
theorem resoF_self {n : Nat} : resoF μ μ n = fun _ => none := by
  cases n with
  | zero => rfl
  | succ n =>
    funext a
    rw [resoF]
    cases h : μ a <;> simp
@[simp] theorem reso_self {n : Nat} : reso μ μ n v = v := by unfold reso; rw [resoF_self]; exact mapRef_no v
@[simp] theorem cut_self' : μ.cut μ = μ := cut_self
@[simp] theorem fin_self {Q : Val → Mu → Prop} : finM .val μ Q v μ ↔ Q v μ := by
  show Q (reso μ μ 4 v) (μ.cut μ) ↔ _
  rw [reso_self, cut_self]
/-- a def that hands back data and changes nothing -/
theorem fin_val {Q : Val → Mu → Prop} (h : nr v = true) (hc : μ'.cut μ = μ) (q : Q v μ) : finM .val μ Q v μ' := by
  show Q (reso μ μ' 4 v) (μ'.cut μ)
  rw [reso_nr h, hc]
  exact q
theorem nrL_iff {l : List Val} : nrL l = true ↔ ∀ v ∈ l, nr v = true := by
  induction l with
  | nil => simp [nrL]
  | cons v r ih => simp [nrL, ih]
theorem nrL_ints (l : List Int) : nrL (l.map Val.int) = true := by rw [nrL_iff]; simp [nr]
theorem nrL_strs (l : List Str) : nrL (l.map Val.str) = true := by rw [nrL_iff]; simp [nr]
end

/-! ### loops -/
/-- a for loop, by what stands behind the items that are done -/
theorem for_rule {Φ : Ph} (hΦ : MonoP Φ) {t : Tg} {it : It} {b : S} {env : Env} {μ : Mu} {D : En}
    (h : wpI Φ it env μ (fun l a μ1 => ∃ I : List Val → Env → Mu → Prop, I [] env μ1 ∧
      (∀ done v rest env' μ', l = done ++ v :: rest → I done env' μ' → gOk a μ' ∧ brV (t.asg v env') fun env2 => wpS Φ b env2 μ' { D with nx := fun e m => I (done ++ [v]) e m }) ∧
      (∀ env' μ', I l env' μ' → gOk a μ' ∧ D.nx env' μ')) fun x μ' => D.ex x env μ') : wpS Φ (.forS t it b) env μ D := by
  rw [wpS]
  refine wpI_mono hΦ it env μ _ _ _ _ (fun l a μ1 ⟨I, h0, hs, he⟩ => ?_) (fun _ _ z => z) h
  have key : ∀ (rest done : List Val) (env' : Env) (μ' : Mu), l = done ++ rest → I done env' μ' → loopF (gOk a) (fun v env' μ' R => match t.asg v env' with
    | some env2 => wpS Φ b env2 μ' { D with nx := R }
    | none => False) D.nx rest env' μ' := by
    intro rest
    induction rest with
    | nil => intro done env' μ' e hI; rw [List.append_nil] at e; subst e; exact he _ _ hI
    | cons v r ih =>
      intro done env' μ' e hI
      have := hs done v r env' μ' e hI
      refine ⟨this.1, ?_⟩
      have h2 := this.2
      cases ha : t.asg v env' with
      | none => rw [ha] at h2; exact h2.elim
      | some env2 =>
        rw [ha] at h2
        dsimp only
        rw [ha]
        refine wpS_mono hΦ b env2 μ' { D with nx := fun e m => I (done ++ [v]) e m } _ ⟨fun e2 m z => ?_, fun _ _ z => z, fun _ _ _ z => z⟩ h2
        exact ih (done ++ [v]) e2 m (by rw [List.append_assoc]; exact e) z
  exact key l [] env μ1 rfl h0
theorem i_e {Φ : Ph} {a : E} {env : Env} {μ : Mu} {Q : List Val → Option (Ad × List Val) → Mu → Prop} {X : XQ} (h : wpE Φ a env μ (fun v μ' => (∃ l, content μ' v = some (.lst l) ∧ Q l (guard v l) μ') ∨ (∃ l, content μ' v = some (.tup l) ∧ Q l none μ')) X) (hΦ : MonoP Φ) : wpI Φ (.e a) env μ Q X := by
  rw [wpI]
  refine wpE_mono hΦ a env μ _ _ _ _ (fun v μ' z => ?_) (fun _ _ z => z) h
  rcases z with ⟨l, e, q⟩ | ⟨l, e, q⟩ <;> (rw [e]; exact q)
theorem i_range {Φ : Ph} {a : E} {env : Env} {μ : Mu} {Q : List Val → Option (Ad × List Val) → Mu → Prop} {X : XQ} : wpI Φ (.range a) env μ Q X ↔ wpE Φ a env μ (fun v μ' => brV (intOf v) fun j => -(2 ^ 62) ≤ j ∧ j < 2 ^ 62 ∧ Q (intsFrom 0 j.toNat) none μ') X := by
  rw [wpI]; exact ie fun v μ' => by cases v <;> exact Iff.rfl
theorem i_enum {Φ : Ph} {a : E} {env : Env} {μ : Mu} {Q : List Val → Option (Ad × List Val) → Mu → Prop} {X : XQ} (h : wpE Φ a env μ (fun v μ' => ∃ l, content μ' v = some (.lst l) ∧ Q (enumL 0 l) (guard v l) μ') X) (hΦ : MonoP Φ) : wpI Φ (.enum a) env μ Q X := by
  rw [wpI]
  refine wpE_mono hΦ a env μ _ _ _ _ (fun v μ' ⟨l, e, q⟩ => ?_) (fun _ _ z => z) h
  rw [e]; exact q
theorem i_zip {Φ : Ph} {a b : E} {env : Env} {μ : Mu} {Q : List Val → Option (Ad × List Val) → Mu → Prop} {X : XQ} (h : wpE Φ a env μ (fun v μ1 => wpE Φ b env μ1 (fun w μ2 => ∃ l l2, seqOf μ2 v = some l ∧ seqOf μ2 w = some l2 ∧ guard v l = none ∧ Q (zipL l l2) (guard w l2) μ2) X) X) (hΦ : MonoP Φ) : wpI Φ (.zip a b) env μ Q X := by
  rw [wpI]
  refine wpE_mono hΦ a env μ _ _ _ _ (fun v μ1 z => wpE_mono hΦ b env μ1 _ _ _ _ (fun w μ2 ⟨l, l2, e1, e2, q⟩ => ?_) (fun _ _ z => z) z) (fun _ _ z => z) h
  rw [e1, e2]; exact q
theorem enum_mem {x : Val} : ∀ {l : List Val} {i : Int}, x ∈ enumL i l → ∃ (k : Int) (v : Val), x = .tup [.int k, v] ∧ v ∈ l ∧ i ≤ k ∧ k < i + l.length
  | [], i, h => by cases h
  | v :: r, i, h => by
    rcases List.mem_cons.mp h with e | e
    · exact ⟨i, v, e, List.mem_cons_self, by omega, by simp; omega⟩
    · obtain ⟨k, w, e1, h1, h2, h3⟩ := enum_mem e
      exact ⟨k, w, e1, List.mem_cons_of_mem _ h1, by omega, by simp; omega⟩
/-- a while loop, by a measure that falls -/
theorem while_rule {Φ : Ph} (hΦ : MonoP Φ) {c : E} {b : S} {env : Env} {μ : Mu} {D : En} (I : Nat → Env → Mu → Prop) (k : Nat) (h0 : I k env μ)
    (hs : ∀ k env' μ', I k env' μ' → wpE Φ c env' μ' (fun v μ1 => br (truthV μ1 v) (wpS Φ b env' μ1 { D with nx := fun e m => ∃ j, j < k ∧ I j e m }) (D.nx env' μ1)) fun x μ1 => D.ex x env' μ1) : wpS Φ (.whileS c b) env μ D := by
  rw [wpS]
  refine ⟨k + 1, ?_⟩
  have key : ∀ (N k : Nat) (env : Env) (μ : Mu), k < N → I k env μ → loopW (fun env' μ' R => wpE Φ c env' μ' (fun v μ1 => match truthV μ1 v with
    | some true => wpS Φ b env' μ1 { D with nx := R }
    | some false => D.nx env' μ1
    | none => False) fun x μ1 => D.ex x env' μ1) N env μ := by
    intro N
    induction N with
    | zero => intro k env μ hk; omega
    | succ N ih =>
      intro k env μ hk hI
      have := hs k env μ hI
      show wpE Φ c env μ _ _
      refine wpE_mono hΦ c env μ _ _ _ _ (fun v μ1 z => ?_) (fun _ _ z => z) this
      cases ht : truthV μ1 v with
      | none => rw [ht] at z; exact z.elim
      | some t =>
        rw [ht] at z
        cases t with
        | false => exact z
        | true => exact wpS_mono hΦ b env μ1 { D with nx := fun e m => ∃ j, j < k ∧ I j e m } _ ⟨fun e2 m ⟨j, hj, hI'⟩ => ih j e2 m (by omega) hI', fun _ _ z => z, fun _ _ _ z => z⟩ z
  exact key (k + 1) k env μ (by omega) h0
theorem fin_new {μ : Mu} {p : Ad} {v : Val} {Q : Val → Mu → Prop} (hp : μ p = none) (hn : nr v = true) : finM .val μ Q (.ref p) (μ.set p v) ↔ Q v μ := by
  show Q (reso μ (μ.set p v) 4 (.ref p)) ((μ.set p v).cut μ) ↔ _
  rw [reso_new hp mset_same hn, cut_new hp, cut_self]
theorem fin_obj {μ : Mu} {p : Ad} {v : Val} {Q : Val → Mu → Prop} (hp : μ p = none) : finM .obj μ Q (.ref p) (μ.set p v) ↔ Q (.ref p) (μ.set p v) := by
  simp only [finM, mset_same, hp, true_and, reso_self]
  rw [cut_new hp, cut_self]
/-- a comprehension, by what is done -/
theorem comp_inv {Φ : Ph} (hΦ : MonoP Φ) {elt : E} {tg : Tg} {own : List Nat} {it : It} {cond : E} {env : Env} {μ : Mu} {Q : Val → Mu → Prop} {X : XQ}
    (h : wpI Φ it env μ (fun l a μ1 => ∃ I : List Val → List Val → Mu → Prop, I [] [] μ1 ∧
      (∀ done v rest acc μ', l = done ++ v :: rest → I done acc μ' → gOk a μ' ∧ brV (tg.asg v (wipe env own)) fun env' =>
        wpE Φ cond env' μ' (fun t μ3 => br (truthV μ3 t) (wpE Φ elt env' μ3 (fun y μ4 => acc.length < big ∧ I (done ++ [v]) (acc ++ [y]) μ4) fun _ _ => False) (I (done ++ [v]) acc μ3)) fun _ _ => False) ∧
      (∀ acc μ', I l acc μ' → gOk a μ' ∧ Q (.lst acc) μ')) X) : wpE Φ (.comp elt tg own it cond) env μ Q X := by
  rw [wpE]
  refine wpI_mono hΦ it env μ _ _ _ _ (fun l a μ1 ⟨I, h0, hs, he⟩ => ?_) (fun _ _ z => z) h
  have key : ∀ (rest done acc : List Val) (μ' : Mu), l = done ++ rest → I done acc μ' → loopC (gOk a) (fun v μ2 R => match tg.asg v (wipe env own) with
    | some env' => wpE Φ cond env' μ2 (fun t μ3 => match truthV μ3 t with
      | some true => wpE Φ elt env' μ3 (fun y μ4 => R (some y) μ4) fun _ _ => False
      | some false => R none μ3
      | none => False) fun _ _ => False
    | none => False) rest acc μ' fun r μ' => Q (.lst r) μ' := by
    intro rest
    induction rest with
    | nil => intro done acc μ' e hI; rw [List.append_nil] at e; subst e; exact he _ _ hI
    | cons v r ih =>
      intro done acc μ' e hI
      have := hs done v r acc μ' e hI
      refine ⟨this.1, ?_⟩
      have h2 := this.2
      dsimp only
      cases ha : tg.asg v (wipe env own) with
      | none => rw [ha] at h2; exact h2.elim
      | some env' =>
        rw [ha] at h2
        refine wpE_mono hΦ cond env' μ' _ _ _ _ (fun t μ3 z => ?_) (fun _ _ z => z) h2
        cases ht : truthV μ3 t with
        | none => rw [ht] at z; exact z.elim
        | some b =>
          rw [ht] at z
          cases b with
          | false => exact ih (done ++ [v]) acc μ3 (by rw [List.append_assoc]; exact e) z
          | true => exact wpE_mono hΦ elt env' μ3 _ _ _ _ (fun y μ4 y2 => ⟨y2.1, ih (done ++ [v]) (acc ++ [y]) μ4 (by rw [List.append_assoc]; exact e) y2.2⟩) (fun _ _ z => z) z
  exact key l [] [] μ1 rfl h0
/-- a comprehension that changes nothing -/
theorem comp_map {Φ : Ph} (hΦ : MonoP Φ) {elt : E} {tg : Tg} {own : List Nat} {it : It} {cond : E} {env : Env} {μ : Mu} {Q : Val → Mu → Prop} {X : XQ}
    (h : wpI Φ it env μ (fun l a μ1 => ∃ (p : Val → Bool) (f : Val → Val), gOk a μ1 ∧ l.length ≤ big ∧
      (∀ v ∈ l, brV (tg.asg v (wipe env own)) fun env' => wpE Φ cond env' μ1 (fun t μ3 => μ3 = μ1 ∧ br (truthV μ1 t) (p v = true ∧ wpE Φ elt env' μ1 (fun y μ4 => μ4 = μ1 ∧ y = f v) fun _ _ => False) (p v = false)) fun _ _ => False) ∧
      Q (.lst ((l.filter p).map f)) μ1) X) : wpE Φ (.comp elt tg own it cond) env μ Q X := by
  refine comp_inv hΦ (wpI_mono hΦ it env μ _ _ _ _ (fun l a μ1 ⟨p, f, hg, hl, hs, hq⟩ => ?_) (fun _ _ z => z) h)
  refine ⟨fun done acc μ' => μ' = μ1 ∧ acc = (done.filter p).map f, ⟨rfl, rfl⟩, ?_, ?_⟩
  · rintro done v rest acc μ' e ⟨rfl, rfl⟩
    refine ⟨hg, ?_⟩
    have h2 := hs v (by rw [e]; simp)
    cases ha : tg.asg v (wipe env own) with
    | none => rw [ha] at h2; exact h2.elim
    | some env' =>
      rw [ha] at h2
      refine wpE_mono hΦ cond env' μ' _ _ _ _ (fun t μ3 z => ?_) (fun _ _ z => z) h2
      obtain ⟨rfl, z⟩ := z
      cases ht : truthV μ3 t with
      | none => rw [ht] at z; exact z.elim
      | some b =>
        rw [ht] at z
        cases b with
        | false =>
          refine ⟨rfl, ?_⟩
          have z : p v = false := z
          rw [List.filter_append]
          simp [z]
        | true =>
          obtain ⟨hp, z⟩ := z
          refine wpE_mono hΦ elt env' μ3 _ _ _ _ (fun y μ4 y2 => ⟨?_, y2.1, ?_⟩) (fun _ _ z => z) z
          · have h3 : (done.filter p).length ≤ done.length := List.length_filter_le _ _
            have h4 : done.length < l.length := by rw [e]; simp
            rw [List.length_map]
            omega
          · rw [y2.2, List.filter_append]
            simp [hp]
  · rintro acc μ' ⟨rfl, rfl⟩
    exact ⟨hg, hq⟩
theorem split_map {α : Type} {g : α → Val} {xs ys : List α} {v : Val} {rest : List Val} (e : xs.map g = ys.map g ++ v :: rest) {zs : List α} (hz : xs = ys ++ zs) : ∃ x zs', zs = x :: zs' ∧ v = g x := by
  subst hz
  rw [List.map_append] at e
  have e2 := List.append_cancel_left e
  cases zs with
  | nil => cases e2
  | cons x zs' =>
    rw [List.map_cons] at e2
    injection e2 with h1 h2
    exact ⟨x, zs', rfl, h1.symm⟩
/-- .. over data of one kind -/
theorem comp_mapT {α : Type} (g : α → Val) (xs : List α) (p : α → Bool) (f : α → Val) {Φ : Ph} (hΦ : MonoP Φ) {elt : E} {tg : Tg} {own : List Nat} {it : It} {cond : E} {env : Env} {μ : Mu} {Q : Val → Mu → Prop} {X : XQ}
    (h : wpI Φ it env μ (fun l a μ1 => l = xs.map g ∧ gOk a μ1 ∧ xs.length ≤ big ∧
      (∀ x ∈ xs, brV (tg.asg (g x) (wipe env own)) fun env' => wpE Φ cond env' μ1 (fun t μ3 => μ3 = μ1 ∧ br (truthV μ1 t) (p x = true ∧ wpE Φ elt env' μ1 (fun y μ4 => μ4 = μ1 ∧ y = f x) fun _ _ => False) (p x = false)) fun _ _ => False) ∧
      Q (.lst ((xs.filter p).map f)) μ1) X) : wpE Φ (.comp elt tg own it cond) env μ Q X := by
  refine comp_inv hΦ (wpI_mono hΦ it env μ _ _ _ _ (fun l a μ1 ⟨hl0, hg, hl, hs, hq⟩ => ?_) (fun _ _ z => z) h)
  subst hl0
  refine ⟨fun done acc μ' => μ' = μ1 ∧ ∃ ys zs, xs = ys ++ zs ∧ done = ys.map g ∧ acc = (ys.filter p).map f, ⟨rfl, [], xs, rfl, rfl, rfl⟩, ?_, ?_⟩
  · rintro done v rest acc μ' e ⟨rfl, ys, zs, hx, rfl, rfl⟩
    refine ⟨hg, ?_⟩
    obtain ⟨x, zs', rfl, rfl⟩ := split_map e hx
    have h2 := hs x (by rw [hx]; simp)
    cases ha : tg.asg (g x) (wipe env own) with
    | none => rw [ha] at h2; exact h2.elim
    | some env' =>
      rw [ha] at h2
      refine wpE_mono hΦ cond env' μ' _ _ _ _ (fun t μ3 z => ?_) (fun _ _ z => z) h2
      obtain ⟨rfl, z⟩ := z
      cases ht : truthV μ3 t with
      | none => rw [ht] at z; exact z.elim
      | some b =>
        rw [ht] at z
        cases b with
        | false =>
          refine ⟨rfl, ys ++ [x], zs', by rw [hx]; simp, by simp, ?_⟩
          have z : p x = false := z
          rw [List.filter_append]
          simp [z]
        | true =>
          obtain ⟨hp, z⟩ := z
          refine wpE_mono hΦ elt env' μ3 _ _ _ _ (fun y μ4 y2 => ⟨?_, y2.1, ys ++ [x], zs', by rw [hx]; simp, by simp, ?_⟩) (fun _ _ z => z) z
          · have h3 : (ys.filter p).length ≤ ys.length := List.length_filter_le _ _
            have h4 : ys.length < xs.length := by rw [hx]; simp
            rw [List.length_map]
            omega
          · rw [y2.2, List.filter_append]
            simp [hp]
  · rintro acc μ' ⟨rfl, ys, zs, hx, e, rfl⟩
    have hz : zs = [] := by
      have := congrArg List.length e
      rw [hx] at this
      simp at this
      exact this
    subst hz
    rw [List.append_nil] at hx
    subst hx
    exact ⟨hg, hq⟩
/-- what stands ahead leaves all as it is -/
theorem w_seq_id {Φ : Ph} (hΦ : MonoP Φ) {a b : S} {env : Env} {μ : Mu} {D : En} (h1 : wpS Φ a env μ { D with nx := fun e m => e = env ∧ m = μ }) (h2 : wpS Φ b env μ D) : wpS Φ (.seq a b) env μ D := by
  rw [w_seq]
  exact wpS_mono hΦ a env μ { D with nx := fun e m => e = env ∧ m = μ } _ ⟨fun e m ⟨h, h'⟩ => by subst h h'; exact h2, fun _ _ z => z, fun _ _ _ z => z⟩ h1
theorem comp_all {α : Type} (g : α → Val) (xs : List α) (f : α → Val) {Φ : Ph} (hΦ : MonoP Φ) {elt : E} {tg : Tg} {own : List Nat} {it : It} {env : Env} {μ : Mu} {Q : Val → Mu → Prop} {X : XQ}
    (h : wpI Φ it env μ (fun l a μ1 => l = xs.map g ∧ gOk a μ1 ∧ xs.length ≤ big ∧
      (∀ x ∈ xs, brV (tg.asg (g x) (wipe env own)) fun env' => wpE Φ elt env' μ1 (fun y μ4 => μ4 = μ1 ∧ y = f x) fun _ _ => False) ∧
      Q (.lst (xs.map f)) μ1) X) : wpE Φ (.comp elt tg own it (.c (.bl true))) env μ Q X := by
  refine comp_mapT g xs (fun _ => true) f hΦ (wpI_mono hΦ it env μ _ _ _ _ (fun l a μ1 ⟨h1, h2, h3, h4, h5⟩ => ⟨h1, h2, h3, fun x hx => ?_, ?_⟩) (fun _ _ z => z) h)
  · have := h4 x hx
    cases ha : tg.asg (g x) (wipe env own) with
    | none => rw [ha] at this; exact this.elim
    | some env' =>
      rw [ha] at this
      exact ⟨rfl, ⟨rfl, this⟩⟩
  · have : xs.filter (fun _ => true) = xs := List.filter_eq_self.mpr fun _ _ => rfl
    rw [this]
    exact h5
end Mi
/-! Mv: the operations on given data. -/
namespace Mi
open PySem (Str)
section
variable {μ : Mu} {i j k : Int} {b c : Bool} {s t : Str} {l r : List Val} {v w : Val} {p : Ad}
@[simp] theorem ct_ref : content μ (.ref p) = μ p := rfl
@[simp] theorem ct_non : content μ .non = some .non := rfl
@[simp] theorem ct_bl : content μ (.bl b) = some (.bl b) := rfl
@[simp] theorem ct_int : content μ (.int i) = some (.int i) := rfl
@[simp] theorem ct_str : content μ (.str s) = some (.str s) := rfl
@[simp] theorem ct_tup : content μ (.tup l) = some (.tup l) := rfl
@[simp] theorem ct_lst : content μ (.lst l) = some (.lst l) := rfl
@[simp] theorem ct_dct : content μ (.dct l) = some (.dct l) := rfl
@[simp] theorem tv_bl : truthV μ (.bl b) = some b := rfl
@[simp] theorem tv_non : truthV μ .non = some false := rfl
@[simp] theorem tv_int : truthV μ (.int i) = some (i != 0) := rfl
@[simp] theorem tv_lst : truthV μ (.lst l) = some (!l.isEmpty) := rfl
@[simp] theorem tv_tup : truthV μ (.tup l) = some (!l.isEmpty) := rfl
theorem tv_ref (h : μ p = some v) : truthV μ (.ref p) = truthC v := by unfold truthV; rw [ct_ref, h]; rfl
@[simp] theorem eq_int : eqV μ (.int i) (.int j) = some (i == j) := rfl
@[simp] theorem eq_str : eqV μ (.str s) (.str t) = some (s == t) := rfl
@[simp] theorem eq_nn : eqV μ .non .non = some true := rfl
@[simp] theorem eq_ni : eqV μ .non (.int i) = some false := rfl
@[simp] theorem eq_in : eqV μ (.int i) .non = some false := rfl
@[simp] theorem eq_bl : eqV μ (.bl b) (.bl c) = some (b == c) := rfl
theorem eqV_of {v w a b : Val} {r : Bool} (hv : content μ v = some a) (hw : content μ w = some b) (h : eqC a b = some r) : eqV μ v w = some r := by
  unfold eqV
  rw [hv, hw]
  show (match eqC a b with | some r => some r | none => eqT a b) = some r
  rw [h]
theorem eqV_of2 {v w a b : Val} (hv : content μ v = some a) (hw : content μ w = some b) (h0 : eqC a b = none) (h : eqT a b = some true) : eqV μ v w = some true := by
  unfold eqV
  rw [hv, hw]
  show (match eqC a b with | some r => some r | none => eqT a b) = some true
  rw [h0]
  exact h
theorem eq_plain {a d : Val} (h : plain a = true) (h' : plain d = true) (hd : min (dep a) (dep d) ≤ 150) (ha : ∀ l, a ≠ .dct l) : eqC a d = some (eqb a d) := by
  unfold eqC
  split
  · exact (ha _ rfl).elim
  · rw [if_pos ⟨h, h', hd⟩]
@[simp] theorem cm_lt : cmpV .lt (.int i) (.int j) = some (decide (i < j)) := rfl
@[simp] theorem cm_le : cmpV .le (.int i) (.int j) = some (decide (i ≤ j)) := rfl
@[simp] theorem cm_gt : cmpV .gt (.int i) (.int j) = some (decide (j < i)) := rfl
@[simp] theorem cm_ge : cmpV .ge (.int i) (.int j) = some (decide (j ≤ i)) := rfl
@[simp] theorem bn_add : binV μ .add (.int i) (.int j) = some (.int (i + j)) := rfl
@[simp] theorem bn_sub : binV μ .sub (.int i) (.int j) = some (.int (i - j)) := rfl
@[simp] theorem bn_mul : binV μ .mul (.int i) (.int j) = if CMul i j then some (.int (i * j)) else none := rfl
@[simp] theorem bn_mod : binV μ .mod (.int i) (.int j) = if j ≠ 0 then some (.int (i.fmod j)) else none := rfl
@[simp] theorem bn_div : binV μ .fdiv (.int i) (.int j) = if j ≠ 0 ∧ j.natAbs < 1073741824 then some (.int (i.fdiv j)) else none := rfl
@[simp] theorem bn_pow : binV μ .pow (.int i) (.int j) = if 0 ≤ j ∧ j ≤ 1000000 ∧ i.natAbs < 2 ^ 64 then some (.int (i ^ j.toNat)) else none := rfl
@[simp] theorem bn_addS : binV μ .add (.str s) (.str t) = if s.length + t.length ≤ big then some (.str (s ++ t)) else none := rfl
@[simp] theorem bn_addL : binV μ .add (.lst l) (.lst r) = if l.length + r.length ≤ big then some (.lst (l ++ r)) else none := rfl
@[simp] theorem bn_addT : binV μ .add (.tup l) (.tup r) = if l.length + r.length ≤ big then some (.tup (l ++ r)) else none := rfl
@[simp] theorem bn_mulS : binV μ .mul (.str s) (.int k) = if 1 ≤ k ∧ k < 2 ^ 62 ∧ s.length * k.toNat ≤ big then some (.str (repS s k)) else none := rfl
@[simp] theorem bn_mulL : binV μ .mul (.lst l) (.int k) = if -(2 ^ 62) ≤ k ∧ k < 2 ^ 62 ∧ l.length * k.toNat ≤ big then some (.lst (repL l k)) else none := rfl
@[simp] theorem ix_tup : ixV μ (.tup l) (.int i) = atI l i := rfl
@[simp] theorem ix_lst : ixV μ (.lst l) (.int i) = atI l i := rfl
@[simp] theorem ix_str : ixV μ (.str s) (.int i) = if s.length ≤ big then (atI s.cps.toList i).map fun c => .str ⟨#[c]⟩ else none := rfl
theorem ix_ref (h : μ p = some (.lst l)) : ixV μ (.ref p) (.int i) = atI l i := by unfold ixV; rw [ct_ref, h]; rfl
theorem ix_refD (h : μ p = some (.dct l)) (hk : isKey v = true) : ixV μ (.ref p) v = dLook v l := by unfold ixV; rw [ct_ref, h]; show (if isKey v = true then dLook v l else none) = _; rw [if_pos hk]
theorem ix_dct (hk : isKey v = true) : ixV μ (.dct l) v = dLook v l := by show (if isKey v = true then dLook v l else none) = _; rw [if_pos hk]
theorem at_nat {α : Type} {l : List α} {i : Int} {a : α} (h0 : 0 ≤ i) (h : l[i.toNat]? = some a) : atI l i = some a := by
  have : i.toNat < l.length := by
    rcases Nat.lt_or_ge i.toNat l.length with z | z
    · exact z
    · rw [List.getElem?_eq_none z] at h; cases h
  have h2 : i < (l.length : Int) := by omega
  unfold atI ixN
  rw [if_pos h0, if_pos h2]
  exact h
@[simp] theorem at0 {α : Type} {a : α} {r : List α} : atI (a :: r) 0 = some a := at_nat (by decide) rfl
@[simp] theorem at1 {α : Type} {a b : α} {r : List α} : atI (a :: b :: r) 1 = some b := at_nat (by decide) rfl
@[simp] theorem at2 {α : Type} {a b c : α} {r : List α} : atI (a :: b :: c :: r) 2 = some c := at_nat (by decide) rfl
@[simp] theorem at3 {α : Type} {a b c d : α} {r : List α} : atI (a :: b :: c :: d :: r) 3 = some d := at_nat (by decide) rfl
@[simp] theorem at4 {α : Type} {a b c d e : α} {r : List α} : atI (a :: b :: c :: d :: e :: r) 4 = some e := at_nat (by decide) rfl
theorem at_last {α : Type} {l : List α} {a : α} : atI (l ++ [a]) (-1) = some a := by
  unfold atI ixN
  have hl : (l ++ [a]).length = l.length + 1 := by simp
  rw [if_neg (by omega), if_pos (by omega), hl]
  have : (-1 + ((l.length + 1 : Nat) : Int)).toNat = l.length := by omega
  show (l ++ [a])[(-1 + ((l.length + 1 : Nat) : Int)).toNat]? = some a
  rw [this]
  simp
theorem ixN_last (n : Nat) : ixN (n + 1) (-1) = some n := by
  unfold ixN
  rw [if_neg (by omega), if_pos (by omega)]
  congr 1
  omega
@[simp] theorem ty_ii : tyV μ .int (.int i) = some true := rfl
@[simp] theorem ty_ib : tyV μ .int (.bl b) = some true := rfl
@[simp] theorem ty_in : tyV μ .int .non = some false := rfl
@[simp] theorem ty_bb : tyV μ .bool (.bl b) = some true := rfl
@[simp] theorem ty_bi : tyV μ .bool (.int i) = some false := rfl
@[simp] theorem ty_bn : tyV μ .bool .non = some false := rfl
theorem ty_lR (h : content μ v = some (.lst l)) : tyV μ .list v = some true := by unfold tyV; rw [h]; rfl
@[simp] theorem bi_int : biV μ .int [.bl b] = some (.int (if b = true then 1 else 0)) := rfl
@[simp] theorem bi_str : biV μ .str [.int i] = if i.natAbs.log2 < 1920 then some (.str (strI i)) else none := rfl
@[simp] theorem bi_abs : biV μ .abs [.int i] = some (.int i.natAbs) := rfl
@[simp] theorem bi_lenL : biV μ .len [.lst l] = some (.int l.length) := rfl
@[simp] theorem bi_lenT : biV μ .len [.tup l] = some (.int l.length) := rfl
@[simp] theorem bi_lenD : biV μ .len [.dct l] = some (.int l.length) := rfl
theorem bi_lenR (h : μ p = some (.lst l)) : biV μ .len [.ref p] = some (.int l.length) := by show lenF μ [.ref p] = _; simp only [lenF, ct_ref, h]
@[simp] theorem bi_listL : biV μ .list [.lst l] = some (.lst l) := rfl
@[simp] theorem bi_listT : biV μ .list [.tup l] = some (.lst l) := rfl
theorem bi_listR (h : μ p = some (.lst l)) : biV μ .list [.ref p] = some (.lst l) := by show listF μ [.ref p] = _; simp only [listF, ct_ref, h]
@[simp] theorem bi_tupL : biV μ .tuple [.lst l] = some (.tup l) := rfl
@[simp] theorem bi_tupT : biV μ .tuple [.tup l] = some (.tup l) := rfl
theorem bi_tupR (h : μ p = some (.lst l)) : biV μ .tuple [.ref p] = some (.tup l) := by show tupleF μ [.ref p] = _; simp only [tupleF, ct_ref, h]
theorem bi_dictR (h : μ p = some (.dct l)) : biV μ .dict [.ref p] = some (.dct l) := by show dictF μ [.ref p] = _; simp only [dictF, ct_ref, h]
theorem ok_append (h : μ p = some (.lst l)) : meOk μ .append (.ref p) = true := by show isLst μ (.ref p) = true; simp only [isLst, ct_ref, h]
theorem ok_pop (h : μ p = some (.lst l)) : meOk μ .pop (.ref p) = true := ok_append h
theorem ok_extend (h : μ p = some (.lst l)) : meOk μ .extend (.ref p) = true := ok_append h
theorem ok_getR (h : μ p = some (.dct l)) : meOk μ .get (.ref p) = true := by show isDct μ (.ref p) = true; simp only [isDct, ct_ref, h]
@[simp] theorem ok_getD : meOk μ .get (.dct l) = true := rfl
theorem me_append (h : μ p = some (.lst l)) : meV μ .append (.ref p) [v] = if l.length < big then some (.non, μ.set p (.lst (l ++ [v]))) else none := by show appendF μ (.ref p) [v] = _; simp only [appendF, h]
theorem me_pop (h : μ p = some (.lst (l ++ [v]))) : meV μ .pop (.ref p) [] = some (v, μ.set p (.lst l)) := by
  show popF μ (.ref p) [] = _
  simp only [popF, h]
  simp
theorem me_getD (hk : isKey v = true) : meV μ .get (.dct l) [v, w] = some ((dLook v l).getD w, μ) := by show getF μ (.dct l) [v, w] = _; simp [getF, hk]
theorem me_getR (h : μ p = some (.dct l)) (hk : isKey v = true) : meV μ .get (.ref p) [v, w] = some ((dLook v l).getD w, μ) := by show getF μ (.ref p) [v, w] = _; simp [getF, h, hk]
theorem ok_get (h : content μ w = some (.dct l)) : meOk μ .get w = true := by show isDct μ w = true; simp only [isDct, h]
theorem me_get {d : Val} (h : content μ w = some (.dct l)) (hk : isKey v = true) : meV μ .get w [v, d] = some ((dLook v l).getD d, μ) := by show getF μ w [v, d] = _; simp [getF, h, hk]
theorem set_lst {n : Nat} (h : μ p = some (.lst l)) (hn : ixN l.length k = some n) : setV μ (.ref p) (.int k) v = some (μ.set p (.lst (l.set n v))) := by simp [setV, h, hn]
theorem set_dct (h : μ p = some (.dct l)) (hk : isKey w = true) (hl : l.length < big) : setV μ (.ref p) w v = some (μ.set p (.dct (dPut w v l))) := by simp [setV, h, hk, hl]
@[simp] theorem key_int : isKey (.int i) = true := rfl
@[simp] theorem key_str : isKey (.str s) = true := rfl
@[simp] theorem in_tup1 {a : Str} : inV μ (.str s) (.tup [.str a]) = some (a == s || false) := rfl
@[simp] theorem in_tup2 {a b : Str} : inV μ (.str s) (.tup [.str a, .str b]) = some (a == s || (b == s || false)) := rfl
@[simp] theorem bi_max : biV μ .max [.int i, .int j] = some (.int (if j > i then j else i)) := rfl
@[simp] theorem bi_min : biV μ .min [.int i, .int j] = some (.int (if j < i then j else i)) := rfl
theorem ok_reverse (h : μ p = some (.lst l)) : meOk μ .reverse (.ref p) = true := ok_append h
theorem ok_clear (h : μ p = some (.lst l)) : meOk μ .clear (.ref p) = true := ok_append h
theorem me_extend (h : μ p = some (.lst l)) (h' : content μ v = some (.lst r)) : meV μ .extend (.ref p) [v] = if l.length + r.length ≤ big then some (.non, μ.set p (.lst (l ++ r))) else none := by
  show extendF μ (.ref p) [v] = _
  simp only [extendF, h, seqOf, h', Option.bind_some]
theorem me_extendT (h : μ p = some (.lst l)) (h' : content μ v = some (.tup r)) : meV μ .extend (.ref p) [v] = if l.length + r.length ≤ big then some (.non, μ.set p (.lst (l ++ r))) else none := by
  show extendF μ (.ref p) [v] = _
  simp only [extendF, h, seqOf, h', Option.bind_some]
@[simp] theorem bi_revL : biV μ .rev [.lst l] = some (.lst l.reverse) := rfl
@[simp] theorem bi_revT : biV μ .rev [.tup l] = some (.tup l.reverse) := rfl
theorem bi_revR (h : μ p = some (.lst l)) : biV μ .rev [.ref p] = some (.lst l.reverse) := by show revF μ [.ref p] = _; simp only [revF, ct_ref, h]
theorem me_reverse (h : μ p = some (.lst l)) : meV μ .reverse (.ref p) [] = some (.non, μ.set p (.lst l.reverse)) := by show reverseF μ (.ref p) [] = _; simp only [reverseF, h]
theorem me_clear (h : μ p = some (.lst l)) : meV μ .clear (.ref p) [] = some (.non, μ.set p (.lst [])) := by show clearF μ (.ref p) [] = _; simp only [clearF, h]
@[simp] theorem oi_nil : optInt [] = some none := rfl
@[simp] theorem oi_int : optInt [.int i] = some (some i) := rfl
@[simp] theorem slc_lst {x y : Option Int} : slC (.lst l) x y = some (.lst (cutL l x y)) := rfl
@[simp] theorem slc_tup {x y : Option Int} : slC (.tup l) x y = some (.tup (cutL l x y)) := rfl
@[simp] theorem slc_str {x y : Option Int} : slC (.str s) x y = if s.length ≤ big then some (.str ⟨(cutL s.cps.toList x y).toArray⟩) else none := rfl
@[simp] theorem cont_lst : isCont (.lst l) = true := rfl
@[simp] theorem cont_dct : isCont (.dct l) = true := rfl
@[simp] theorem cmul_l (h : -(2 ^ 64) < i) (h' : i < 2 ^ 64) : CMul i j := .inl ⟨h, h'⟩
theorem cmul_r (h : -(2 ^ 64) < j) (h' : j < 2 ^ 64) : CMul i j := .inr ⟨h, h'⟩
end
end Mi
/-! D: the defs as terms of the language. -/
namespace Mi.D
open PySem (Str)
open Mi
def joined_worth : Fn := ⟨3, 3, (.seq (.ite (.eq .eq (.v 0) (.c (.str (Str.ofString "plus"))))
  (.ret (.bin .mod (.bin .add (.v 1) (.v 2)) (.c (.int 1000000))))
  .skip)
  (.seq (.ite (.eq .eq (.v 0) (.c (.str (Str.ofString "less"))))
  (.ret (.bin .mod (.bin .sub (.v 1) (.v 2)) (.c (.int 1000000))))
  .skip)
  (.seq (.ite (.eq .eq (.v 0) (.c (.str (Str.ofString "times"))))
  (.ret (.bin .mod (.bin .mul (.v 1) (.v 2)) (.c (.int 1000000))))
  .skip)
  (.seq (.ite (.eq .eq (.v 0) (.c (.str (Str.ofString "under"))))
  (.ret (.bi .int (.cons (.cmp .lt (.v 1) (.v 2)) .nil)))
  .skip)
  (.seq (.ite (.eq .eq (.v 0) (.c (.str (Str.ofString "same"))))
  (.ret (.bi .int (.cons (.eq .eq (.v 1) (.v 2)) .nil)))
  .skip)
  (.seq (.ite (.eq .eq (.v 2) (.c (.int 0)))
  (.raise "Broken")
  .skip)
  (.seq (.ite (.eq .eq (.v 0) (.c (.str (Str.ofString "over"))))
  (.ret (.bin .fdiv (.v 1) (.v 2)))
  .skip)
  (.ret (.bin .mod (.v 1) (.v 2))))))))))⟩
def worth_of : Fn := ⟨2, 3, (.seq (.ite (.eq .eq (.ix (.v 0) (.c (.int 0))) (.c (.str (Str.ofString "number"))))
  (.ret (.ix (.v 0) (.c (.int 1))))
  .skip)
  (.seq (.ite (.eq .eq (.ix (.v 0) (.c (.int 0))) (.c (.str (Str.ofString "name"))))
  (.ret (.me .get (.v 1) (.cons (.ix (.v 0) (.c (.int 1))) (.cons (.c (.int 0)) .nil))))
  .skip)
  (.seq (.asg 2 (.call "worth_of" .val (.cons (.ix (.v 0) (.c (.int 1))) (.cons (.v 1) .nil))))
  (.ret (.call "joined_worth" .val (.cons (.ix (.v 0) (.c (.int 0))) (.cons (.v 2) (.cons (.call "worth_of" .val (.cons (.ix (.v 0) (.c (.int 2))) (.cons (.v 1) .nil))) .nil))))))))⟩
def _law_pot : Fn := ⟨2, 5, (.seq (.asg 2 (.bin .mod (.bin .add (.v 0) (.bin .mul (.c (.int 7919)) (.bin .add (.v 1) (.c (.int 1))))) (.c (.int 2147483647))))
  (.seq (.asg 3 (.new (.lst (.cons (.c (.int 0)) .nil))))
  (.seq (.forS (.n 4) (.range (.c (.int 24)))
  (.seq (.asg 2 (.bin .mod (.bin .add (.bin .add (.bin .add (.bin .mul (.v 2) (.v 2)) (.bin .mul (.c (.int 48271)) (.v 2))) (.bin .mul (.c (.int 3)) (.v 4))) (.v 1)) (.c (.int 2147483629))))
  (.setix (.v 3) (.c (.int 0)) (.bin .add (.bin .mul (.ix (.v 3) (.c (.int 0))) (.c (.int 2147483629))) (.v 2)))))
  (.seq (.ite (.cmp .ge (.v 0) (.bin .pow (.c (.int 10)) (.c (.int 18))))
  (.ex (.me .append (.v 3) (.cons (.v 0) .nil)))
  .skip)
  (.ret (.v 3))))))⟩
def _law_take : Fn := ⟨2, 3, (.seq (.asg 2 (.bin .mod (.ix (.v 0) (.neg (.c (.int 1)))) (.v 1)))
  (.seq (.setix (.v 0) (.neg (.c (.int 1))) (.bin .fdiv (.ix (.v 0) (.neg (.c (.int 1)))) (.v 1)))
  (.seq (.ite (.and (.eq .eq (.ix (.v 0) (.neg (.c (.int 1)))) (.c (.int 0))) (.cmp .gt (.bi .len (.cons (.v 0) .nil)) (.c (.int 1))))
  (.ex (.me .pop (.v 0) .nil))
  .skip)
  (.ret (.v 2)))))⟩
def _law_value : Fn := ⟨1, 1, (.seq (.ite (.eq .eq (.call "_law_take" .val (.cons (.v 0) (.cons (.c (.int 2)) .nil))) (.c (.int 0)))
  (.ret (.call "_law_take" .val (.cons (.v 0) (.cons (.c (.int 5)) .nil))))
  .skip)
  (.ret (.call "_law_take" .val (.cons (.v 0) (.cons (.bin .pow (.c (.int 10)) (.c (.int 6))) .nil)))))⟩
def _law_drawn : Fn := ⟨3, 5, (.seq (.asg 3 (.call "_law_take" .val (.cons (.v 0) (.cons (.c (.int 12)) .nil))))
  (.seq (.ite (.or (.eq .eq (.v 2) (.c (.int 1))) (.cmp .lt (.v 3) (.c (.int 4))))
  (.seq (.ite (.and (.eq .eq (.bin .mod (.v 3) (.c (.int 2))) (.c (.int 0))) (.eq .ne (.v 1) (.lst .nil)))
  (.ret (.tup (.cons (.c (.str (Str.ofString "name"))) (.cons (.ix (.v 1) (.call "_law_take" .val (.cons (.v 0) (.cons (.bi .len (.cons (.v 1) .nil)) .nil)))) .nil))))
  .skip)
  (.ret (.tup (.cons (.c (.str (Str.ofString "number"))) (.cons (.call "_law_value" .val (.cons (.v 0) .nil)) .nil)))))
  .skip)
  (.seq (.asg 4 (.ix (.lst (.cons (.c (.str (Str.ofString "plus"))) (.cons (.c (.str (Str.ofString "less"))) (.cons (.c (.str (Str.ofString "times"))) (.cons (.c (.str (Str.ofString "over"))) (.cons (.c (.str (Str.ofString "rest"))) (.cons (.c (.str (Str.ofString "under"))) (.cons (.c (.str (Str.ofString "same"))) .nil)))))))) (.call "_law_take" .val (.cons (.v 0) (.cons (.c (.int 7)) .nil)))))
  (.ret (.tup (.cons (.v 4) (.cons (.call "_law_drawn" .val (.cons (.v 0) (.cons (.v 1) (.cons (.bin .sub (.v 2) (.c (.int 1))) .nil)))) (.cons (.call "_law_drawn" .val (.cons (.v 0) (.cons (.v 1) (.cons (.bin .sub (.v 2) (.c (.int 1))) .nil)))) .nil))))))))⟩
def _law_numbered : Fn := ⟨2, 4, (.seq (.asg 2 (.new (.bi .list (.cons (.v 1) .nil))))
  (.seq (.forS (.n 3) (.e (.v 1))
  (.ite (.eq .eq (.call "_law_take" .val (.cons (.v 0) (.cons (.c (.int 3)) .nil))) (.c (.int 0)))
  (.ex (.me .append (.v 2) (.cons (.bin .add (.bin .add (.v 3) (.c (.str (Str.ofString ".")))) (.bi .str (.cons (.bin .add (.c (.int 1)) (.call "_law_take" .val (.cons (.v 0) (.cons (.ix (.lst (.cons (.c (.int 9)) (.cons (.c (.int 100)) (.cons (.bin .pow (.c (.int 10)) (.c (.int 9))) .nil)))) (.call "_law_take" .val (.cons (.v 0) (.cons (.c (.int 3)) .nil)))) .nil)))) .nil))) .nil)))
  .skip))
  (.ret (.v 2))))⟩
def _law_names : Fn := ⟨2, 6, (.seq (.asg 2 (.new (.lst .nil)))
  (.seq (.forS (.n 3) (.range (.v 1))
  (.seq (.asg 4 (.ix (.c (.str (Str.ofString "abcdefghijklmnopqrstuvwxyz"))) (.call "_law_take" .val (.cons (.v 0) (.cons (.c (.int 26)) .nil)))))
  (.seq (.asg 5 (.sl (.bin .add (.bin .mul (.v 4) (.bin .add (.c (.int 1)) (.call "_law_take" .val (.cons (.v 0) (.cons (.c (.int 3)) .nil))))) (.ix (.lst (.cons (.c (.str (Str.ofString ""))) (.cons (.c (.str (Str.ofString "a"))) (.cons (.c (.str (Str.ofString "z"))) .nil)))) (.call "_law_take" .val (.cons (.v 0) (.cons (.c (.int 3)) .nil))))) .nil (.cons (.c (.int 4)) .nil)))
  (.ite (.isin .notin (.v 5) (.v 2))
  (.ex (.me .append (.v 2) (.cons (.v 5) .nil)))
  .skip))))
  (.ret (.v 2))))⟩
def _law_joined : Fn := ⟨3, 3, (.seq (.ite (.eq .eq (.v 0) (.c (.str (Str.ofString "plus"))))
  (.ret (.bin .mod (.bin .add (.v 1) (.v 2)) (.c (.int 1000000))))
  .skip)
  (.seq (.ite (.eq .eq (.v 0) (.c (.str (Str.ofString "less"))))
  (.ret (.bin .mod (.bin .sub (.v 1) (.v 2)) (.c (.int 1000000))))
  .skip)
  (.seq (.ite (.eq .eq (.v 0) (.c (.str (Str.ofString "times"))))
  (.ret (.bin .mod (.bin .mul (.v 1) (.v 2)) (.c (.int 1000000))))
  .skip)
  (.seq (.ite (.eq .eq (.v 0) (.c (.str (Str.ofString "under"))))
  (.ret (.bi .int (.cons (.cmp .lt (.v 1) (.v 2)) .nil)))
  .skip)
  (.seq (.ite (.eq .eq (.v 0) (.c (.str (Str.ofString "same"))))
  (.ret (.bi .int (.cons (.eq .eq (.v 1) (.v 2)) .nil)))
  .skip)
  (.seq (.ite (.eq .eq (.v 2) (.c (.int 0)))
  (.ret (.c .non))
  .skip)
  (.ret (.ix (.lst (.cons (.bin .fdiv (.v 1) (.v 2)) (.cons (.bin .mod (.v 1) (.v 2)) .nil))) (.bi .int (.cons (.eq .eq (.v 0) (.c (.str (Str.ofString "rest")))) .nil))))))))))⟩
def _law_worth : Fn := ⟨2, 4, (.seq (.ite (.eq .eq (.ix (.v 0) (.c (.int 0))) (.c (.str (Str.ofString "number"))))
  (.ret (.ix (.v 0) (.c (.int 1))))
  .skip)
  (.seq (.ite (.eq .eq (.ix (.v 0) (.c (.int 0))) (.c (.str (Str.ofString "name"))))
  (.ret (.me .get (.v 1) (.cons (.ix (.v 0) (.c (.int 1))) (.cons (.c (.int 0)) .nil))))
  .skip)
  (.seq (.asg 2 (.call "_law_worth" .val (.cons (.ix (.v 0) (.c (.int 1))) (.cons (.v 1) .nil))))
  (.seq (.ite (.isN false (.v 2))
  (.ret (.c .non))
  .skip)
  (.seq (.asg 3 (.call "_law_worth" .val (.cons (.ix (.v 0) (.c (.int 2))) (.cons (.v 1) .nil))))
  (.seq (.ite (.isN false (.v 3))
  (.ret (.c .non))
  .skip)
  (.ret (.call "_law_joined" .val (.cons (.ix (.v 0) (.c (.int 0))) (.cons (.v 2) (.cons (.v 3) .nil)))))))))))⟩
def _law_same : Fn := ⟨2, 2, (.seq (.ite (.isN false (.v 1))
  (.ret (.isN false (.v 0)))
  .skip)
  (.ret (.and (.isT (.v 0) .int) (.and (.not (.isT (.v 0) .bool)) (.eq .eq (.v 0) (.v 1))))))⟩
def _law_told : Fn := ⟨2, 3, (.seq (.asg 2 (.c .non))
  (.seq (.tryS (.asg 2 (.call "worth_of" .val (.cons (.v 0) (.cons (.v 1) .nil)))) ["Broken"] none
  (.asg 2 (.c .non)))
  (.ret (.v 2))))⟩
def law_k03 : Fn := ⟨1, 10, (.seq (.forS (.t [(.n 1), (.n 2)]) (.enum (.bin .add (.lst (.cons (.c (.int 0)) .nil)) (.v 0)))
  (.seq (.asg 3 (.call "_law_pot" .obj (.cons (.v 2) (.cons (.v 1) .nil))))
  (.seq (.asg 4 (.call "_law_numbered" .val (.cons (.v 3) (.cons (.call "_law_names" .val (.cons (.v 3) (.cons (.bin .add (.c (.int 1)) (.call "_law_take" .val (.cons (.v 3) (.cons (.c (.int 6)) .nil)))) .nil))) .nil))))
  (.seq (.asg 5 (.call "_law_drawn" .val (.cons (.v 3) (.cons (.v 4) (.cons (.bin .add (.c (.int 1)) (.call "_law_take" .val (.cons (.v 3) (.cons (.c (.int 5)) .nil)))) .nil)))))
  (.seq (.asg 6 (.new (.dct .nil)))
  (.seq (.forS (.n 7) (.e (.bin .add (.sl (.v 4) (.cons (.call "_law_take" .val (.cons (.v 3) (.cons (.c (.int 2)) .nil))) .nil) .nil) (.lst (.cons (.c (.str (Str.ofString "y"))) .nil))))
  (.setix (.v 6) (.v 7) (.call "_law_value" .val (.cons (.v 3) .nil))))
  (.seq (.asg 8 (.bi .dict (.cons (.v 6) .nil)))
  (.forS (.n 9) (.e (.lst (.cons (.v 6) (.cons (.dct .nil) (.cons (.v 6) .nil)))))
  (.ite (.or (.not (.call "_law_same" .val (.cons (.call "_law_told" .val (.cons (.v 5) (.cons (.v 9) .nil))) (.cons (.call "_law_worth" .val (.cons (.v 5) (.cons (.v 9) .nil))) .nil)))) (.eq .ne (.v 6) (.v 8)))
  (.ret (.c (.bl false)))
  .skip)))))))))
  (.ret (.c (.bl true))))⟩
def names_in : Fn := ⟨1, 1, (.seq (.ite (.eq .eq (.ix (.v 0) (.c (.int 0))) (.c (.str (Str.ofString "number"))))
  (.ret (.new (.lst .nil)))
  .skip)
  (.seq (.ite (.eq .eq (.ix (.v 0) (.c (.int 0))) (.c (.str (Str.ofString "name"))))
  (.ret (.new (.lst (.cons (.ix (.v 0) (.c (.int 1))) .nil))))
  .skip)
  (.ret (.new (.bin .add (.call "names_in" .val (.cons (.ix (.v 0) (.c (.int 1))) .nil)) (.call "names_in" .val (.cons (.ix (.v 0) (.c (.int 2))) .nil)))))))⟩
def depth_of : Fn := ⟨1, 1, (.seq (.ite (.isin .isin (.ix (.v 0) (.c (.int 0))) (.tup (.cons (.c (.str (Str.ofString "number"))) (.cons (.c (.str (Str.ofString "name"))) .nil))))
  (.ret (.c (.int 1)))
  .skip)
  (.ret (.bin .add (.c (.int 1)) (.bi .max (.cons (.call "depth_of" .val (.cons (.ix (.v 0) (.c (.int 1))) .nil)) (.cons (.call "depth_of" .val (.cons (.ix (.v 0) (.c (.int 2))) .nil)) .nil))))))⟩
def _law_read : Fn := ⟨1, 6, (.seq (.asg 1 (.new (.lst (.cons (.tup (.cons (.v 0) (.cons (.c (.int 1)) .nil))) .nil))))
  (.seq (.asg 2 (.new (.lst .nil)))
  (.seq (.asg 3 (.c (.int 1)))
  (.seq (.whileS (.eq .ne (.v 1) (.lst .nil))
  (.seq (.asgT (.t [(.n 4), (.n 5)]) (.me .pop (.v 1) .nil))
  (.seq (.asg 3 (.bi .max (.cons (.v 3) (.cons (.v 5) .nil))))
  (.ite (.eq .eq (.ix (.v 4) (.c (.int 0))) (.c (.str (Str.ofString "name"))))
  (.ex (.me .append (.v 2) (.cons (.ix (.v 4) (.c (.int 1))) .nil)))
  (.ite (.eq .ne (.ix (.v 4) (.c (.int 0))) (.c (.str (Str.ofString "number"))))
  (.ex (.me .extend (.v 1) (.cons (.lst (.cons (.tup (.cons (.ix (.v 4) (.c (.int 2))) (.cons (.bin .add (.v 5) (.c (.int 1))) .nil))) (.cons (.tup (.cons (.ix (.v 4) (.c (.int 1))) (.cons (.bin .add (.v 5) (.c (.int 1))) .nil))) .nil))) .nil)))
  .skip)))))
  (.ret (.tup (.cons (.v 2) (.cons (.v 3) .nil))))))))⟩
def law_k04 : Fn := ⟨1, 9, (.seq (.forS (.t [(.n 1), (.n 2)]) (.enum (.bin .add (.lst (.cons (.c (.int 0)) .nil)) (.v 0)))
  (.seq (.asg 3 (.call "_law_pot" .obj (.cons (.v 2) (.cons (.v 1) .nil))))
  (.seq (.asg 4 (.call "_law_numbered" .val (.cons (.v 3) (.cons (.call "_law_names" .val (.cons (.v 3) (.cons (.bin .add (.c (.int 1)) (.call "_law_take" .val (.cons (.v 3) (.cons (.c (.int 6)) .nil)))) .nil))) .nil))))
  (.seq (.asg 5 (.call "_law_drawn" .val (.cons (.v 3) (.cons (.v 4) (.cons (.bin .add (.c (.int 1)) (.call "_law_take" .val (.cons (.v 3) (.cons (.c (.int 5)) .nil)))) .nil)))))
  (.seq (.asgT (.t [(.n 6), (.n 7)]) (.call "_law_read" .val (.cons (.v 5) .nil)))
  (.seq (.asg 8 (.call "names_in" .obj (.cons (.v 5) .nil)))
  (.seq (.ite (.or (.not (.isT (.v 8) .list)) (.or (.eq .ne (.v 8) (.v 6)) (.not (.call "_law_same" .val (.cons (.call "depth_of" .val (.cons (.v 5) .nil)) (.cons (.v 7) .nil))))))
  (.ret (.c (.bl false)))
  .skip)
  (.seq (.ex (.me .append (.v 8) (.cons (.c (.str (Str.ofString "zz"))) .nil)))
  (.ite (.eq .ne (.call "names_in" .val (.cons (.v 5) .nil)) (.v 6))
  (.ret (.c (.bl false)))
  .skip)))))))))
  (.ret (.c (.bl true))))⟩
def _law_all_break : Fn := ⟨2, 3, (.ret (.bi .all (.cons (.comp (.isN false (.call "_law_told" .val (.cons (.v 2) (.cons (.v 1) .nil)))) (.n 2) [2] (.e (.v 0)) (.c (.bl true))) .nil)))⟩
def _law_good : Fn := ⟨3, 11, (.seq (.asg 3 (.call "_law_told" .val (.cons (.v 0) (.cons (.v 2) .nil))))
  (.seq (.asg 4 (.call "_law_told" .val (.cons (.v 1) (.cons (.v 2) .nil))))
  (.seq (.asg 5 (.tup (.cons (.c (.str (Str.ofString "less"))) (.cons (.tup (.cons (.c (.str (Str.ofString "plus"))) (.cons (.v 0) (.cons (.v 1) .nil)))) (.cons (.v 1) .nil)))))
  (.seq (.asg 6 (.tup (.cons (.c (.str (Str.ofString "plus"))) (.cons (.tup (.cons (.c (.str (Str.ofString "less"))) (.cons (.v 0) (.cons (.v 1) .nil)))) (.cons (.v 1) .nil)))))
  (.seq (.asg 7 (.tup (.cons (.c (.str (Str.ofString "plus"))) (.cons (.tup (.cons (.c (.str (Str.ofString "times"))) (.cons (.tup (.cons (.c (.str (Str.ofString "over"))) (.cons (.v 0) (.cons (.v 1) .nil)))) (.cons (.v 1) .nil)))) (.cons (.tup (.cons (.c (.str (Str.ofString "rest"))) (.cons (.v 0) (.cons (.v 1) .nil)))) .nil)))))
  (.seq (.asg 8 (.lst (.cons (.tup (.cons (.c (.str (Str.ofString "under"))) (.cons (.v 0) (.cons (.v 1) .nil)))) (.cons (.tup (.cons (.c (.str (Str.ofString "under"))) (.cons (.v 1) (.cons (.v 0) .nil)))) (.cons (.tup (.cons (.c (.str (Str.ofString "same"))) (.cons (.v 0) (.cons (.v 1) .nil)))) .nil)))))
  (.seq (.ite (.or (.isN false (.v 3)) (.isN false (.v 4)))
  (.ret (.call "_law_all_break" .val (.cons (.bin .add (.lst (.cons (.v 5) (.cons (.v 6) (.cons (.v 7) (.cons (.tup (.cons (.c (.str (Str.ofString "times"))) (.cons (.v 0) (.cons (.v 1) .nil)))) .nil))))) (.v 8)) (.cons (.v 2) .nil))))
  .skip)
  (.seq (.ite (.or (.not (.call "_law_same" .val (.cons (.call "_law_told" .val (.cons (.v 5) (.cons (.v 2) .nil))) (.cons (.v 3) .nil)))) (.not (.call "_law_same" .val (.cons (.call "_law_told" .val (.cons (.v 6) (.cons (.v 2) .nil))) (.cons (.v 3) .nil)))))
  (.ret (.c (.bl false)))
  .skip)
  (.seq (.ite (.or (.and (.eq .eq (.v 4) (.c (.int 0))) (.isN true (.call "_law_told" .val (.cons (.v 7) (.cons (.v 2) .nil))))) (.and (.cmp .gt (.v 4) (.c (.int 0))) (.not (.call "_law_same" .val (.cons (.call "_law_told" .val (.cons (.v 7) (.cons (.v 2) .nil))) (.cons (.v 3) .nil))))))
  (.ret (.c (.bl false)))
  .skip)
  (.seq (.ite (.eq .ne (.bi .sorted (.cons (.comp (.call "_law_told" .val (.cons (.v 10) (.cons (.v 2) .nil))) (.n 10) [10] (.e (.v 8)) (.c (.bl true))) .nil)) (.lst (.cons (.c (.int 0)) (.cons (.c (.int 0)) (.cons (.c (.int 1)) .nil)))))
  (.ret (.c (.bl false)))
  .skip)
  (.seq (.ite (.and (.cmp .gt (.v 4) (.c (.int 0))) (.eq .ne (.call "_law_told" .val (.cons (.tup (.cons (.c (.str (Str.ofString "under"))) (.cons (.tup (.cons (.c (.str (Str.ofString "rest"))) (.cons (.v 0) (.cons (.v 1) .nil)))) (.cons (.v 1) .nil)))) (.cons (.v 2) .nil))) (.c (.int 1))))
  (.ret (.c (.bl false)))
  .skip)
  (.seq (.forS (.n 9) (.e (.lst (.cons (.c (.str (Str.ofString "plus"))) (.cons (.c (.str (Str.ofString "times"))) (.cons (.c (.str (Str.ofString "same"))) .nil)))))
  (.ite (.eq .ne (.call "_law_told" .val (.cons (.tup (.cons (.v 9) (.cons (.v 0) (.cons (.v 1) .nil)))) (.cons (.v 2) .nil))) (.call "_law_told" .val (.cons (.tup (.cons (.v 9) (.cons (.v 1) (.cons (.v 0) .nil)))) (.cons (.v 2) .nil))))
  (.ret (.c (.bl false)))
  .skip))
  (.ret (.and (.chain .le .lt (.c (.int 0)) (.v 3) (.c (.int 1000000))) (.eq .eq (.call "_law_told" .val (.cons (.tup (.cons (.c (.str (Str.ofString "same"))) (.cons (.v 0) (.cons (.v 1) .nil)))) (.cons (.v 2) .nil))) (.bi .int (.cons (.eq .eq (.v 3) (.v 4)) .nil)))))))))))))))))⟩
def law_k05 : Fn := ⟨1, 9, (.seq (.forS (.t [(.n 1), (.n 2)]) (.enum (.bin .add (.lst (.cons (.c (.int 0)) .nil)) (.v 0)))
  (.seq (.asg 3 (.call "_law_pot" .obj (.cons (.v 2) (.cons (.v 1) .nil))))
  (.seq (.asg 4 (.call "_law_names" .val (.cons (.v 3) (.cons (.bin .add (.c (.int 1)) (.call "_law_take" .val (.cons (.v 3) (.cons (.c (.int 6)) .nil)))) .nil))))
  (.seq (.asg 5 (.call "_law_drawn" .val (.cons (.v 3) (.cons (.v 4) (.cons (.bin .add (.c (.int 1)) (.call "_law_take" .val (.cons (.v 3) (.cons (.c (.int 2)) .nil)))) .nil)))))
  (.seq (.asg 6 (.call "_law_drawn" .val (.cons (.v 3) (.cons (.v 4) (.cons (.bin .add (.c (.int 1)) (.call "_law_take" .val (.cons (.v 3) (.cons (.c (.int 2)) .nil)))) .nil)))))
  (.seq (.asg 7 (.new (.dct .nil)))
  (.seq (.forS (.n 8) (.e (.sl (.v 4) (.cons (.call "_law_take" .val (.cons (.v 3) (.cons (.c (.int 2)) .nil))) .nil) .nil))
  (.setix (.v 7) (.v 8) (.call "_law_value" .val (.cons (.v 3) .nil))))
  (.ite (.or (.not (.call "_law_good" .val (.cons (.v 5) (.cons (.v 6) (.cons (.v 7) .nil))))) (.or (.not (.call "_law_good" .val (.cons (.v 6) (.cons (.v 5) (.cons (.v 7) .nil))))) (.not (.call "_law_good" .val (.cons (.v 5) (.cons (.v 5) (.cons (.v 7) .nil)))))))
  (.ret (.c (.bl false)))
  .skip))))))))
  (.ret (.c (.bl true))))⟩
def rows_within : Fn := ⟨1, 1, (.seq (.ite (.eq .eq (.ix (.v 0) (.c (.int 0))) (.c (.str (Str.ofString "when"))))
  (.ret (.bin .add (.ix (.v 0) (.c (.int 2))) (.ix (.v 0) (.c (.int 3)))))
  .skip)
  (.seq (.ite (.eq .eq (.ix (.v 0) (.c (.int 0))) (.c (.str (Str.ofString "turn"))))
  (.ret (.ix (.v 0) (.c (.int 2))))
  .skip)
  (.ret (.tup .nil))))⟩
def read_through : Fn := ⟨1, 3, (.seq (.asg 1 (.new (.lst .nil)))
  (.seq (.forS (.n 2) (.e (.v 0))
  (.seq (.ex (.me .append (.v 1) (.cons (.v 2) .nil)))
  (.ex (.me .extend (.v 1) (.cons (.call "read_through" .val (.cons (.call "rows_within" .val (.cons (.v 2) .nil)) .nil)) .nil)))))
  (.ret (.v 1))))⟩
def rows_of : Fn := ⟨1, 1, (.ret (.call "read_through" .val (.cons (.ix (.v 0) (.c (.int 2))) .nil)))⟩
def deed_of : Fn := ⟨2, 3, (.seq (.forS (.n 2) (.e (.v 0))
  (.ite (.eq .eq (.ix (.v 2) (.c (.int 0))) (.v 1))
  (.ret (.v 2))
  .skip))
  (.raise "NoDeed"))⟩
def look_at_names : Fn := ⟨1, 6, (.seq (.asg 1 (.new (.lst .nil)))
  (.forS (.t [(.n 2), (.n 3), (.n 4), (.n 5)]) (.e (.v 0))
  (.seq (.ite (.or (.isin .isin (.v 2) (.v 1)) (.cmp .lt (.bi .setlen (.cons (.v 3) .nil)) (.bi .len (.cons (.v 3) .nil))))
  (.raise "Twice")
  .skip)
  (.ex (.me .append (.v 1) (.cons (.v 2) .nil))))))⟩
def look_at_call : Fn := ⟨3, 3, (.seq (.ite (.eq .ne (.bi .len (.cons (.ix (.v 1) (.c (.int 3))) .nil)) (.bi .len (.cons (.ix (.call "deed_of" .val (.cons (.v 0) (.cons (.ix (.v 1) (.c (.int 2))) .nil))) (.c (.int 1))) .nil)))
  (.raise "WrongCount")
  .skip)
  (.ite (.isin .isin (.ix (.v 1) (.c (.int 4))) (.v 2))
  (.raise "Twice")
  .skip))⟩
def made_book : Fn := ⟨1, 4, (.seq (.ex (.call "look_at_names" .val (.cons (.v 0) .nil)))
  (.seq (.asg 1 (.new (.lst .nil)))
  (.seq (.forS (.n 2) (.e (.v 0))
  (.forS (.n 3) (.e (.call "rows_of" .val (.cons (.v 2) .nil)))
  (.ite (.eq .eq (.ix (.v 3) (.c (.int 0))) (.c (.str (Str.ofString "call"))))
  (.seq (.ex (.call "look_at_call" .val (.cons (.v 0) (.cons (.v 3) (.cons (.v 1) .nil)))))
  (.ex (.me .append (.v 1) (.cons (.ix (.v 3) (.c (.int 4))) .nil))))
  .skip)))
  (.ret (.bi .tuple (.cons (.v 0) .nil))))))⟩
def _law_folded : Fn := ⟨2, 5, (.seq (.asg 2 (.new (.bin .mul (.lst (.cons (.c (.int 0)) .nil)) (.v 1))))
  (.seq (.forS (.t [(.n 3), (.n 4)]) (.enum (.sl (.v 0) .nil (.cons (.c (.int 63)) .nil)))
  (.setix (.v 2) (.bin .mod (.v 3) (.v 1)) (.bin .add (.bin .mul (.ix (.v 2) (.bin .mod (.v 3) (.v 1))) (.c (.int 31))) (.v 4))))
  (.ret (.v 2))))⟩
def _law_deed_words : Fn := ⟨2, 6, (.seq (.asg 2 (.call "_law_take" .val (.cons (.v 0) (.cons (.c (.int 26)) .nil))))
  (.seq (.ite (.eq .eq (.call "_law_take" .val (.cons (.v 0) (.cons (.c (.int 2)) .nil))) (.c (.int 0)))
  (.seq (.asg 3 (.comp (.bin .mul (.ix (.c (.str (Str.ofString "abcdefghijklmnopqrstuvwxyz"))) (.v 2)) (.bin .add (.c (.int 1)) (.v 5))) (.n 5) [5] (.range (.v 1)) (.c (.bl true))))
  (.ret (.ix (.lst (.cons (.v 3) (.cons (.bi .rev (.cons (.v 3) .nil)) .nil))) (.call "_law_take" .val (.cons (.v 0) (.cons (.c (.int 2)) .nil))))))
  .skip)
  (.seq (.asg 4 (.ix (.lst (.cons (.c (.str (Str.ofString ""))) (.cons (.c (.str (Str.ofString "x"))) (.cons (.c (.str (Str.ofString "deed"))) (.cons (.c (.str (Str.ofString "seventh"))) .nil))))) (.call "_law_take" .val (.cons (.v 0) (.cons (.c (.int 4)) .nil)))))
  (.ret (.comp (.bin .add (.ix (.c (.str (Str.ofString "abcdefghijklmnopqrstuvwxyz"))) (.bin .mod (.bin .add (.v 2) (.bin .mul (.c (.int 5)) (.v 5))) (.c (.int 26)))) (.v 4)) (.n 5) [5] (.range (.v 1)) (.c (.bl true)))))))⟩
def _law_heads : Fn := ⟨3, 8, (.seq (.asg 3 (.new (.lst .nil)))
  (.seq (.forS (.n 4) (.e (.call "_law_deed_words" .val (.cons (.v 0) (.cons (.v 2) .nil))))
  (.seq (.asg 5 (.new (.bi .list (.cons (.v 1) .nil))))
  (.seq (.asg 6 (.new (.lst .nil)))
  (.seq (.forS (.n 7) (.range (.bi .min (.cons (.bi .len (.cons (.v 1) .nil)) (.cons (.call "_law_take" .val (.cons (.v 0) (.cons (.c (.int 5)) .nil))) .nil))))
  (.ex (.me .append (.v 6) (.cons (.me .pop (.v 5) (.cons (.call "_law_take" .val (.cons (.v 0) (.cons (.bi .len (.cons (.v 5) .nil)) .nil))) .nil)) .nil))))
  (.ex (.me .append (.v 3) (.cons (.tup (.cons (.v 4) (.cons (.bi .tuple (.cons (.v 6) .nil)) .nil))) .nil)))))))
  (.ret (.v 3))))⟩
def _law_call : Fn := ⟨3, 7, (.seq (.asgT (.t [(.n 3), (.n 4)]) (.ix (.ix (.v 2) (.c (.int 2))) (.call "_law_take" .val (.cons (.v 0) (.cons (.bi .len (.cons (.ix (.v 2) (.c (.int 2))) .nil)) .nil)))))
  (.seq (.asg 5 (.bi .tuple (.cons (.comp (.call "_law_drawn" .val (.cons (.v 0) (.cons (.v 1) (.cons (.bin .add (.c (.int 1)) (.call "_law_take" .val (.cons (.v 0) (.cons (.c (.int 2)) .nil)))) .nil)))) (.n 6) [6] (.e (.v 4)) (.c (.bl true))) .nil)))
  (.ret (.tup (.cons (.c (.str (Str.ofString "call"))) (.cons (.ix (.v 1) (.call "_law_take" .val (.cons (.v 0) (.cons (.bi .len (.cons (.v 1) .nil)) .nil)))) (.cons (.v 3) (.cons (.v 5) (.cons (.me .pop (.ix (.v 2) (.c (.int 1))) .nil) .nil)))))))))⟩
def _law_row : Fn := ⟨4, 7, (.seq (.setix (.v 2) (.c (.int 0)) (.bin .sub (.ix (.v 2) (.c (.int 0))) (.c (.int 1))))
  (.seq (.asg 4 (.call "_law_take" .val (.cons (.v 0) (.cons (.c (.int 10)) .nil))))
  (.seq (.ite (.and (.cmp .gt (.v 4) (.c (.int 4))) (.and (.cmp .lt (.v 4) (.c (.int 8))) (.eq .ne (.ix (.v 2) (.c (.int 1))) (.lst .nil))))
  (.ret (.call "_law_call" .val (.cons (.v 0) (.cons (.v 1) (.cons (.v 2) .nil)))))
  .skip)
  (.seq (.ite (.and (.eq .eq (.v 4) (.c (.int 8))) (.cmp .lt (.v 3) (.c (.int 3))))
  (.seq (.asg 5 (.call "_law_rows" .val (.cons (.v 0) (.cons (.v 1) (.cons (.v 2) (.cons (.bin .add (.v 3) (.c (.int 1))) .nil))))))
  (.ret (.tup (.cons (.c (.str (Str.ofString "when"))) (.cons (.call "_law_drawn" .val (.cons (.v 0) (.cons (.v 1) (.cons (.c (.int 2)) .nil)))) (.cons (.v 5) (.cons (.call "_law_rows" .val (.cons (.v 0) (.cons (.v 1) (.cons (.v 2) (.cons (.bin .add (.v 3) (.c (.int 1))) .nil))))) .nil)))))))
  .skip)
  (.seq (.ite (.and (.eq .eq (.v 4) (.c (.int 9))) (.cmp .lt (.v 3) (.c (.int 3))))
  (.seq (.asg 6 (.tup (.cons (.c (.str (Str.ofString "number"))) (.cons (.bin .add (.call "_law_take" .val (.cons (.v 0) (.cons (.c (.int 4)) .nil))) (.bin .mul (.c (.int 10)) (.call "_law_take" .val (.cons (.v 0) (.cons (.c (.int 2)) .nil))))) .nil))))
  (.seq (.ite (.eq .eq (.call "_law_take" .val (.cons (.v 0) (.cons (.c (.int 4)) .nil))) (.c (.int 0)))
  (.asg 6 (.call "_law_drawn" .val (.cons (.v 0) (.cons (.v 1) (.cons (.c (.int 2)) .nil)))))
  .skip)
  (.ret (.tup (.cons (.c (.str (Str.ofString "turn"))) (.cons (.v 6) (.cons (.call "_law_rows" .val (.cons (.v 0) (.cons (.v 1) (.cons (.v 2) (.cons (.bin .add (.v 3) (.c (.int 1))) .nil))))) .nil)))))))
  .skip)
  (.seq (.ite (.cmp .gt (.v 4) (.c (.int 2)))
  (.ret (.tup (.cons (.c (.str (Str.ofString "say"))) (.cons (.call "_law_drawn" .val (.cons (.v 0) (.cons (.v 1) (.cons (.bin .add (.c (.int 1)) (.call "_law_take" .val (.cons (.v 0) (.cons (.c (.int 3)) .nil)))) .nil)))) .nil))))
  .skip)
  (.ret (.tup (.cons (.c (.str (Str.ofString "set"))) (.cons (.ix (.v 1) (.call "_law_take" .val (.cons (.v 0) (.cons (.bi .len (.cons (.v 1) .nil)) .nil)))) (.cons (.call "_law_drawn" .val (.cons (.v 0) (.cons (.v 1) (.cons (.bin .add (.c (.int 1)) (.call "_law_take" .val (.cons (.v 0) (.cons (.c (.int 3)) .nil)))) .nil)))) .nil)))))))))))⟩
def _law_rows : Fn := ⟨4, 6, (.seq (.asg 4 (.new (.lst .nil)))
  (.seq (.forS (.n 5) (.range (.call "_law_take" .val (.cons (.v 0) (.cons (.ix (.lst (.cons (.c (.int 6)) (.cons (.c (.int 4)) (.cons (.c (.int 3)) .nil)))) (.bin .sub (.v 3) (.c (.int 1)))) .nil))))
  (.ite (.cmp .gt (.ix (.v 2) (.c (.int 0))) (.c (.int 0)))
  (.ex (.me .append (.v 4) (.cons (.call "_law_row" .val (.cons (.v 0) (.cons (.v 1) (.cons (.v 2) (.cons (.v 3) .nil))))) .nil)))
  .skip))
  (.ret (.bi .tuple (.cons (.v 4) .nil)))))⟩
def _law_book : Fn := ⟨2, 14, (.seq (.asg 2 (.call "_law_pot" .obj (.cons (.ix (.v 0) (.c (.int 0))) (.cons (.c (.int 0)) .nil))))
  (.seq (.asg 3 (.call "_law_names" .val (.cons (.v 2) (.cons (.bin .add (.c (.int 1)) (.call "_law_take" .val (.cons (.v 2) (.cons (.c (.int 6)) .nil)))) .nil))))
  (.seq (.asg 4 (.call "_law_heads" .val (.cons (.v 2) (.cons (.v 3) (.cons (.bin .add (.c (.int 1)) (.call "_law_take" .val (.cons (.v 2) (.cons (.v 1) .nil)))) .nil)))))
  (.seq (.asg 5 (.call "_law_take" .val (.cons (.v 2) (.cons (.c (.int 100)) .nil))))
  (.seq (.asg 6 (.ix (.lst (.cons (.c (.int 1)) (.cons (.c (.int 3)) (.cons (.c (.int 7)) (.cons (.c (.int 9)) (.cons (.c (.int 51)) (.cons (.c (.int 99)) .nil))))))) (.call "_law_take" .val (.cons (.v 2) (.cons (.c (.int 6)) .nil)))))
  (.seq (.asg 7 (.comp (.bin .mod (.bin .add (.v 5) (.bin .mul (.v 6) (.v 9))) (.c (.int 100))) (.n 9) [9] (.range (.bin .add (.c (.int 1)) (.call "_law_take" .val (.cons (.v 2) (.cons (.c (.int 10)) .nil))))) (.c (.bl true))))
  (.seq (.asg 8 (.new (.lst .nil)))
  (.seq (.forS (.t [(.n 9), (.t [(.n 10), (.n 11)])]) (.enum (.v 4))
  (.seq (.asg 2 (.call "_law_pot" .obj (.cons (.ix (.v 0) (.bin .mod (.bin .add (.v 9) (.c (.int 1))) (.c (.int 8)))) (.cons (.bin .add (.v 9) (.c (.int 1))) .nil))))
  (.seq (.asg 12 (.new (.lst (.cons (.ix (.lst (.cons (.c (.int 8)) (.cons (.c (.int 20)) (.cons (.c (.int 12)) .nil)))) (.call "_law_take" .val (.cons (.v 2) (.cons (.c (.int 3)) .nil)))) (.cons (.v 7) (.cons (.v 4) .nil))))))
  (.seq (.asg 13 (.call "_law_rows" .val (.cons (.v 2) (.cons (.v 3) (.cons (.v 12) (.cons (.c (.int 1)) .nil))))))
  (.ex (.me .append (.v 8) (.cons (.tup (.cons (.v 10) (.cons (.v 11) (.cons (.v 13) (.cons (.call "_law_drawn" .val (.cons (.v 2) (.cons (.v 3) (.cons (.bin .add (.c (.int 1)) (.call "_law_take" .val (.cons (.v 2) (.cons (.c (.int 3)) .nil)))) .nil)))) .nil))))) .nil)))))))
  (.ret (.v 8))))))))))⟩
def _law_drawn_book : Fn := ⟨1, 2, (.seq (.asg 1 (.call "_law_folded" .val (.cons (.v 0) (.cons (.c (.int 8)) .nil))))
  (.ret (.call "_law_book" .val (.cons (.v 1) (.cons (.ix (.lst (.cons (.c (.int 5)) (.cons (.c (.int 8)) .nil))) (.bi .int (.cons (.eq .eq (.bin .mod (.ix (.v 1) (.c (.int 1))) (.c (.int 8))) (.c (.int 3))) .nil))) .nil)))))⟩
def law_k06 : Fn := ⟨1, 5, (.seq (.asg 1 (.call "_law_drawn_book" .val (.cons (.v 0) .nil)))
  (.seq (.asg 2 (.new (.bi .list (.cons (.v 1) .nil))))
  (.seq (.asg 3 (.call "made_book" .val (.cons (.v 2) .nil)))
  (.seq (.ite (.or (.not (.isT (.v 3) .tuple)) (.or (.eq .ne (.v 3) (.bi .tuple (.cons (.v 1) .nil))) (.eq .ne (.v 2) (.v 1))))
  (.ret (.c (.bl false)))
  .skip)
  (.seq (.ite (.not (.bi .all (.cons (.comp (.and (.isT (.v 4) .tuple) (.eq .eq (.bi .len (.cons (.v 4) .nil)) (.c (.int 4)))) (.n 4) [4] (.e (.v 3)) (.c (.bl true))) .nil)))
  (.ret (.c (.bl false)))
  .skip)
  (.seq (.ex (.me .reverse (.v 2) .nil))
  (.seq (.ex (.me .append (.v 2) (.cons (.ix (.v 1) (.c (.int 0))) .nil)))
  (.ret (.and (.eq .eq (.v 3) (.bi .tuple (.cons (.v 1) .nil))) (.eq .eq (.call "made_book" .val (.cons (.bi .list (.cons (.v 1) .nil)) .nil)) (.v 3)))))))))))⟩
def _law_book_v2 : Fn := ⟨2, 14, (.seq (.asg 2 (.call "_law_pot" .obj (.cons (.ix (.v 0) (.c (.int 0))) (.cons (.c (.int 0)) .nil))))
  (.seq (.asg 3 (.call "_law_names" .val (.cons (.v 2) (.cons (.bin .add (.c (.int 1)) (.call "_law_take" .val (.cons (.v 2) (.cons (.c (.int 6)) .nil)))) .nil))))
  (.seq (.asg 4 (.call "_law_heads" .val (.cons (.v 2) (.cons (.v 3) (.cons (.bin .add (.c (.int 1)) (.call "_law_take" .val (.cons (.v 2) (.cons (.v 1) .nil)))) .nil)))))
  (.seq (.asg 5 (.call "_law_take" .val (.cons (.v 2) (.cons (.c (.int 100)) .nil))))
  (.seq (.asg 6 (.ix (.lst (.cons (.c (.int 1)) (.cons (.c (.int 3)) (.cons (.c (.int 7)) (.cons (.c (.int 9)) (.cons (.c (.int 51)) (.cons (.c (.int 99)) .nil))))))) (.call "_law_take" .val (.cons (.v 2) (.cons (.c (.int 6)) .nil)))))
  (.seq (.asg 7 (.new (.comp (.bin .mod (.bin .add (.v 5) (.bin .mul (.v 6) (.v 9))) (.c (.int 100))) (.n 9) [9] (.range (.bin .add (.c (.int 1)) (.call "_law_take" .val (.cons (.v 2) (.cons (.c (.int 10)) .nil))))) (.c (.bl true)))))
  (.seq (.asg 8 (.new (.lst .nil)))
  (.seq (.forS (.t [(.n 9), (.t [(.n 10), (.n 11)])]) (.enum (.v 4))
  (.seq (.asg 2 (.call "_law_pot" .obj (.cons (.ix (.v 0) (.bin .mod (.bin .add (.v 9) (.c (.int 1))) (.c (.int 8)))) (.cons (.bin .add (.v 9) (.c (.int 1))) .nil))))
  (.seq (.asg 12 (.new (.lst (.cons (.ix (.lst (.cons (.c (.int 8)) (.cons (.c (.int 20)) (.cons (.c (.int 12)) .nil)))) (.call "_law_take" .val (.cons (.v 2) (.cons (.c (.int 3)) .nil)))) (.cons (.v 7) (.cons (.v 4) .nil))))))
  (.seq (.asg 13 (.call "_law_rows" .val (.cons (.v 2) (.cons (.v 3) (.cons (.v 12) (.cons (.c (.int 1)) .nil))))))
  (.ex (.me .append (.v 8) (.cons (.tup (.cons (.v 10) (.cons (.v 11) (.cons (.v 13) (.cons (.call "_law_drawn" .val (.cons (.v 2) (.cons (.v 3) (.cons (.bin .add (.c (.int 1)) (.call "_law_take" .val (.cons (.v 2) (.cons (.c (.int 3)) .nil)))) .nil)))) .nil))))) .nil)))))))
  (.ret (.v 8))))))))))⟩
def rows_of_v2 : Fn := ⟨1, 1, (.ret (.call "read_through" .obj (.cons (.ix (.v 0) (.c (.int 2))) .nil)))⟩
def calls_of : Fn := ⟨1, 2, (.ret (.new (.comp (.tup (.cons (.ix (.v 1) (.c (.int 4))) (.cons (.ix (.v 1) (.c (.int 2))) .nil))) (.n 1) [1] (.e (.call "rows_of" .val (.cons (.v 0) .nil))) (.eq .eq (.ix (.v 1) (.c (.int 0))) (.c (.str (Str.ofString "call")))))))⟩
def _law_read_through : Fn := ⟨1, 4, (.seq (.asg 1 (.new (.bi .rev (.cons (.bi .list (.cons (.v 0) .nil)) .nil))))
  (.seq (.asg 2 (.new (.lst .nil)))
  (.seq (.whileS (.eq .ne (.v 1) (.lst .nil))
  (.seq (.asg 3 (.me .pop (.v 1) .nil))
  (.seq (.ex (.me .append (.v 2) (.cons (.v 3) .nil)))
  (.ite (.eq .eq (.ix (.v 3) (.c (.int 0))) (.c (.str (Str.ofString "when"))))
  (.ex (.me .extend (.v 1) (.cons (.bi .rev (.cons (.bin .add (.ix (.v 3) (.c (.int 2))) (.ix (.v 3) (.c (.int 3)))) .nil)) .nil)))
  (.ite (.eq .eq (.ix (.v 3) (.c (.int 0))) (.c (.str (Str.ofString "turn"))))
  (.ex (.me .extend (.v 1) (.cons (.bi .rev (.cons (.ix (.v 3) (.c (.int 2))) .nil)) .nil)))
  .skip)))))
  (.ret (.v 2)))))⟩
def law_k08 : Fn := ⟨1, 8, (.seq (.asg 1 (.call "made_book" .val (.cons (.call "_law_drawn_book" .val (.cons (.v 0) .nil)) .nil)))
  (.seq (.forS (.n 2) (.e (.v 1))
  (.seq (.asg 3 (.call "_law_read_through" .val (.cons (.ix (.v 2) (.c (.int 2))) .nil)))
  (.seq (.asg 4 (.comp (.tup (.cons (.ix (.v 7) (.c (.int 4))) (.cons (.ix (.v 7) (.c (.int 2))) .nil))) (.n 7) [7] (.e (.v 3)) (.eq .eq (.ix (.v 7) (.c (.int 0))) (.c (.str (Str.ofString "call"))))))
  (.seq (.asg 5 (.call "rows_of" .obj (.cons (.v 2) .nil)))
  (.seq (.asg 6 (.call "calls_of" .obj (.cons (.v 2) .nil)))
  (.seq (.ite (.or (.not (.isT (.v 5) .list)) (.or (.eq .ne (.v 5) (.v 3)) (.or (.not (.isT (.v 6) .list)) (.eq .ne (.v 6) (.v 4)))))
  (.ret (.c (.bl false)))
  .skip)
  (.seq (.ex (.me .append (.v 5) (.cons (.tup (.cons (.c (.str (Str.ofString "say"))) (.cons (.tup (.cons (.c (.str (Str.ofString "number"))) (.cons (.c (.int 0)) .nil))) .nil))) .nil)))
  (.seq (.ex (.me .reverse (.v 6) .nil))
  (.seq (.ex (.me .append (.v 6) (.cons (.c .non) .nil)))
  (.ite (.or (.eq .ne (.call "rows_of" .val (.cons (.v 2) .nil)) (.v 3)) (.eq .ne (.call "calls_of" .val (.cons (.v 2) .nil)) (.v 4)))
  (.ret (.c (.bl false)))
  .skip))))))))))
  (.ret (.c (.bl true)))))⟩
def calls_of_v2 : Fn := ⟨1, 2, (.ret (.comp (.tup (.cons (.ix (.v 1) (.c (.int 4))) (.cons (.ix (.v 1) (.c (.int 2))) .nil))) (.n 1) [1] (.e (.call "rows_of" .val (.cons (.v 0) .nil))) (.eq .eq (.ix (.v 1) (.c (.int 0))) (.c (.str (Str.ofString "call"))))))⟩
def reached_from : Fn := ⟨2, 6, (.seq (.asg 2 (.new (.bi .list (.cons (.v 1) .nil))))
  (.seq (.asg 3 (.c (.int 0)))
  (.seq (.whileS (.cmp .lt (.v 3) (.bi .len (.cons (.v 2) .nil)))
  (.seq (.forS (.t [(.n 4), (.n 5)]) (.e (.call "calls_of" .val (.cons (.call "deed_of" .val (.cons (.v 0) (.cons (.ix (.v 2) (.v 3)) .nil))) .nil)))
  (.ite (.isin .notin (.v 5) (.v 2))
  (.ex (.me .append (.v 2) (.cons (.v 5) .nil)))
  .skip))
  (.asg 3 (.bin .add (.v 3) (.c (.int 1))))))
  (.ret (.v 2)))))⟩
def trimmed_book : Fn := ⟨1, 3, (.seq (.asg 1 (.call "reached_from" .val (.cons (.v 0) (.cons (.lst (.cons (.ix (.ix (.v 0) (.c (.int 0))) (.c (.int 0))) .nil)) .nil))))
  (.ret (.bi .tuple (.cons (.comp (.v 2) (.n 2) [2] (.e (.v 0)) (.isin .isin (.ix (.v 2) (.c (.int 0))) (.v 1))) .nil))))⟩
def _law_called : Fn := ⟨1, 2, (.ret (.comp (.ix (.v 1) (.c (.int 2))) (.n 1) [1] (.e (.call "_law_read_through" .val (.cons (.ix (.v 0) (.c (.int 2))) .nil))) (.eq .eq (.ix (.v 1) (.c (.int 0))) (.c (.str (Str.ofString "call"))))))⟩
def _law_all_reached : Fn := ⟨1, 5, (.seq (.asg 1 (.new (.lst (.cons (.ix (.ix (.v 0) (.c (.int 0))) (.c (.int 0))) .nil))))
  (.seq (.forS (.n 2) (.range (.bi .len (.cons (.v 0) .nil)))
  (.forS (.n 3) (.e (.v 0))
  (.ite (.isin .isin (.ix (.v 3) (.c (.int 0))) (.v 1))
  (.ex (.me .extend (.v 1) (.cons (.comp (.v 4) (.n 4) [4] (.e (.call "_law_called" .val (.cons (.v 3) .nil))) (.isin .notin (.v 4) (.v 1))) .nil)))
  .skip)))
  (.ret (.bi .all (.cons (.comp (.isin .isin (.ix (.v 3) (.c (.int 0))) (.v 1)) (.n 3) [3] (.e (.v 0)) (.c (.bl true))) .nil)))))⟩
def law_k11 : Fn := ⟨1, 6, (.seq (.asg 1 (.call "made_book" .val (.cons (.call "_law_drawn_book" .val (.cons (.v 0) .nil)) .nil)))
  (.seq (.asg 2 (.call "trimmed_book" .val (.cons (.v 1) .nil)))
  (.seq (.ite (.or (.not (.isT (.v 2) .tuple)) (.eq .ne (.sl (.v 2) .nil (.cons (.c (.int 1)) .nil)) (.sl (.v 1) .nil (.cons (.c (.int 1)) .nil))))
  (.ret (.c (.bl false)))
  .skip)
  (.seq (.asg 3 (.comp (.ix (.v 4) (.c (.int 0))) (.n 4) [4] (.e (.v 2)) (.c (.bl true))))
  (.seq (.ite (.eq .ne (.v 2) (.bi .tuple (.cons (.comp (.v 4) (.n 4) [4] (.e (.v 1)) (.isin .isin (.ix (.v 4) (.c (.int 0))) (.v 3))) .nil)))
  (.ret (.c (.bl false)))
  .skip)
  (.seq (.forS (.n 4) (.e (.v 2))
  (.ite (.not (.bi .all (.cons (.comp (.isin .isin (.v 5) (.v 3)) (.n 5) [5] (.e (.call "_law_called" .val (.cons (.v 4) .nil))) (.c (.bl true))) .nil)))
  (.ret (.c (.bl false)))
  .skip))
  (.ret (.and (.call "_law_all_reached" .val (.cons (.v 2) .nil)) (.eq .eq (.call "trimmed_book" .val (.cons (.v 2) .nil)) (.v 2))))))))))⟩
def size_of : Fn := ⟨1, 1, (.ret (.bin .add (.c (.int 1)) (.bi .len (.cons (.call "rows_of" .val (.cons (.v 0) .nil)) .nil))))⟩
def book_size : Fn := ⟨1, 2, (.ret (.bi .sum (.cons (.comp (.call "size_of" .val (.cons (.v 1) .nil)) (.n 1) [1] (.e (.v 0)) (.c (.bl true))) .nil)))⟩
def _law_refused : Fn := ⟨2, 4, (.seq (.asg 2 (.lst .nil))
  (.seq (.tryS (.ex (.call "deed_of" .val (.cons (.v 0) (.cons (.v 1) .nil)))) ["NoDeed"] (some 3)
  (.asg 2 (.lst (.cons (.isC (.v 3) "FoldError") (.cons (.isC (.v 3) "ValueError") (.cons (.isC (.v 3) "NoMark") .nil))))))
  (.ret (.eq .eq (.v 2) (.lst (.cons (.c (.bl true)) (.cons (.c (.bl true)) (.cons (.c (.bl false)) .nil))))))))⟩
def law_k10 : Fn := ⟨1, 7, (.seq (.asg 1 (.call "made_book" .val (.cons (.call "_law_drawn_book" .val (.cons (.v 0) .nil)) .nil)))
  (.seq (.asg 2 (.c (.int 0)))
  (.seq (.asg 3 (.new (.lst .nil)))
  (.seq (.forS (.n 4) (.e (.v 1))
  (.seq (.asg 5 (.bin .add (.c (.int 1)) (.bi .len (.cons (.call "_law_read_through" .val (.cons (.ix (.v 4) (.c (.int 2))) .nil)) .nil))))
  (.seq (.asg 2 (.bin .add (.v 2) (.v 5)))
  (.seq (.ex (.me .append (.v 3) (.cons (.ix (.v 4) (.c (.int 0))) .nil)))
  (.ite (.or (.not (.call "_law_same" .val (.cons (.call "size_of" .val (.cons (.v 4) .nil)) (.cons (.v 5) .nil)))) (.eq .ne (.call "deed_of" .val (.cons (.v 1) (.cons (.ix (.v 4) (.c (.int 0))) .nil))) (.v 4)))
  (.ret (.c (.bl false)))
  .skip)))))
  (.seq (.forS (.n 6) (.e (.lst (.cons (.c (.str (Str.ofString "none"))) (.cons (.c (.str (Str.ofString "zzzq"))) (.cons (.bin .add (.sl (.ix (.v 3) (.c (.int 0))) .nil (.cons (.c (.int 7)) .nil)) (.c (.str (Str.ofString "q")))) .nil)))))
  (.ite (.and (.isin .notin (.v 6) (.v 3)) (.not (.call "_law_refused" .val (.cons (.v 1) (.cons (.v 6) .nil)))))
  (.ret (.c (.bl false)))
  .skip))
  (.ret (.call "_law_same" .val (.cons (.call "book_size" .val (.cons (.v 1) .nil)) (.cons (.v 2) .nil)))))))))⟩
def _law_due : Fn := ⟨2, 3, (.seq (.asg 2 (.lst (.cons (.tup (.cons (.c (.str (Str.ofString "plus"))) (.cons (.bin .mod (.bin .add (.v 0) (.v 1)) (.c (.int 1000000))) .nil))) (.cons (.tup (.cons (.c (.str (Str.ofString "less"))) (.cons (.bin .mod (.bin .sub (.v 0) (.v 1)) (.c (.int 1000000))) .nil))) (.cons (.tup (.cons (.c (.str (Str.ofString "times"))) (.cons (.bin .mod (.bin .mul (.v 0) (.v 1)) (.c (.int 1000000))) .nil))) .nil)))))
  (.seq (.asg 2 (.bin .add (.v 2) (.lst (.cons (.tup (.cons (.c (.str (Str.ofString "under"))) (.cons (.bi .int (.cons (.cmp .lt (.v 0) (.v 1)) .nil)) .nil))) (.cons (.tup (.cons (.c (.str (Str.ofString "same"))) (.cons (.bi .int (.cons (.eq .eq (.v 0) (.v 1)) .nil)) .nil))) .nil)))))
  (.seq (.ite (.eq .eq (.v 1) (.c (.int 0)))
  (.ret (.bin .add (.v 2) (.lst (.cons (.tup (.cons (.c (.str (Str.ofString "over"))) (.cons (.c .non) .nil))) (.cons (.tup (.cons (.c (.str (Str.ofString "rest"))) (.cons (.c .non) .nil))) .nil)))))
  .skip)
  (.ret (.bin .add (.v 2) (.lst (.cons (.tup (.cons (.c (.str (Str.ofString "over"))) (.cons (.bin .fdiv (.v 0) (.v 1)) .nil))) (.cons (.tup (.cons (.c (.str (Str.ofString "rest"))) (.cons (.bin .sub (.v 0) (.bin .mul (.bin .fdiv (.v 0) (.v 1)) (.v 1))) .nil))) .nil))))))))⟩
def _law_told_v2 : Fn := ⟨2, 4, (.seq (.asg 2 (.c .non))
  (.seq (.tryS (.asg 2 (.call "worth_of" .val (.cons (.v 0) (.cons (.v 1) .nil)))) ["Broken"] (some 3)
  (.seq (.asg 2 (.c .non))
  (.ite (.or (.not (.isC (.v 3) "FoldError")) (.or (.not (.isC (.v 3) "ValueError")) (.isC (.v 3) "NoDeed")))
  (.asg 2 (.neg (.c (.int 1))))
  .skip)))
  (.ret (.v 2))))⟩
def law_k02 : Fn := ⟨1, 9, (.seq (.forS (.t [(.n 1), (.n 2)]) (.enum (.bin .add (.lst (.cons (.c (.int 0)) .nil)) (.v 0)))
  (.seq (.asg 3 (.call "_law_pot" .obj (.cons (.v 2) (.cons (.v 1) .nil))))
  (.seq (.asg 4 (.call "_law_value" .val (.cons (.v 3) .nil)))
  (.seq (.asg 5 (.call "_law_value" .val (.cons (.v 3) .nil)))
  (.seq (.ite (.eq .eq (.call "_law_take" .val (.cons (.v 3) (.cons (.c (.int 6)) .nil))) (.c (.int 0)))
  (.asg 5 (.ix (.lst (.cons (.c (.int 0)) (.cons (.v 4) .nil))) (.call "_law_take" .val (.cons (.v 3) (.cons (.c (.int 2)) .nil)))))
  .skip)
  (.seq (.asg 6 (.dct (.cons (.tup (.cons (.c (.str (Str.ofString "x"))) (.cons (.v 4) .nil))) (.cons (.tup (.cons (.c (.str (Str.ofString "xx"))) (.cons (.v 5) .nil))) .nil))))
  (.seq (.forS (.t [(.n 7), (.n 8)]) (.e (.call "_law_due" .val (.cons (.v 4) (.cons (.v 5) .nil))))
  (.seq (.ite (.not (.call "_law_same" .val (.cons (.call "_law_told" .val (.cons (.tup (.cons (.v 7) (.cons (.tup (.cons (.c (.str (Str.ofString "number"))) (.cons (.v 4) .nil))) (.cons (.tup (.cons (.c (.str (Str.ofString "number"))) (.cons (.v 5) .nil))) .nil)))) (.cons (.dct .nil) .nil))) (.cons (.v 8) .nil))))
  (.ret (.c (.bl false)))
  .skip)
  (.ite (.not (.call "_law_same" .val (.cons (.call "_law_told" .val (.cons (.tup (.cons (.v 7) (.cons (.tup (.cons (.c (.str (Str.ofString "name"))) (.cons (.c (.str (Str.ofString "x"))) .nil))) (.cons (.tup (.cons (.c (.str (Str.ofString "name"))) (.cons (.c (.str (Str.ofString "xx"))) .nil))) .nil)))) (.cons (.v 6) .nil))) (.cons (.v 8) .nil))))
  (.ret (.c (.bl false)))
  .skip)))
  (.ite (.eq .ne (.v 6) (.dct (.cons (.tup (.cons (.c (.str (Str.ofString "x"))) (.cons (.v 4) .nil))) (.cons (.tup (.cons (.c (.str (Str.ofString "xx"))) (.cons (.v 5) .nil))) .nil))))
  (.ret (.c (.bl false)))
  .skip))))))))
  (.ret (.c (.bl true))))⟩
def _law_due_v2 : Fn := ⟨1, 7, (.seq (.forS (.t [(.n 1), (.n 2)]) (.enum (.v 0))
  (.ite (.or (.isin .isin (.ix (.v 2) (.c (.int 0))) (.comp (.ix (.v 6) (.c (.int 0))) (.n 6) [6] (.e (.sl (.v 0) .nil (.cons (.v 1) .nil))) (.c (.bl true)))) (.cmp .lt (.bi .setlen (.cons (.ix (.v 2) (.c (.int 1))) .nil)) (.bi .len (.cons (.ix (.v 2) (.c (.int 1))) .nil))))
  (.ret (.c (.str (Str.ofString "twice"))))
  .skip))
  (.seq (.asg 3 (.new (.lst .nil)))
  (.seq (.forS (.n 2) (.e (.v 0))
  (.forS (.n 4) (.e (.call "_law_read_through" .val (.cons (.ix (.v 2) (.c (.int 2))) .nil)))
  (.ite (.eq .eq (.ix (.v 4) (.c (.int 0))) (.c (.str (Str.ofString "call"))))
  (.seq (.asg 5 (.comp (.v 6) (.n 6) [6] (.e (.v 0)) (.eq .eq (.ix (.v 6) (.c (.int 0))) (.ix (.v 4) (.c (.int 2))))))
  (.seq (.ite (.eq .eq (.v 5) (.lst .nil))
  (.ret (.c (.str (Str.ofString "nodeed"))))
  .skip)
  (.seq (.ite (.eq .ne (.bi .len (.cons (.ix (.ix (.v 5) (.c (.int 0))) (.c (.int 1))) .nil)) (.bi .len (.cons (.ix (.v 4) (.c (.int 3))) .nil)))
  (.ret (.c (.str (Str.ofString "count"))))
  .skip)
  (.seq (.ite (.isin .isin (.ix (.v 4) (.c (.int 4))) (.v 3))
  (.ret (.c (.str (Str.ofString "twice"))))
  .skip)
  (.ex (.me .append (.v 3) (.cons (.ix (.v 4) (.c (.int 4))) .nil)))))))
  .skip)))
  (.ret (.c .non)))))⟩
def _law_changed : Fn := ⟨4, 7, (.seq (.asg 4 (.new (.lst .nil)))
  (.seq (.forS (.n 5) (.e (.v 1))
  (.seq (.ite (.eq .eq (.ix (.v 5) (.c (.int 0))) (.c (.str (Str.ofString "when"))))
  (.seq (.asg 6 (.call "_law_changed" .val (.cons (.v 0) (.cons (.ix (.v 5) (.c (.int 2))) (.cons (.v 2) (.cons (.v 3) .nil))))))
  (.asg 5 (.tup (.cons (.c (.str (Str.ofString "when"))) (.cons (.ix (.v 5) (.c (.int 1))) (.cons (.v 6) (.cons (.call "_law_changed" .val (.cons (.v 0) (.cons (.ix (.v 5) (.c (.int 3))) (.cons (.v 2) (.cons (.v 3) .nil))))) .nil)))))))
  (.ite (.eq .eq (.ix (.v 5) (.c (.int 0))) (.c (.str (Str.ofString "turn"))))
  (.asg 5 (.tup (.cons (.c (.str (Str.ofString "turn"))) (.cons (.ix (.v 5) (.c (.int 1))) (.cons (.call "_law_changed" .val (.cons (.v 0) (.cons (.ix (.v 5) (.c (.int 2))) (.cons (.v 2) (.cons (.v 3) .nil))))) .nil)))))
  (.ite (.and (.eq .eq (.ix (.v 5) (.c (.int 0))) (.c (.str (Str.ofString "call")))) (.eq .eq (.call "_law_take" .val (.cons (.v 0) (.cons (.c (.int 3)) .nil))) (.c (.int 0))))
  (.seq (.ite (.eq .eq (.v 2) (.c (.int 2)))
  (.asg 5 (.bin .add (.bin .add (.sl (.v 5) .nil (.cons (.c (.int 2)) .nil)) (.tup (.cons (.c (.str (Str.ofString "nodeed"))) .nil))) (.sl (.v 5) (.cons (.c (.int 3)) .nil) .nil)))
  .skip)
  (.seq (.ite (.eq .eq (.v 2) (.c (.int 3)))
  (.asg 5 (.bin .add (.bin .add (.sl (.v 5) .nil (.cons (.c (.int 3)) .nil)) (.tup (.cons (.bin .add (.sl (.ix (.v 5) (.c (.int 3))) .nil (.cons (.c (.int 3)) .nil)) (.tup (.cons (.tup (.cons (.c (.str (Str.ofString "number"))) (.cons (.c (.int 7)) .nil))) .nil))) .nil))) (.sl (.v 5) (.cons (.c (.int 4)) .nil) .nil)))
  .skip)
  (.seq (.ite (.eq .eq (.v 2) (.c (.int 4)))
  (.asg 5 (.bin .add (.bin .add (.sl (.v 5) .nil (.cons (.c (.int 3)) .nil)) (.tup (.cons (.sl (.ix (.v 5) (.c (.int 3))) (.cons (.c (.int 1)) .nil) .nil) .nil))) (.sl (.v 5) (.cons (.c (.int 4)) .nil) .nil)))
  .skip)
  (.ite (.eq .eq (.v 2) (.c (.int 5)))
  (.asg 5 (.bin .add (.sl (.v 5) .nil (.cons (.c (.int 4)) .nil)) (.tup (.cons (.v 3) .nil))))
  .skip))))
  .skip)))
  (.ex (.me .append (.v 4) (.cons (.v 5) .nil)))))
  (.ret (.bi .tuple (.cons (.v 4) .nil)))))⟩
def _law_spoilt : Fn := ⟨2, 11, (.seq (.asg 2 (.new (.bi .list (.cons (.v 1) .nil))))
  (.seq (.forS (.n 3) (.range (.call "_law_take" .val (.cons (.v 0) (.cons (.c (.int 4)) .nil))))
  (.seq (.asg 4 (.call "_law_take" .val (.cons (.v 0) (.cons (.c (.int 6)) .nil))))
  (.seq (.asg 5 (.call "_law_take" .val (.cons (.v 0) (.cons (.bi .len (.cons (.v 2) .nil)) .nil))))
  (.seq (.asgT (.t [(.n 6), (.n 7), (.n 8), (.n 9)]) (.ix (.v 2) (.v 5)))
  (.seq (.ite (.eq .eq (.v 4) (.c (.int 0)))
  (.asg 6 (.ix (.ix (.v 2) (.call "_law_take" .val (.cons (.v 0) (.cons (.bi .len (.cons (.v 2) .nil)) .nil)))) (.c (.int 0))))
  .skip)
  (.seq (.ite (.and (.eq .eq (.v 4) (.c (.int 1))) (.eq .ne (.v 7) (.tup .nil)))
  (.seq (.asg 10 (.call "_law_take" .val (.cons (.v 0) (.cons (.bi .len (.cons (.v 7) .nil)) .nil))))
  (.seq (.asg 7 (.bin .add (.bin .add (.sl (.v 7) .nil (.cons (.v 10) .nil)) (.sl (.sl (.v 7) (.cons (.call "_law_take" .val (.cons (.v 0) (.cons (.bi .len (.cons (.v 7) .nil)) .nil))) .nil) .nil) .nil (.cons (.c (.int 1)) .nil))) (.sl (.v 7) (.cons (.bin .add (.v 10) (.call "_law_take" .val (.cons (.v 0) (.cons (.c (.int 2)) .nil)))) .nil) .nil)))
  (.asg 7 (.sl (.v 7) .nil (.cons (.c (.int 4)) .nil)))))
  .skip)
  (.seq (.asg 8 (.call "_law_changed" .val (.cons (.v 0) (.cons (.v 8) (.cons (.v 4) (.cons (.call "_law_take" .val (.cons (.v 0) (.cons (.c (.int 100)) .nil))) .nil))))))
  (.setix (.v 2) (.v 5) (.tup (.cons (.v 6) (.cons (.v 7) (.cons (.v 8) (.cons (.v 9) .nil)))))))))))))
  (.ret (.v 2))))⟩
def _law_told_v3 : Fn := ⟨1, 4, (.seq (.asg 1 (.c .non))
  (.seq (.tryS (.ex (.call "made_book" .val (.cons (.v 0) .nil))) ["FoldError"] (some 2)
  (.seq (.asg 3 (.lst (.cons (.isC (.v 2) "Twice") (.cons (.isC (.v 2) "NoDeed") (.cons (.isC (.v 2) "WrongCount") (.cons (.isC (.v 2) "NoMark") .nil))))))
  (.seq (.asg 1 (.c (.str (Str.ofString "other"))))
  (.ite (.and (.eq .eq (.me .count (.v 3) (.cons (.c (.bl true)) .nil)) (.c (.int 1))) (.isC (.v 2) "ValueError"))
  (.asg 1 (.ix (.lst (.cons (.c (.str (Str.ofString "twice"))) (.cons (.c (.str (Str.ofString "nodeed"))) (.cons (.c (.str (Str.ofString "count"))) (.cons (.c (.str (Str.ofString "other"))) .nil))))) (.me .index (.v 3) (.cons (.c (.bl true)) .nil))))
  .skip))))
  (.ret (.v 1))))⟩
def law_k07 : Fn := ⟨1, 6, (.seq (.asg 1 (.call "_law_drawn_book" .val (.cons (.v 0) .nil)))
  (.seq (.forS (.n 2) (.range (.c (.int 3)))
  (.seq (.asg 3 (.call "_law_pot" .obj (.cons (.bin .add (.bi .sum (.cons (.sl (.v 0) .nil (.cons (.c (.int 63)) .nil)) .nil)) (.v 2)) (.cons (.bin .add (.c (.int 20)) (.v 2)) .nil))))
  (.seq (.asg 4 (.call "_law_spoilt" .val (.cons (.v 3) (.cons (.v 1) .nil))))
  (.seq (.asg 5 (.bi .list (.cons (.v 4) .nil)))
  (.ite (.or (.eq .ne (.call "_law_told" .val (.cons (.v 5) .nil)) (.call "_law_due" .val (.cons (.v 4) .nil))) (.eq .ne (.v 5) (.v 4)))
  (.ret (.c (.bl false)))
  .skip)))))
  (.ret (.isN false (.call "_law_told" .val (.cons (.bi .list (.cons (.v 1) .nil)) .nil))))))⟩
def Running___init__ : Fn := ⟨2, 2, (.seq (.setattr (.v 0) "book" (.v 1))
  (.seq (.setattr (.v 0) "said" (.new (.lst .nil)))
  (.seq (.setattr (.v 0) "begun_rows" (.c (.int 0)))
  (.seq (.setattr (.v 0) "begun_rounds" (.c (.int 0)))
  (.seq (.setattr (.v 0) "made_calls" (.c (.int 0)))
  (.seq (.setattr (.v 0) "counts" (.new (.dct .nil)))
  (.seq (.setattr (.v 0) "way" (.tup .nil))
  (.setattr (.v 0) "ways" (.new (.dct .nil))))))))))⟩
def Running_begin_round : Fn := ⟨1, 1, (.seq (.ite (.eq .eq (.attr (.v 0) "begun_rounds") (.c (.int 1000)))
  (.raise "TooLong")
  .skip)
  (.setattr (.v 0) "begun_rounds" (.bin .add (.attr (.v 0) "begun_rounds") (.c (.int 1)))))⟩
def Running_make_call : Fn := ⟨2, 2, (.seq (.ite (.eq .eq (.bin .add (.bi .len (.cons (.attr (.v 0) "way") .nil)) (.c (.int 1))) (.c (.int 20)))
  (.raise "TooDeep")
  .skip)
  (.seq (.ite (.eq .eq (.attr (.v 0) "made_calls") (.c (.int 300)))
  (.raise "TooLong")
  .skip)
  (.seq (.setattr (.v 0) "made_calls" (.bin .add (.attr (.v 0) "made_calls") (.c (.int 1))))
  (.seq (.setix (.attr (.v 0) "counts") (.v 1) (.bin .add (.me .get (.attr (.v 0) "counts") (.cons (.v 1) (.cons (.c (.int 0)) .nil))) (.c (.int 1))))
  (.seq (.setattr (.v 0) "way" (.bin .add (.attr (.v 0) "way") (.tup (.cons (.v 1) .nil))))
  (.setix (.attr (.v 0) "ways") (.attr (.v 0) "way") (.bin .add (.me .get (.attr (.v 0) "ways") (.cons (.attr (.v 0) "way") (.cons (.c (.int 0)) .nil))) (.c (.int 1)))))))))⟩
def Running_done_deed : Fn := ⟨3, 6, (.seq (.asg 3 (.new (.dct .nil)))
  (.seq (.forS (.t [(.n 4), (.n 5)]) (.zip (.ix (.v 1) (.c (.int 1))) (.v 2))
  (.setix (.v 3) (.v 4) (.v 5)))
  (.seq (.ex (.mth "Running" (.v 0) "Running_do_rows" .val (.cons (.ix (.v 1) (.c (.int 2))) (.cons (.v 3) .nil))))
  (.ret (.call "worth_of" .val (.cons (.ix (.v 1) (.c (.int 3))) (.cons (.v 3) .nil)))))))⟩
def Running_do_rows : Fn := ⟨3, 4, (.forS (.n 3) (.e (.v 1))
  (.seq (.setattr (.v 0) "begun_rows" (.bin .add (.attr (.v 0) "begun_rows") (.c (.int 1))))
  (.ite (.eq .eq (.ix (.v 3) (.c (.int 0))) (.c (.str (Str.ofString "set"))))
  (.setix (.v 2) (.ix (.v 3) (.c (.int 1))) (.call "worth_of" .val (.cons (.ix (.v 3) (.c (.int 2))) (.cons (.v 2) .nil))))
  (.ite (.eq .eq (.ix (.v 3) (.c (.int 0))) (.c (.str (Str.ofString "say"))))
  (.seq (.ex (.mth "Running" (.v 0) "Running_begin_round" .val .nil))
  (.ex (.me .append (.attr (.v 0) "said") (.cons (.call "worth_of" .val (.cons (.ix (.v 3) (.c (.int 1))) (.cons (.v 2) .nil))) .nil))))
  (.ite (.eq .eq (.ix (.v 3) (.c (.int 0))) (.c (.str (Str.ofString "call"))))
  (.ex (.mth "Running" (.v 0) "Running_do_call" .val (.cons (.v 3) (.cons (.v 2) .nil))))
  (.ite (.eq .eq (.ix (.v 3) (.c (.int 0))) (.c (.str (Str.ofString "when"))))
  (.ex (.mth "Running" (.v 0) "Running_do_when" .val (.cons (.v 3) (.cons (.v 2) .nil))))
  (.ex (.mth "Running" (.v 0) "Running_do_turn" .val (.cons (.v 3) (.cons (.v 2) .nil))))))))))⟩
def Running_do_call : Fn := ⟨3, 5, (.seq (.asg 3 (.comp (.call "worth_of" .val (.cons (.v 4) (.cons (.v 2) .nil))) (.n 4) [4] (.e (.ix (.v 1) (.c (.int 3)))) (.c (.bl true))))
  (.seq (.ex (.mth "Running" (.v 0) "Running_make_call" .val (.cons (.ix (.v 1) (.c (.int 4))) .nil)))
  (.seq (.setix (.v 2) (.ix (.v 1) (.c (.int 1))) (.mth "Running" (.v 0) "Running_done_deed" .val (.cons (.call "deed_of" .val (.cons (.attr (.v 0) "book") (.cons (.ix (.v 1) (.c (.int 2))) .nil))) (.cons (.v 3) .nil))))
  (.setattr (.v 0) "way" (.sl (.attr (.v 0) "way") .nil (.cons (.neg (.c (.int 1))) .nil))))))⟩
def Running_do_when : Fn := ⟨3, 3, (.seq (.ex (.mth "Running" (.v 0) "Running_begin_round" .val .nil))
  (.ite (.eq .ne (.call "worth_of" .val (.cons (.ix (.v 1) (.c (.int 1))) (.cons (.v 2) .nil))) (.c (.int 0)))
  (.ex (.mth "Running" (.v 0) "Running_do_rows" .val (.cons (.ix (.v 1) (.c (.int 2))) (.cons (.v 2) .nil))))
  (.ex (.mth "Running" (.v 0) "Running_do_rows" .val (.cons (.ix (.v 1) (.c (.int 3))) (.cons (.v 2) .nil))))))⟩
def Running_do_turn : Fn := ⟨3, 4, (.forS (.n 3) (.range (.bin .mod (.call "worth_of" .val (.cons (.ix (.v 1) (.c (.int 1))) (.cons (.v 2) .nil))) (.c (.int 10))))
  (.seq (.ex (.mth "Running" (.v 0) "Running_begin_round" .val .nil))
  (.ex (.mth "Running" (.v 0) "Running_do_rows" .val (.cons (.ix (.v 1) (.c (.int 2))) (.cons (.v 2) .nil))))))⟩
def rising_counts : Fn := ⟨1, 3, (.seq (.asg 1 (.new (.dct .nil)))
  (.seq (.forS (.n 2) (.e (.bi .sortK (.cons (.v 0) .nil)))
  (.setix (.v 1) (.v 2) (.ix (.v 0) (.v 2))))
  (.ret (.v 1))))⟩
def ran_ways : Fn := ⟨2, 4, (.seq (.ite (.eq .ne (.bi .len (.cons (.v 1) .nil)) (.bi .len (.cons (.ix (.ix (.v 0) (.c (.int 0))) (.c (.int 1))) .nil)))
  (.raise "WrongCount")
  .skip)
  (.seq (.asg 2 (.mk "Running" "Running___init__" (.cons (.v 0) .nil)))
  (.seq (.tryS (.asg 3 (.mth "Running" (.v 2) "Running_done_deed" .val (.cons (.ix (.v 0) (.c (.int 0))) (.cons (.v 1) .nil)))) ["Broken"] none
  (.ret (.tup (.cons (.tup (.cons (.c (.str (Str.ofString "broken"))) (.cons (.attr (.v 2) "said") .nil))) (.cons (.attr (.v 2) "ways") .nil)))))
  (.ret (.tup (.cons (.tup (.cons (.c (.str (Str.ofString "done"))) (.cons (.attr (.v 2) "said") (.cons (.v 3) (.cons (.attr (.v 2) "begun_rows") (.cons (.call "rising_counts" .val (.cons (.attr (.v 2) "counts") .nil)) .nil)))))) (.cons (.attr (.v 2) "ways") .nil)))))))⟩
def run_book : Fn := ⟨2, 2, (.ret (.ix (.call "ran_ways" .val (.cons (.v 0) (.cons (.v 1) .nil))) (.c (.int 0))))⟩
def _law_some_values : Fn := ⟨2, 3, (.ret (.comp (.call "_law_value" .val (.cons (.v 0) .nil)) (.n 2) [2] (.range (.v 1)) (.c (.bl true))))⟩
def _law_kind_right : Fn := ⟨1, 3, (.seq (.ite (.or (.not (.isT (.v 0) .tuple)) (.or (.isin .notin (.bi .len (.cons (.v 0) .nil)) (.tup (.cons (.c (.int 2)) (.cons (.c (.int 5)) .nil)))) (.not (.isT (.ix (.v 0) (.c (.int 1))) .list))))
  (.ret (.c (.bl false)))
  .skip)
  (.seq (.asg 1 (.bi .list (.cons (.ix (.v 0) (.c (.int 1))) .nil)))
  (.seq (.ite (.eq .eq (.bi .len (.cons (.v 0) .nil)) (.c (.int 5)))
  (.seq (.ite (.not (.isT (.ix (.v 0) (.c (.int 4))) .dict))
  (.ret (.c (.bl false)))
  .skip)
  (.asg 1 (.bin .add (.bin .add (.bin .add (.v 1) (.lst (.cons (.ix (.v 0) (.c (.int 2))) (.cons (.ix (.v 0) (.c (.int 3))) .nil)))) (.bi .keysL (.cons (.ix (.v 0) (.c (.int 4))) .nil))) (.bi .valsL (.cons (.ix (.v 0) (.c (.int 4))) .nil)))))
  .skip)
  (.ret (.bi .all (.cons (.comp (.and (.isT (.v 2) .int) (.not (.isT (.v 2) .bool))) (.n 2) [2] (.e (.v 1)) (.c (.bl true))) .nil))))))⟩
def _law_some_rows : Fn := ⟨2, 5, (.seq (.asg 2 (.new (.lst .nil)))
  (.seq (.forS (.n 3) (.range (.call "_law_take" .val (.cons (.v 0) (.cons (.c (.int 9)) .nil))))
  (.seq (.asg 4 (.call "_law_drawn" .val (.cons (.v 0) (.cons (.v 1) (.cons (.bin .add (.c (.int 1)) (.call "_law_take" .val (.cons (.v 0) (.cons (.c (.int 3)) .nil)))) .nil)))))
  (.ite (.eq .eq (.call "_law_take" .val (.cons (.v 0) (.cons (.c (.int 3)) .nil))) (.c (.int 0)))
  (.ex (.me .append (.v 2) (.cons (.tup (.cons (.c (.str (Str.ofString "say"))) (.cons (.v 4) .nil))) .nil)))
  (.ex (.me .append (.v 2) (.cons (.tup (.cons (.c (.str (Str.ofString "set"))) (.cons (.ix (.v 1) (.call "_law_take" .val (.cons (.v 0) (.cons (.bi .len (.cons (.v 1) .nil)) .nil)))) (.cons (.v 4) .nil)))) .nil))))))
  (.ret (.v 2))))⟩
def _law_due_v3 : Fn := ⟨4, 9, (.seq (.asg 4 (.new (.dct .nil)))
  (.seq (.forS (.n 5) (.range (.bi .len (.cons (.v 0) .nil)))
  (.setix (.v 4) (.ix (.v 0) (.v 5)) (.ix (.v 3) (.v 5))))
  (.seq (.asg 6 (.new (.lst .nil)))
  (.seq (.forS (.n 7) (.e (.v 1))
  (.seq (.asg 8 (.call "_law_worth" .val (.cons (.ix (.v 7) (.neg (.c (.int 1)))) (.cons (.v 4) .nil))))
  (.seq (.ite (.isN false (.v 8))
  (.ret (.tup (.cons (.c (.str (Str.ofString "broken"))) (.cons (.v 6) .nil))))
  .skip)
  (.ite (.eq .eq (.ix (.v 7) (.c (.int 0))) (.c (.str (Str.ofString "say"))))
  (.ex (.me .append (.v 6) (.cons (.v 8) .nil)))
  (.setix (.v 4) (.ix (.v 7) (.c (.int 1))) (.v 8))))))
  (.seq (.asg 8 (.call "_law_worth" .val (.cons (.v 2) (.cons (.v 4) .nil))))
  (.seq (.ite (.isN false (.v 8))
  (.ret (.tup (.cons (.c (.str (Str.ofString "broken"))) (.cons (.v 6) .nil))))
  .skip)
  (.ret (.tup (.cons (.c (.str (Str.ofString "done"))) (.cons (.v 6) (.cons (.v 8) (.cons (.bi .len (.cons (.v 1) .nil)) (.cons (.dct .nil) .nil)))))))))))))⟩
def law_k17 : Fn := ⟨1, 12, (.seq (.forS (.t [(.n 1), (.n 2)]) (.enum (.bin .add (.lst (.cons (.c (.int 0)) .nil)) (.v 0)))
  (.seq (.asg 3 (.call "_law_pot" .obj (.cons (.v 2) (.cons (.v 1) .nil))))
  (.seq (.asg 4 (.call "_law_names" .val (.cons (.v 3) (.cons (.bin .add (.c (.int 1)) (.call "_law_take" .val (.cons (.v 3) (.cons (.c (.int 6)) .nil)))) .nil))))
  (.seq (.asg 5 (.sl (.v 4) .nil (.cons (.call "_law_take" .val (.cons (.v 3) (.cons (.c (.int 5)) .nil))) .nil)))
  (.seq (.asg 6 (.call "_law_some_rows" .val (.cons (.v 3) (.cons (.v 4) .nil))))
  (.seq (.asg 7 (.call "_law_drawn" .val (.cons (.v 3) (.cons (.v 4) (.cons (.bin .add (.c (.int 1)) (.call "_law_take" .val (.cons (.v 3) (.cons (.c (.int 3)) .nil)))) .nil)))))
  (.seq (.asg 8 (.call "made_book" .val (.cons (.lst (.cons (.tup (.cons (.c (.str (Str.ofString "only"))) (.cons (.bi .tuple (.cons (.v 5) .nil)) (.cons (.bi .tuple (.cons (.v 6) .nil)) (.cons (.v 7) .nil))))) .nil)) .nil)))
  (.seq (.asg 9 (.call "_law_some_values" .val (.cons (.v 3) (.cons (.bi .len (.cons (.v 5) .nil)) .nil))))
  (.seq (.asg 10 (.bi .list (.cons (.v 9) .nil)))
  (.seq (.asg 11 (.call "run_book" .val (.cons (.v 8) (.cons (.v 10) .nil))))
  (.ite (.or (.not (.call "_law_kind_right" .val (.cons (.v 11) .nil))) (.or (.eq .ne (.v 11) (.call "_law_due" .val (.cons (.v 5) (.cons (.v 6) (.cons (.v 7) (.cons (.v 9) .nil)))))) (.eq .ne (.v 10) (.v 9))))
  (.ret (.c (.bl false)))
  .skip)))))))))))
  (.ret (.c (.bl true))))⟩
def _law_due_v4 : Fn := ⟨5, 11, (.seq (.asg 5 (.new (.lst .nil)))
  (.seq (.asg 6 (.bin .mul (.bin .mod (.v 0) (.c (.int 10))) (.bin .mod (.v 1) (.c (.int 10)))))
  (.seq (.asgT (.t [(.n 7), (.n 8), (.n 9)]) (.tup (.cons (.c (.int 0)) (.cons (.c (.int 0)) (.cons (.bin .add (.c (.int 3)) (.bin .mul (.bin .mod (.v 0) (.c (.int 10))) (.bin .add (.c (.int 2)) (.bin .mod (.v 1) (.c (.int 10)))))) .nil)))))
  (.seq (.forS (.n 10) (.range (.bin .mod (.v 2) (.c (.int 10))))
  (.seq (.asg 9 (.bin .add (.v 9) (.c (.int 3))))
  (.seq (.asg 8 (.bin .add (.v 8) (.c (.int 1))))
  (.ite (.eq .eq (.eq .eq (.bin .mod (.v 8) (.c (.int 2))) (.c (.int 0))) (.v 4))
  (.asg 7 (.bin .mod (.bin .add (.v 7) (.v 3)) (.c (.int 1000000))))
  (.ex (.me .append (.v 5) (.cons (.v 7) .nil)))))))
  (.ret (.tup (.cons (.c (.str (Str.ofString "done"))) (.cons (.v 5) (.cons (.bin .mod (.bin .add (.v 7) (.v 6)) (.c (.int 1000000))) (.cons (.v 9) (.cons (.dct .nil) .nil)))))))))))⟩
def law_k18 : Fn := ⟨1, 19, (.seq (.forS (.t [(.n 1), (.n 2)]) (.enum (.bin .add (.lst (.cons (.c (.int 0)) .nil)) (.v 0)))
  (.seq (.asg 3 (.call "_law_pot" .obj (.cons (.v 2) (.cons (.v 1) .nil))))
  (.seq (.asgT (.t [(.n 4), (.n 5), (.n 6), (.n 7)]) (.comp (.call "_law_value" .val (.cons (.v 3) .nil)) (.n 18) [18] (.range (.c (.int 4))) (.c (.bl true))))
  (.seq (.asg 8 (.eq .eq (.call "_law_take" .val (.cons (.v 3) (.cons (.c (.int 2)) .nil))) (.c (.int 0))))
  (.seq (.asg 9 (.tup (.cons (.c (.str (Str.ofString "rest"))) (.cons (.tup (.cons (.c (.str (Str.ofString "name"))) (.cons (.c (.str (Str.ofString "c"))) .nil))) (.cons (.tup (.cons (.c (.str (Str.ofString "number"))) (.cons (.c (.int 2)) .nil))) .nil)))))
  (.seq (.ite (.v 8)
  (.asg 9 (.tup (.cons (.c (.str (Str.ofString "same"))) (.cons (.v 9) (.cons (.tup (.cons (.c (.str (Str.ofString "number"))) (.cons (.c (.int 0)) .nil))) .nil)))))
  .skip)
  (.seq (.asg 10 (.tup (.cons (.c (.str (Str.ofString "set"))) (.cons (.c (.str (Str.ofString "t"))) (.cons (.tup (.cons (.c (.str (Str.ofString "plus"))) (.cons (.tup (.cons (.c (.str (Str.ofString "name"))) (.cons (.c (.str (Str.ofString "t"))) .nil))) (.cons (.tup (.cons (.c (.str (Str.ofString "number"))) (.cons (.v 7) .nil))) .nil)))) .nil)))))
  (.seq (.asg 11 (.tup (.cons (.c (.str (Str.ofString "when"))) (.cons (.v 9) (.cons (.tup (.cons (.v 10) .nil)) (.cons (.tup (.cons (.tup (.cons (.c (.str (Str.ofString "say"))) (.cons (.tup (.cons (.c (.str (Str.ofString "name"))) (.cons (.c (.str (Str.ofString "t"))) .nil))) .nil))) .nil)) .nil))))))
  (.seq (.asg 12 (.tup (.cons (.c (.str (Str.ofString "set"))) (.cons (.c (.str (Str.ofString "m"))) (.cons (.tup (.cons (.c (.str (Str.ofString "plus"))) (.cons (.tup (.cons (.c (.str (Str.ofString "name"))) (.cons (.c (.str (Str.ofString "m"))) .nil))) (.cons (.tup (.cons (.c (.str (Str.ofString "number"))) (.cons (.c (.int 3)) .nil))) .nil)))) .nil)))))
  (.seq (.asg 13 (.tup (.cons (.c (.str (Str.ofString "turn"))) (.cons (.tup (.cons (.c (.str (Str.ofString "number"))) (.cons (.v 5) .nil))) (.cons (.tup (.cons (.tup (.cons (.c (.str (Str.ofString "set"))) (.cons (.c (.str (Str.ofString "n"))) (.cons (.tup (.cons (.c (.str (Str.ofString "plus"))) (.cons (.tup (.cons (.c (.str (Str.ofString "name"))) (.cons (.c (.str (Str.ofString "n"))) .nil))) (.cons (.tup (.cons (.c (.str (Str.ofString "number"))) (.cons (.c (.int 1)) .nil))) .nil)))) .nil)))) .nil)) .nil)))))
  (.seq (.asg 14 (.tup (.cons (.c (.str (Str.ofString "turn"))) (.cons (.tup (.cons (.c (.str (Str.ofString "number"))) (.cons (.v 6) .nil))) (.cons (.tup (.cons (.tup (.cons (.c (.str (Str.ofString "set"))) (.cons (.c (.str (Str.ofString "c"))) (.cons (.tup (.cons (.c (.str (Str.ofString "plus"))) (.cons (.tup (.cons (.c (.str (Str.ofString "name"))) (.cons (.c (.str (Str.ofString "c"))) .nil))) (.cons (.tup (.cons (.c (.str (Str.ofString "number"))) (.cons (.c (.int 1)) .nil))) .nil)))) .nil)))) (.cons (.v 11) .nil))) .nil)))))
  (.seq (.asg 15 (.tup (.cons (.tup (.cons (.c (.str (Str.ofString "set"))) (.cons (.c (.str (Str.ofString "m"))) (.cons (.tup (.cons (.c (.str (Str.ofString "number"))) (.cons (.v 4) .nil))) .nil)))) (.cons (.tup (.cons (.c (.str (Str.ofString "turn"))) (.cons (.tup (.cons (.c (.str (Str.ofString "name"))) (.cons (.c (.str (Str.ofString "m"))) .nil))) (.cons (.tup (.cons (.v 12) (.cons (.v 13) .nil))) .nil)))) (.cons (.v 14) .nil)))))
  (.seq (.asg 16 (.call "made_book" .val (.cons (.lst (.cons (.tup (.cons (.c (.str (Str.ofString "only"))) (.cons (.tup .nil) (.cons (.v 15) (.cons (.tup (.cons (.c (.str (Str.ofString "plus"))) (.cons (.tup (.cons (.c (.str (Str.ofString "name"))) (.cons (.c (.str (Str.ofString "t"))) .nil))) (.cons (.tup (.cons (.c (.str (Str.ofString "name"))) (.cons (.c (.str (Str.ofString "n"))) .nil))) .nil)))) .nil))))) .nil)) .nil)))
  (.seq (.asg 17 (.call "run_book" .val (.cons (.v 16) (.cons (.lst .nil) .nil))))
  (.ite (.or (.not (.call "_law_kind_right" .val (.cons (.v 17) .nil))) (.eq .ne (.v 17) (.call "_law_due" .val (.cons (.v 4) (.cons (.v 5) (.cons (.v 6) (.cons (.v 7) (.cons (.v 8) .nil))))))))
  (.ret (.c (.bl false)))
  .skip)))))))))))))))
  (.ret (.c (.bl true))))⟩
def _law_due_v5 : Fn := ⟨5, 11, (.seq (.asg 5 (.new (.lst .nil)))
  (.seq (.asg 6 (.bin .mul (.bin .mod (.v 0) (.c (.int 10))) (.bin .mod (.v 1) (.c (.int 10)))))
  (.seq (.asgT (.t [.n 7, .n 8, .n 9]) (.tup (.cons (.c (.int 0)) (.cons (.c (.int 0)) (.cons (.bin .add (.c (.int 3)) (.bin .mul (.bin .mod (.v 0) (.c (.int 10))) (.bin .add (.c (.int 2)) (.bin .mod (.v 1) (.c (.int 10)))))) .nil)))))
  (.seq (.forS (.n 10) (.range (.bin .mod (.v 2) (.c (.int 10))))
  (.seq (.asg 9 (.bin .add (.v 9) (.c (.int 3))))
  (.seq (.asg 8 (.bin .add (.v 8) (.c (.int 1))))
  (.ite (.eq .eq (.eq .eq (.bin .mod (.v 8) (.c (.int 2))) (.c (.int 0))) (.v 4))
  (.asg 7 (.bin .mod (.bin .add (.v 7) (.v 3)) (.c (.int 1000000))))
  (.ex (.me .append (.v 5) (.cons (.v 7) .nil)))))))
  (.ret (.tup (.cons (.c (.str (Str.ofString "done"))) (.cons (.v 5) (.cons (.bin .mod (.bin .add (.v 7) (.v 6)) (.c (.int 1000000))) (.cons (.v 9) (.cons (.dct .nil) .nil)))))))))))⟩
end Mi.D
/-! La: expressions and their worths. -/
namespace Mi
open PySem (Str)
inductive Wd where | plus | less | times | over | rest | under | same
  deriving DecidableEq
def Wd.s : Wd → Str
  | .plus => Str.ofString "plus"
  | .less => Str.ofString "less"
  | .times => Str.ofString "times"
  | .over => Str.ofString "over"
  | .rest => Str.ofString "rest"
  | .under => Str.ofString "under"
  | .same => Str.ofString "same"
inductive Ex where
  | num (i : Int)
  | nam (s : Str)
  | op (w : Wd) (a b : Ex)
  deriving DecidableEq
def Ex.v : Ex → Val
  | .num i => .tup [.str (Str.ofString "number"), .int i]
  | .nam s => .tup [.str (Str.ofString "name"), .str s]
  | .op w a b => .tup [.str w.s, a.v, b.v]
def Ex.deep : Ex → Nat
  | .num _ => 1
  | .nam _ => 1
  | .op _ a b => max a.deep b.deep + 1
theorem Ex.nr : ∀ e : Ex, Mi.nr e.v = true
  | .num i => rfl
  | .nam s => rfl
  | .op w a b => by simp [Ex.v, Mi.nr, Mi.nrL, Ex.nr a, Ex.nr b]
/-- not great -/
def bd (i : Int) : Prop := i.natAbs < 1073741824
def jn : Wd → Int → Int → Option Int
  | .plus, a, b => some ((a + b).fmod 1000000)
  | .less, a, b => some ((a - b).fmod 1000000)
  | .times, a, b => some ((a * b).fmod 1000000)
  | .under, a, b => some (if a < b then 1 else 0)
  | .same, a, b => some (if a = b then 1 else 0)
  | .over, a, b => if b = 0 then none else some (a.fdiv b)
  | .rest, a, b => if b = 0 then none else some (a.fmod b)
theorem fmod_lt {a m : Int} (h : 0 < m) : 0 ≤ a.fmod m ∧ a.fmod m < m := by
  rw [Int.fmod_eq_emod_of_nonneg a (Int.le_of_lt h)]
  exact ⟨Int.emod_nonneg _ (by omega), Int.emod_lt_of_pos _ h⟩
theorem fmod_bd {a m : Int} (hm : bd m) (h0 : m ≠ 0) : bd (a.fmod m) := by
  unfold bd at *
  rcases Int.lt_or_gt_of_ne h0 with h | h
  · have h1 : a.fmod m = _ := Int.fmod_eq_emod
    have h2 := Int.emod_nonneg a h0
    have h3 := Int.emod_lt a h0
    rw [h1]
    split <;> omega
  · have := fmod_lt (a := a) h
    omega
theorem fdiv_bd {a m : Int} (ha : bd a) : bd (a.fdiv m) := by
  unfold bd at *
  have h1 := Int.natAbs_fdiv_le_natAbs a m
  omega
theorem jn_bd {w : Wd} {a b v : Int} (ha : bd a) (hb : bd b) (h : jn w a b = some v) : bd v := by
  have m6 : ∀ x : Int, bd (x.fmod 1000000) := fun x => fmod_bd (by unfold bd; decide) (by decide)
  cases w <;> simp only [jn] at h
  · cases h; exact m6 _
  · cases h; exact m6 _
  · cases h; exact m6 _
  · split at h
    · cases h
    · cases h; exact fdiv_bd ha
  · split at h
    · cases h
    · cases h; exact fmod_bd hb ‹_›
  · cases h; split <;> (unfold bd; decide)
  · cases h; split <;> (unfold bd; decide)
abbrev Hd := List (Str × Int)
def hdV (l : Hd) : List Val := l.map fun p => .tup [.str p.1, .int p.2]
def worth : Ex → Hd → Option Int
  | .num i, _ => some i
  | .nam s, l => some ((l.lookup s).getD 0)
  | .op w a b, l => (worth a l).bind fun x => (worth b l).bind fun y => jn w x y
def Ex.ok : Ex → Prop
  | .num i => bd i
  | .nam _ => True
  | .op _ a b => a.ok ∧ b.ok
def okH (l : Hd) : Prop := ∀ p ∈ l, bd p.2
theorem lookup_bd {l : Hd} (h : okH l) {s : Str} {v : Int} (e : l.lookup s = some v) : bd v := by
  induction l with
  | nil => cases e
  | cons p r ih =>
    obtain ⟨k, w⟩ := p
    rw [List.lookup_cons] at e
    split at e
    · cases e; exact h _ List.mem_cons_self
    · exact ih (fun p hp => h p (List.mem_cons_of_mem _ hp)) e
theorem worth_bd {l : Hd} (hl : okH l) : ∀ {e : Ex}, e.ok → ∀ {v : Int}, worth e l = some v → bd v
  | .num i, h, v, e => by cases e; exact h
  | .nam s, h, v, e => by
    cases e
    cases q : l.lookup s with
    | none => exact (by unfold bd; decide : bd 0)
    | some w => exact lookup_bd hl q
  | .op w a b, h, v, e => by
    unfold worth at e
    cases qa : worth a l with
    | none => rw [qa] at e; cases e
    | some x =>
      cases qb : worth b l with
      | none => rw [qa, qb] at e; cases e
      | some y =>
        rw [qa, qb] at e
        exact jn_bd (worth_bd hl h.1 qa) (worth_bd hl h.2 qb) e
theorem dLook_hd (l : Hd) (s : Str) : dLook (.str s) (hdV l) = (l.lookup s).map Val.int := by
  induction l with
  | nil => rfl
  | cons p r ih =>
    obtain ⟨k, w⟩ := p
    show (if keyEq (.str s) (.str k) = true then some (.int w) else dLook (.str s) (hdV r)) = _
    rw [List.lookup_cons]
    show (if (s == k) = true then some (.int w) else dLook (.str s) (hdV r)) = _
    rw [ih]
    cases s == k <;> rfl
@[simp] theorem w_num (w : Wd) : (w.s = Str.ofString "number") = False := by cases w <;> simp [Wd.s]
@[simp] theorem w_nam (w : Wd) : (w.s = Str.ofString "name") = False := by cases w <;> simp [Wd.s]
section
variable {P : Prog} {n : Nat} {μ : Mu} {Q : Val → Mu → Prop} {X : XQ}
theorem joined_worth_ok (h : P "joined_worth" = some D.joined_worth) {w : Wd} {a b : Int} (ha : bd a) (hb : bd b) (hq : ∀ v, jn w a b = some v → Q (.int v) μ) (hx : jn w a b = none → X (.exn "Broken" []) μ) : phi P (n + 1) "joined_worth" .val [.str w.s, .int a, .int b] μ Q X := by
  refine call_ok h rfl ?_
  unfold bd at ha hb
  cases w <;> simp [D.joined_worth, e_v, e_c, e_tup, e_lst, e_dct, s_nil, s_cons, e_ix, e_sl, e_bin, e_cmp, e_eq, e_ne, e_in, e_nin, e_isN, e_notN, e_chain, e_neg, e_not, e_and, e_or, e_ite, e_call, e_bi, e_me, e_isT, e_new, e_attr, e_mth, e_mk, w_setattr, w_skip, w_ex, w_asg, w_asgT, w_setix, w_ite, w_ret, w_raise, w_seq, Wd.s, nr]
  · exact hq _ rfl
  · exact hq _ rfl
  · exact ⟨cmul_l (by omega) (by omega), hq _ rfl⟩
  · exact ⟨fun z => hx (if_pos z), fun z => ⟨⟨z, hb⟩, hq _ (if_neg z)⟩⟩
  · exact ⟨fun z => hx (if_pos z), fun z => ⟨z, hq _ (if_neg z)⟩⟩
  · exact hq _ rfl
  · exact hq _ rfl
structure WorthP (P : Prog) : Prop where
  j : P "joined_worth" = some D.joined_worth
  w : P "worth_of" = some D.worth_of
theorem worth_of_ok (h : WorthP P) {hv : Val} {l : Hd} (hh : content μ hv = some (.dct (hdV l))) (hl : okH l) : ∀ (e : Ex) (n : Nat) (Q : Val → Mu → Prop) (X : XQ), e.ok → e.deep + 1 ≤ n → (∀ v, worth e l = some v → Q (.int v) μ) → (worth e l = none → X (.exn "Broken" []) μ) → phi P n "worth_of" .val [e.v, hv] μ Q X
  | .num i, n + 1, Q, X, ok, hn, hq, hx => by
    refine call_ok h.w rfl ?_
    simp [D.worth_of, e_v, e_c, e_tup, e_lst, e_dct, s_nil, s_cons, e_ix, e_sl, e_bin, e_cmp, e_eq, e_ne, e_in, e_nin, e_isN, e_notN, e_chain, e_neg, e_not, e_and, e_or, e_ite, e_call, e_bi, e_me, e_isT, e_new, e_attr, e_mth, e_mk, w_setattr, w_skip, w_ex, w_asg, w_asgT, w_setix, w_ite, w_ret, w_raise, w_seq, Ex.v]
    exact hq _ rfl
  | .nam s, n + 1, Q, X, ok, hn, hq, hx => by
    refine call_ok h.w rfl ?_
    simp [D.worth_of, e_v, e_c, e_tup, e_lst, e_dct, s_nil, s_cons, e_ix, e_sl, e_bin, e_cmp, e_eq, e_ne, e_in, e_nin, e_isN, e_notN, e_chain, e_neg, e_not, e_and, e_or, e_ite, e_call, e_bi, e_me, e_isT, e_new, e_attr, e_mth, e_mk, w_setattr, w_skip, w_ex, w_asg, w_asgT, w_setix, w_ite, w_ret, w_raise, w_seq, Ex.v, ok_get hh]
    rw [me_get hh rfl, dLook_hd]
    simp
    have := hq _ rfl
    cases q : l.lookup s <;> simp [q] at this ⊢ <;> exact this
  | .op w a b, n + 1, Q, X, ok, hn, hq, hx => by
    simp only [Ex.deep] at hn
    refine call_ok h.w rfl ?_
    simp [D.worth_of, e_v, e_c, e_tup, e_lst, e_dct, s_nil, s_cons, e_ix, e_sl, e_bin, e_cmp, e_eq, e_ne, e_in, e_nin, e_isN, e_notN, e_chain, e_neg, e_not, e_and, e_or, e_ite, e_call, e_bi, e_me, e_isT, e_new, e_attr, e_mth, e_mk, w_setattr, w_skip, w_ex, w_asg, w_asgT, w_setix, w_ite, w_ret, w_raise, w_seq, Ex.v]
    have e0 : worth (.op w a b) l = (worth a l).bind fun x => (worth b l).bind fun y => jn w x y := rfl
    refine worth_of_ok h hh hl a n _ _ ok.1 (by omega) (fun x ex => ?_) (fun ex => ?_)
    · refine worth_of_ok h hh hl b n _ _ ok.2 (by omega) (fun y ey => ?_) (fun ey => ?_)
      · obtain ⟨m, rfl⟩ : ∃ m, n = m + 1 := ⟨n - 1, by omega⟩
        refine joined_worth_ok h.j (worth_bd hl ok.1 ex) (worth_bd hl ok.2 ey) (fun v ev => ?_) (fun ev => ?_)
        · simp
          exact hq v (by rw [e0, ex, ey]; exact ev)
        · simp [reso_nr, nr, nrL]
          exact hx (by rw [e0, ex, ey]; exact ev)
      · simp
        exact hx (by rw [e0, ex, ey]; rfl)
    · simp
      exact hx (by rw [e0, ex]; rfl)
/-! the judge's own reckoning -/
def oV : Option Int → Val
  | none => .non
  | some i => .int i
@[simp] theorem oV_some (i : Int) : oV (some i) = .int i := rfl
@[simp] theorem oV_none : oV none = .non := rfl
theorem l_joined_ok (h : P "_law_joined" = some D._law_joined) {w : Wd} {a b : Int} (ha : bd a) (hb : bd b) (hq : Q (oV (jn w a b)) μ) : phi P (n + 1) "_law_joined" .val [.str w.s, .int a, .int b] μ Q X := by
  refine call_ok h rfl ?_
  unfold bd at ha hb
  cases w <;> simp [D._law_joined, e_v, e_c, e_tup, e_lst, e_dct, s_nil, s_cons, e_ix, e_sl, e_bin, e_cmp, e_eq, e_ne, e_in, e_nin, e_isN, e_notN, e_chain, e_neg, e_not, e_and, e_or, e_ite, e_call, e_bi, e_me, e_isT, e_new, e_attr, e_mth, e_mk, w_setattr, w_skip, w_ex, w_asg, w_asgT, w_setix, w_ite, w_ret, w_raise, w_seq, Wd.s, nr]
  · exact hq
  · exact hq
  · exact ⟨cmul_l (by omega) (by omega), hq⟩
  · refine ⟨fun z => ?_, fun z => ⟨⟨z, hb⟩, z, ?_⟩⟩
    · simpa [jn, z] using hq
    · simpa [jn, z] using hq
  · refine ⟨fun z => ?_, fun z => ⟨⟨z, hb⟩, z, ?_⟩⟩
    · simpa [jn, z] using hq
    · simpa [jn, z] using hq
  · exact hq
  · exact hq
structure LWorthP (P : Prog) : Prop where
  j : P "_law_joined" = some D._law_joined
  w : P "_law_worth" = some D._law_worth
theorem l_worth_ok (h : LWorthP P) {hv : Val} {l : Hd} (hh : content μ hv = some (.dct (hdV l))) (hl : okH l) : ∀ (e : Ex) (n : Nat) (Q : Val → Mu → Prop) (X : XQ), e.ok → e.deep + 1 ≤ n → Q (oV (worth e l)) μ → phi P n "_law_worth" .val [e.v, hv] μ Q X
  | .num i, n + 1, Q, X, ok, hn, hq => by
    refine call_ok h.w rfl ?_
    simp [D._law_worth, e_v, e_c, e_tup, e_lst, e_dct, s_nil, s_cons, e_ix, e_sl, e_bin, e_cmp, e_eq, e_ne, e_in, e_nin, e_isN, e_notN, e_chain, e_neg, e_not, e_and, e_or, e_ite, e_call, e_bi, e_me, e_isT, e_new, e_attr, e_mth, e_mk, w_setattr, w_skip, w_ex, w_asg, w_asgT, w_setix, w_ite, w_ret, w_raise, w_seq, Ex.v]
    exact hq
  | .nam s, n + 1, Q, X, ok, hn, hq => by
    refine call_ok h.w rfl ?_
    simp [D._law_worth, e_v, e_c, e_tup, e_lst, e_dct, s_nil, s_cons, e_ix, e_sl, e_bin, e_cmp, e_eq, e_ne, e_in, e_nin, e_isN, e_notN, e_chain, e_neg, e_not, e_and, e_or, e_ite, e_call, e_bi, e_me, e_isT, e_new, e_attr, e_mth, e_mk, w_setattr, w_skip, w_ex, w_asg, w_asgT, w_setix, w_ite, w_ret, w_raise, w_seq, Ex.v, ok_get hh]
    rw [me_get hh rfl, dLook_hd]
    simp
    unfold worth at hq
    cases q : l.lookup s <;> simp [q] at hq ⊢ <;> exact hq
  | .op w a b, n + 1, Q, X, ok, hn, hq => by
    simp only [Ex.deep] at hn
    refine call_ok h.w rfl ?_
    simp [D._law_worth, e_v, e_c, e_tup, e_lst, e_dct, s_nil, s_cons, e_ix, e_sl, e_bin, e_cmp, e_eq, e_ne, e_in, e_nin, e_isN, e_notN, e_chain, e_neg, e_not, e_and, e_or, e_ite, e_call, e_bi, e_me, e_isT, e_new, e_attr, e_mth, e_mk, w_setattr, w_skip, w_ex, w_asg, w_asgT, w_setix, w_ite, w_ret, w_raise, w_seq, Ex.v]
    have e0 : worth (.op w a b) l = (worth a l).bind fun x => (worth b l).bind fun y => jn w x y := rfl
    refine l_worth_ok h hh hl a n _ _ ok.1 (by omega) ?_
    cases ex : worth a l with
    | none => simp; rw [e0, ex] at hq; exact hq
    | some x =>
      simp
      refine l_worth_ok h hh hl b n _ _ ok.2 (by omega) ?_
      cases ey : worth b l with
      | none => simp; rw [e0, ex, ey] at hq; exact hq
      | some y =>
        simp
        obtain ⟨m, rfl⟩ : ∃ m, n = m + 1 := ⟨n - 1, by omega⟩
        refine l_joined_ok h.j (worth_bd hl ok.1 ex) (worth_bd hl ok.2 ey) ?_
        simp
        rw [e0, ex, ey] at hq
        exact hq
theorem l_same_ok (h : P "_law_same" = some D._law_same) {o : Option Int} (hq : Q (.bl true) μ) : phi P (n + 1) "_law_same" .val [oV o, oV o] μ Q X := by
  refine call_ok h rfl ?_
  cases o <;> simp [D._law_same, e_v, e_c, e_tup, e_lst, e_dct, s_nil, s_cons, e_ix, e_sl, e_bin, e_cmp, e_eq, e_ne, e_in, e_nin, e_isN, e_notN, e_chain, e_neg, e_not, e_and, e_or, e_ite, e_call, e_bi, e_me, e_isT, e_new, e_attr, e_mth, e_mk, w_setattr, w_skip, w_ex, w_asg, w_asgT, w_setix, w_ite, w_ret, w_raise, w_seq] <;> exact hq
theorem l_told_ok (h : P "_law_told" = some D._law_told) (hw : WorthP P) {hv : Val} {l : Hd} (hh : content μ hv = some (.dct (hdV l))) (hl : okH l) {e : Ex} (ok : e.ok) (hn : e.deep + 2 ≤ n) (hq : Q (oV (worth e l)) μ) : phi P n "_law_told" .val [e.v, hv] μ Q X := by
  obtain ⟨m, rfl⟩ : ∃ m, n = m + 1 := ⟨n - 1, by omega⟩
  refine call_ok h rfl ?_
  simp [D._law_told, e_v, e_c, e_tup, e_lst, e_dct, s_nil, s_cons, e_ix, e_sl, e_bin, e_cmp, e_eq, e_ne, e_in, e_nin, e_isN, e_notN, e_chain, e_neg, e_not, e_and, e_or, e_ite, e_call, e_bi, e_me, e_isT, e_new, e_attr, e_mth, e_mk, w_setattr, w_skip, w_ex, w_asg, w_asgT, w_setix, w_ite, w_ret, w_raise, w_seq, w_try]
  refine worth_of_ok hw hh hl e m _ _ ok (by omega) (fun x ex => ?_) (fun ex => ?_)
  · rw [ex] at hq
    simp
    exact hq
  · rw [ex] at hq
    simp [isSub]
    exact hq
end
end Mi
/-! Lb: pots, what is drawn out of them. -/
namespace Mi
open PySem (Str)
/-- a pot stands at p -/
def Pot (μ : Mu) (p : Ad) : Prop := ∃ l : List Int, μ p = some (.lst (l.map Val.int)) ∧ l ≠ [] ∧ l.length ≤ 100 ∧ ∀ x ∈ l, 0 ≤ x
/-- nothing but p is another -/
structure Pw (p : Ad) (μ μ' : Mu) : Prop where
  pot : Pot μ' p
  eq : ∀ a, a ≠ p → μ' a = μ a
theorem Pw.refl {p : Ad} {μ : Mu} (h : Pot μ p) : Pw p μ μ := ⟨h, fun _ _ => rfl⟩
theorem Pw.trans {p : Ad} {μ μ1 μ2 : Mu} (a : Pw p μ μ1) (b : Pw p μ1 μ2) : Pw p μ μ2 := ⟨b.pot, fun c h => (b.eq c h).trans (a.eq c h)⟩
theorem Pot.some {p : Ad} {μ : Mu} (h : Pot μ p) : (μ p).isSome = true := by obtain ⟨l, e, _⟩ := h; rw [e]; rfl
theorem Pot.ne {p q : Ad} {μ : Mu} (h : Pot μ p) (hq : μ q = none) : q ≠ p := fun e => by have := h.some; rw [← e, hq] at this; cases this
theorem Pot.set {p q : Ad} {μ : Mu} {v : Val} (h : Pot μ p) (hq : q ≠ p) : Pot (μ.set q v) p := by
  obtain ⟨l, e, r⟩ := h
  exact ⟨l, by rw [mset_ne (Ne.symm hq)]; exact e, r⟩
theorem Pw.cut {p : Ad} {μ μ' : Mu} (h0 : Pot μ p) (h : Pot μ' p) (he : ∀ a, (μ a).isSome = true → a ≠ p → μ' a = μ a) : Pw p μ (μ'.cut μ) := by
  have hp := h0.some
  refine ⟨?_, fun a ha => ?_⟩
  · obtain ⟨l, e, r⟩ := h
    exact ⟨l, by unfold Mu.cut; rw [if_pos hp]; exact e, r⟩
  · unfold Mu.cut
    split
    · exact he a ‹_› ha
    · cases q : μ a with
      | none => rfl
      | some v => rename_i z; rw [q] at z; exact (z rfl).elim
theorem Pw.cut' {p : Ad} {μ μ' : Mu} (h0 : Pot μ p) (h : Pw p μ μ') : Pw p μ (μ'.cut μ) := Pw.cut h0 h.pot fun a _ ha => h.eq a ha
theorem mem_init {l : List Int} {x : Int} {P : Int → Prop} (h : ∀ y ∈ l ++ [x], P y) : (∀ y ∈ l, P y) ∧ P x := ⟨fun y hy => h y (List.mem_append_left _ hy), h x (by simp)⟩
section
variable {P : Prog} {n : Nat} {μ : Mu} {Q : Val → Mu → Prop} {X : XQ} {p : Ad}
theorem take_ok (h : P "_law_take" = some D._law_take) {m : Int} (hp : Pot μ p) (h0 : 0 < m) (h1 : m < 1073741824) (hn : 1 ≤ n) (q : ∀ v μ', 0 ≤ v → v < m → Pw p μ μ' → Q (.int v) μ') : phi P n "_law_take" .val [.ref p, .int m] μ Q X := by
  obtain ⟨n, rfl⟩ : ∃ k, n = k + 1 := ⟨n - 1, by omega⟩
  have hp0 := hp
  obtain ⟨l, e, hne, hlen, hpos⟩ := hp
  obtain ⟨r, x, rfl⟩ : ∃ r x, l = r ++ [x] := ⟨l.dropLast, l.getLast hne, (List.dropLast_concat_getLast hne).symm⟩
  obtain ⟨hr, hx⟩ := mem_init hpos
  rw [List.map_append] at e
  have ex : ([x] : List Int).map Val.int = [.int x] := rfl
  rw [ex] at e
  refine call_ok h rfl ?_
  simp [D._law_take, e_v, e_c, e_tup, e_lst, e_dct, s_nil, s_cons, e_ix, e_sl, e_bin, e_cmp, e_eq, e_ne, e_in, e_nin, e_isN, e_notN, e_chain, e_neg, e_not, e_and, e_or, e_ite, e_call, e_bi, e_me, e_isT, e_new, e_attr, e_mth, e_mk, w_setattr, w_skip, w_ex, w_asg, w_asgT, w_setix, w_ite, w_ret, w_raise, w_seq, ix_ref e, at_last]
  have hm0 : m ≠ 0 := by omega
  have hmb : m.natAbs < 1073741824 := by omega
  refine ⟨hm0, ⟨hm0, hmb⟩, ?_⟩
  have hlen : (r.map Val.int ++ [Val.int x]).length = r.length + 1 := by simp
  rw [set_lst e (by rw [hlen]; exact ixN_last _)]
  simp only [brV_some]
  have hs : (r.map Val.int ++ [Val.int x]).set r.length (.int (x.fdiv m)) = r.map Val.int ++ [.int (x.fdiv m)] := by
    rw [List.set_append_right _ _ (by simp)]
    simp
  rw [hs]
  have e2 : (μ.set p (.lst (r.map Val.int ++ [.int (x.fdiv m)]))) p = some (.lst (r.map Val.int ++ [.int (x.fdiv m)])) := mset_same
  have hf := fmod_lt (a := x) h0
  have hd : 0 ≤ x.fdiv m := Int.fdiv_nonneg hx (by omega)
  simp [ix_ref e2, at_last, bi_lenR e2]
  have fin : ∀ l' : List Int, l' ≠ [] → l'.length ≤ 100 → (∀ y ∈ l', 0 ≤ y) → finM .val μ Q (.int (x.fmod m)) (μ.set p (.lst (l'.map Val.int))) := fun l' a b c => by
    show Q (reso _ _ _ _) _
    rw [reso_nr rfl]
    have hpw : Pot (μ.set p (.lst (l'.map Val.int))) p := ⟨l', mset_same, a, b, c⟩
    exact q _ _ hf.1 hf.2 (Pw.cut hp0 hpw fun a _ ha => mset_ne ha)
  have fin1 : finM .val μ Q (.int (x.fmod m)) (μ.set p (.lst (r.map Val.int ++ [.int (x.fdiv m)]))) := by
    have := fin (r ++ [x.fdiv m]) (by simp) (by simp at *; omega) (fun y hy => by
      rcases List.mem_append.mp hy with z | z
      · exact hr y z
      · rw [List.mem_singleton.mp z]; exact hd)
    simpa using this
  have pop : r ≠ [] → meOk (μ.set p (.lst (r.map Val.int ++ [.int (x.fdiv m)]))) .pop (.ref p) = true ∧ brV (meV (μ.set p (.lst (r.map Val.int ++ [.int (x.fdiv m)]))) .pop (.ref p) []) fun z => finM .val μ Q (.int (x.fmod m)) z.2 := fun hl => by
    rw [ok_pop e2, me_pop e2]
    simp
    exact fin r hl (by simp at *; omega) hr
  exact ⟨fun z => ⟨fun hl => pop fun z => by rw [z] at hl; simp at hl, fun hl => fin1⟩, fun z => fin1⟩
theorem value_ok (h : P "_law_value" = some D._law_value) (ht : P "_law_take" = some D._law_take) (hp : Pot μ p) (hn : 2 ≤ n) (q : ∀ v μ', 0 ≤ v → v < 1000000 → Pw p μ μ' → Q (.int v) μ') : phi P n "_law_value" .val [.ref p] μ Q X := by
  obtain ⟨n, rfl⟩ : ∃ k, n = k + 1 := ⟨n - 1, by omega⟩
  refine call_ok h rfl ?_
  simp [D._law_value, e_v, e_c, e_tup, e_lst, e_dct, s_nil, s_cons, e_ix, e_sl, e_bin, e_cmp, e_eq, e_ne, e_in, e_nin, e_isN, e_notN, e_chain, e_neg, e_not, e_and, e_or, e_ite, e_call, e_bi, e_me, e_isT, e_new, e_attr, e_mth, e_mk, w_setattr, w_skip, w_ex, w_asg, w_asgT, w_setix, w_ite, w_ret, w_raise, w_seq]
  refine take_ok ht hp (by decide) (by decide) (by omega) fun v μ1 h0 h1 k1 => ?_
  have fin : ∀ (w : Int) (μ2 : Mu), 0 ≤ w → w < 1000000 → Pw p μ1 μ2 → finM .val μ Q (.int w) μ2 := fun w μ2 a b c => by
    show Q (reso _ _ _ _) _
    rw [reso_nr rfl]
    exact q _ _ a b (Pw.cut' hp (k1.trans c))
  simp
  refine ⟨fun _ => ?_, fun _ => ?_⟩
  · exact take_ok ht k1.pot (by decide) (by decide) (by omega) fun v μ2 a b c => fin _ _ a (by omega) c
  · exact take_ok ht k1.pot (by decide) (by decide) (by omega) fun v μ2 a b c => fin _ _ a b c
def strsV (l : List Str) : Val := .lst (l.map Val.str)
structure DrawP (P : Prog) : Prop where
  t : P "_law_take" = some D._law_take
  v : P "_law_value" = some D._law_value
  d : P "_law_drawn" = some D._law_drawn
theorem plainL_strs (l : List Str) : plainL (l.map Val.str) = true ∧ depL (l.map Val.str) = 0 := by
  induction l with
  | nil => exact ⟨rfl, rfl⟩
  | cons a r ih => simp [plainL, plain, depL, dep, ih]
theorem eq_strs (l r : List Str) : eqV μ (.lst (l.map Val.str)) (.lst (r.map Val.str)) = some (eqbL (l.map Val.str) (r.map Val.str)) := by
  have h1 := plainL_strs l
  have h2 := plainL_strs r
  refine eqV_of rfl rfl ?_
  rw [eq_plain (by exact h1.1) (by exact h2.1) (by simp [dep, h1.2, h2.2]) (fun _ h => by cases h)]
  rfl
theorem at_strs {l : List Str} {v : Int} (h0 : 0 ≤ v) (h1 : v < l.length) : ∃ s ∈ l, atI (l.map Val.str) v = some (.str s) := by
  have hl : v.toNat < l.length := by omega
  refine ⟨l[v.toNat], List.getElem_mem hl, at_nat h0 ?_⟩
  rw [List.getElem?_map, List.getElem?_eq_getElem hl]
  rfl
def Ex.names : Ex → List Str
  | .num _ => []
  | .nam s => [s]
  | .op _ a b => a.names ++ b.names
/-- the numbers of an expression are values -/
def Ex.small : Ex → Prop
  | .num i => 0 ≤ i ∧ i < 1000000
  | .nam _ => True
  | .op _ a b => a.small ∧ b.small
theorem Ex.small.ok : ∀ {e : Ex}, e.small → e.ok
  | .num i, h => by unfold Ex.small at h; show bd i; unfold bd; omega
  | .nam _, _ => trivial
  | .op _ a b, h => ⟨Ex.small.ok h.1, Ex.small.ok h.2⟩
theorem wd_at {v : Int} (h0 : 0 ≤ v) (h1 : v < 7) : ∃ w : Wd, atI [Val.str (Str.ofString "plus"), Val.str (Str.ofString "less"), Val.str (Str.ofString "times"), Val.str (Str.ofString "over"), Val.str (Str.ofString "rest"), Val.str (Str.ofString "under"), Val.str (Str.ofString "same")] v = some (.str w.s) := by
  have : v = 0 ∨ v = 1 ∨ v = 2 ∨ v = 3 ∨ v = 4 ∨ v = 5 ∨ v = 6 := by omega
  rcases this with rfl | rfl | rfl | rfl | rfl | rfl | rfl
  · exact ⟨.plus, rfl⟩
  · exact ⟨.less, rfl⟩
  · exact ⟨.times, rfl⟩
  · exact ⟨.over, rfl⟩
  · exact ⟨.rest, rfl⟩
  · exact ⟨.under, rfl⟩
  · exact ⟨.same, rfl⟩
theorem drawn_ok (h : DrawP P) {names : List Str} (hN : names.length < 1000000) : ∀ (d : Nat) (n : Nat) (μ : Mu) (Q : Val → Mu → Prop) (X : XQ), Pot μ p → d + 3 ≤ n → (∀ (e : Ex) (μ' : Mu), e.small → e.deep ≤ d + 1 → (∀ s ∈ e.names, s ∈ names) → Pw p μ μ' → Q e.v μ') → phi P n "_law_drawn" .val [.ref p, strsV names, .int (d + 1)] μ Q X := by
  intro d
  induction d with
  | zero => ?_
  | succ d ih => ?_
  all_goals
    intro n μ Q X hp hn q
    obtain ⟨n, rfl⟩ : ∃ k, n = k + 1 := ⟨n - 1, by omega⟩
    refine call_ok h.d rfl ?_
    have fin : ∀ (e : Ex) (μ1 : Mu), e.small → e.deep ≤ _ → (∀ s ∈ e.names, s ∈ names) → Pw p μ μ1 → finM .val μ Q e.v μ1 := fun e μ1 a b c k => by
      show Q (reso _ _ _ _) _
      rw [reso_nr e.nr]
      exact q _ _ a b c (Pw.cut' hp k)
    simp [D._law_drawn, e_v, e_c, e_tup, e_lst, e_dct, s_nil, s_cons, e_ix, e_sl, e_bin, e_cmp, e_eq, e_ne, e_in, e_nin, e_isN, e_notN, e_chain, e_neg, e_not, e_and, e_or, e_ite, e_call, e_bi, e_me, e_isT, e_new, e_attr, e_mth, e_mk, w_setattr, w_skip, w_ex, w_asg, w_asgT, w_setix, w_ite, w_ret, w_raise, w_seq, strsV]
    refine take_ok h.t hp (by decide) (by decide) (by omega) fun way μ1 _ _ k1 => ?_
    have hE := fun μ' => eq_strs (μ := μ') names []
    simp at hE
    simp [hE]
  all_goals
    have hnum : ∀ {X : XQ}, phi P n "_law_value" .val [.ref p] μ1 (fun v μ1 => finM .val μ Q (.tup [.str (Str.ofString "number"), v]) μ1) X := fun {X} =>
      value_ok h.v h.t k1.pot (by omega) fun v μ2 a b c => fin (.num v) μ2 ⟨a, b⟩ (by simp [Ex.deep]) (by simp [Ex.names]) (k1.trans c)
    have hnam : ∀ {X : XQ}, eqbL (names.map Val.str) [] = false → phi P n "_law_take" .val [.ref p, .int names.length] μ1 (fun w μ2 => brV (ixV μ2 (.lst (names.map Val.str)) w) fun r => finM .val μ Q (.tup [.str (Str.ofString "name"), r]) μ2) X := fun {X} hz => by
      have hl : 0 < names.length := by cases names <;> simp [eqbL] at *
      refine take_ok h.t k1.pot (by omega) (by omega) (by omega) fun v μ2 a b c => ?_
      obtain ⟨s, hs, e⟩ := at_strs a b
      simp [e]
      exact fin (.nam s) μ2 trivial (by simp [Ex.deep]) (by simp [Ex.names]; exact hs) (k1.trans c)
  · exact ⟨fun _ => ⟨fun z => hnam z, fun _ => hnum⟩, fun _ => hnum⟩
  · refine ⟨fun z => by omega, fun _ => ⟨fun _ => ⟨fun _ => ⟨fun z => hnam z, fun _ => hnum⟩, fun _ => hnum⟩, fun _ => ?_⟩⟩
    refine take_ok h.t k1.pot (by decide) (by decide) (by omega) fun v μ2 a b c => ?_
    obtain ⟨w, ew⟩ := wd_at a b
    simp [ew]
    refine ih n μ2 _ _ c.pot (by omega) fun e1 μ3 s1 d1 n1 k3 => ?_
    refine ih n μ3 _ _ k3.pot (by omega) fun e2 μ4 s2 d2 n2 k4 => ?_
    refine fin (.op w e1 e2) μ4 ⟨s1, s2⟩ (by simp only [Ex.deep]; omega) (fun s hs => ?_) (((k1.trans c).trans k3).trans k4)
    rcases List.mem_append.mp hs with z | z
    · exact n1 s z
    · exact n2 s z
/-- a new pot -/
theorem pot_ok (h : P "_law_pot" = some D._law_pot) {cell k : Int} (hk : 0 ≤ k) (hk1 : k < 1000) (hn : 1 ≤ n) (q : ∀ p μ', μ p = none → Pw p μ μ' → Q (.ref p) μ') : phi P n "_law_pot" .obj [.int cell, .int k] μ Q X := by
  obtain ⟨n, rfl⟩ : ∃ k, n = k + 1 := ⟨n - 1, by omega⟩
  refine call_ok h rfl ?_
  have hΦ := phi_mono P n
  simp [D._law_pot, e_v, e_c, e_tup, e_lst, e_dct, s_nil, s_cons, e_ix, e_sl, e_bin, e_cmp, e_eq, e_ne, e_in, e_nin, e_isN, e_notN, e_chain, e_neg, e_not, e_and, e_or, e_ite, e_call, e_bi, e_me, e_isT, e_new, e_attr, e_mth, e_mk, w_setattr, w_skip, w_ex, w_asg, w_asgT, w_setix, w_ite, w_ret, w_raise, w_seq]
  intro p hp
  refine for_rule hΦ ?_
  simp [i_range, e_v, e_c, e_tup, e_lst, e_dct, s_nil, s_cons, e_ix, e_sl, e_bin, e_cmp, e_eq, e_ne, e_in, e_nin, e_isN, e_notN, e_chain, e_neg, e_not, e_and, e_or, e_ite, e_call, e_bi, e_me, e_isT, e_new, e_attr, e_mth, e_mk, w_setattr, w_skip, w_ex, w_asg, w_asgT, w_setix, w_ite, w_ret, w_raise]
  have m0 := fmod_lt (a := cell + 7919 * (k + 1)) (m := 2147483647) (by decide)
  refine ⟨fun _ env' μ' => ∃ (m x : Int) (o : Option Val), env' = [some (.int cell), some (.int k), some (.int m), some (.ref p), o] ∧ 0 ≤ m ∧ m < 2147483647 ∧ 0 ≤ x ∧ μ' = μ.set p (.lst [.int x]), ⟨_, _, none, rfl, m0.1, m0.2, Int.le_refl 0, rfl⟩, ?_, ?_⟩
  · rintro done v rest env' μ' e ⟨m, x, o, rfl, h0, h1, h2, rfl⟩
    have hv : ∃ t : Int, v = .int t ∧ 0 ≤ t := by
      have : v ∈ intsFrom 0 24 := by rw [e]; simp
      unfold intsFrom at this
      obtain ⟨t, _, rfl⟩ := List.mem_map.mp this
      exact ⟨0 + (t : Int), rfl, by omega⟩
    obtain ⟨t, rfl, ht⟩ := hv
    refine ⟨trivial, ?_⟩
    simp [w_seq, e_v, e_c, e_tup, e_lst, e_dct, s_nil, s_cons, e_ix, e_sl, e_bin, e_cmp, e_eq, e_ne, e_in, e_nin, e_isN, e_notN, e_chain, e_neg, e_not, e_and, e_or, e_ite, e_call, e_bi, e_me, e_isT, e_new, e_attr, e_mth, e_mk, w_setattr, w_skip, w_ex, w_asg, w_asgT, w_setix, w_ite, w_ret, w_raise]
    have m1 := fmod_lt (a := m * m + 48271 * m + 3 * t + k) (m := 2147483629) (by decide)
    rw [ix_ref mset_same]
    simp
    refine ⟨cmul_l (by omega) (by omega), cmul_r (by decide) (by decide), ?_⟩
    rw [set_lst (n := 0) mset_same rfl]
    simp
    exact ⟨m1.1, by omega, _, by omega, rfl⟩
  · rintro env' μ' ⟨m, x, o, rfl, h0, h1, h2, rfl⟩
    refine ⟨trivial, ?_⟩
    simp [w_seq, e_v, e_c, e_tup, e_lst, e_dct, s_nil, s_cons, e_ix, e_sl, e_bin, e_cmp, e_eq, e_ne, e_in, e_nin, e_isN, e_notN, e_chain, e_neg, e_not, e_and, e_or, e_ite, e_call, e_bi, e_me, e_isT, e_new, e_attr, e_mth, e_mk, w_setattr, w_skip, w_ex, w_asg, w_asgT, w_setix, w_ite, w_ret, w_raise]
    have fin : ∀ l : List Int, l ≠ [] → l.length ≤ 100 → (∀ y ∈ l, 0 ≤ y) → finM .obj μ Q (.ref p) (μ.set p (.lst (l.map Val.int))) := fun l a b c => by
      refine ⟨hp, ?_⟩
      rw [mset_same]
      dsimp only
      have hr : reso (μ.set p (.lst (l.map Val.int))) (μ.set p (.lst (l.map Val.int))) 4 (.lst (l.map Val.int)) = .lst (l.map Val.int) := reso_self
      rw [hr, cut_new hp, cut_self]
      exact q _ _ hp ⟨⟨l, mset_same, a, b, c⟩, fun a ha => mset_ne ha⟩
    refine ⟨fun hc => ?_, fun _ => ?_⟩
    · rw [ok_append mset_same, me_append mset_same]
      simp [big_eq]
      exact fin [x, cell] (by simp) (by simp) (by
        intro y hy
        simp at hy
        rcases hy with rfl | rfl <;> omega)
    · exact fin [x] (by simp) (by simp) (by simpa using h2)
/-! names -/
theorem strI_len {i : Int} (h0 : 0 ≤ i) (h1 : i < 1000000000000) : (strI i).length ≤ 12 := by
  unfold strI
  rw [os_len]
  cases i with
  | ofNat m =>
    show (Nat.repr m).length ≤ 12
    rw [Nat.length_repr_le_iff (by decide)]
    have : (Int.ofNat m) = (m : Int) := rfl
    rw [this] at h1
    omega
  | negSucc m => omega
theorem log_small {i : Int} (h0 : 0 ≤ i) (h1 : i < 1000000000000) : i.natAbs.log2 < 1920 := by
  rcases Nat.eq_zero_or_pos i.natAbs with h | h
  · rw [h]; decide
  · rw [Nat.log2_lt (by omega)]
    have h2 : i.natAbs < 2 ^ 40 := by omega
    have h3 : (2 : Nat) ^ 40 ≤ 2 ^ 1920 := Nat.pow_le_pow_right (by decide) (by decide)
    exact Nat.lt_of_lt_of_le h2 h3
@[simp] theorem eqb_str {a b : Str} : eqb (.str a) (.str b) = (a == b) := rfl
theorem any_strs {l : List Str} {s : Str} : (l.map Val.str).any (fun y => eqb y (.str s)) = decide (s ∈ l) := by
  induction l with
  | nil => simp
  | cons a r ih =>
    rw [List.map_cons, List.any_cons, ih, eqb_str, Bool.eq_iff_iff]
    simp only [List.mem_cons, Bool.or_eq_true, beq_iff_eq, decide_eq_true_eq]
    exact ⟨fun h => h.imp Eq.symm id, fun h => h.imp Eq.symm id⟩
theorem in_strs {v : Val} {l : List Str} {s : Str} (h : content μ v = some (.lst (l.map Val.str))) : inV μ (.str s) v = some (decide (s ∈ l)) := by
  unfold inV
  rw [h]
  have h1 := plainL_strs l
  show (if plain (.str s) = true ∧ plainL (l.map Val.str) = true ∧ min (dep (.str s)) (depL (l.map Val.str)) ≤ 150 then some ((l.map Val.str).any fun y => eqb y (.str s)) else none) = _
  rw [if_pos ⟨rfl, h1.1, by rw [h1.2]; exact Nat.zero_le _⟩, any_strs]
/-- plain short names -/
def nmOk (s : Str) : Prop := s.length ≤ 4 ∧ ∀ c ∈ s.cps.toList, 97 ≤ c ∧ c ≤ 122
theorem abc_at {v : Int} (h0 : 0 ≤ v) (h1 : v < 26) : ∃ c : Nat, 97 ≤ c ∧ c ≤ 122 ∧ atI (Str.ofString "abcdefghijklmnopqrstuvwxyz").cps.toList v = some c := by
  have hl : (Str.ofString "abcdefghijklmnopqrstuvwxyz").cps.toList = (List.range 26).map (· + 97) := by decide +kernel
  rw [hl]
  refine ⟨v.toNat + 97, by omega, by omega, at_nat h0 ?_⟩
  rw [List.getElem?_map, List.getElem?_range (by omega)]
  rfl
theorem cutL_mem {α : Type} {l : List α} {x y : Option Int} {c : α} (h : c ∈ cutL l x y) : c ∈ l := List.mem_of_mem_drop (List.mem_of_mem_take h)
theorem cut4 {α : Type} (l : List α) : (cutL l none (some 4)).length ≤ 4 := by
  unfold cutL sIx
  rw [List.length_take]
  simp
  omega
theorem names_ok' (h : P "_law_names" = some D._law_names) (ht : P "_law_take" = some D._law_take) (hp : Pot μ p) {many : Int} (h0 : 0 ≤ many) (h1 : many ≤ 1000) (hn : 2 ≤ n) (q : ∀ (l : List Str) μ', l.length ≤ many.toNat → l.Nodup → (∀ s ∈ l, nmOk s) → (0 < many → l ≠ []) → Pw p μ μ' → Q (strsV l) μ') : phi P n "_law_names" .val [.ref p, .int many] μ Q X := by
  obtain ⟨n, rfl⟩ : ∃ k, n = k + 1 := ⟨n - 1, by omega⟩
  refine call_ok h rfl ?_
  have hΦ := phi_mono P n
  simp [D._law_names, e_v, e_c, e_tup, e_lst, e_dct, s_nil, s_cons, e_ix, e_sl, e_bin, e_cmp, e_eq, e_ne, e_in, e_nin, e_isN, e_notN, e_chain, e_neg, e_not, e_and, e_or, e_ite, e_call, e_bi, e_me, e_isT, e_new, e_attr, e_mth, e_mk, w_setattr, w_skip, w_ex, w_asg, w_asgT, w_setix, w_ite, w_ret, w_raise, w_seq]
  intro r hr
  have hrp := hp.ne hr
  refine for_rule hΦ ?_
  simp [i_range, e_v, e_c, e_tup, e_lst, e_dct, s_nil, s_cons, e_ix, e_sl, e_bin, e_cmp, e_eq, e_ne, e_in, e_nin, e_isN, e_notN, e_chain, e_neg, e_not, e_and, e_or, e_ite, e_call, e_bi, e_me, e_isT, e_new, e_attr, e_mth, e_mk, w_setattr, w_skip, w_ex, w_asg, w_asgT, w_setix, w_ite, w_ret, w_raise]
  refine ⟨by omega, by omega, fun done env' μ' => ∃ (l : List Str) (a b c : Option Val), env' = [some (.ref p), some (.int many), some (.ref r), a, b, c] ∧ l.length ≤ done.length ∧ l.Nodup ∧ ((∀ s ∈ l, nmOk s) ∧ (done ≠ [] → l ≠ [])) ∧ μ' r = some (strsV l) ∧ Pot μ' p ∧ ∀ a, a ≠ p → a ≠ r → μ' a = μ a, ⟨[], _, _, _, rfl, by simp, by simp, ⟨by simp, by simp⟩, mset_same, hp.set hrp, fun a _ hb => mset_ne hb⟩, ?_, ?_⟩
  · rintro done v rest env' μ' e ⟨l, a, b, c, rfl, hl, hnd, ⟨hok, hne⟩, er, hpot, hsame⟩
    refine ⟨trivial, ?_⟩
    simp [w_seq, e_v, e_c, e_tup, e_lst, e_dct, s_nil, s_cons, e_ix, e_sl, e_bin, e_cmp, e_eq, e_ne, e_in, e_nin, e_isN, e_notN, e_chain, e_neg, e_not, e_and, e_or, e_ite, e_call, e_bi, e_me, e_isT, e_new, e_attr, e_mth, e_mk, w_setattr, w_skip, w_ex, w_asg, w_asgT, w_setix, w_ite, w_ret, w_raise]
    refine take_ok ht hpot (by decide) (by decide) (by omega) fun x μ1 x0 x1 k1 => ?_
    obtain ⟨ch, c0, c1, ec⟩ := abc_at x0 x1
    simp [os_len, big_eq, ec]
    refine ⟨by decide +kernel, ?_⟩
    refine take_ok ht k1.pot (by decide) (by decide) (by omega) fun y μ2 y0 y1 k2 => ?_
    simp [big_eq]
    have hl1 : ({ cps := #[ch] } : Str).length = 1 := rfl
    refine ⟨⟨by omega, by omega, by rw [hl1]; omega⟩, ?_⟩
    refine take_ok ht k2.pot (by decide) (by decide) (by omega) fun z μ3 z0 z1 k3 => ?_
    obtain ⟨sx, hsx, esx⟩ : ∃ sx : Str, (sx.length ≤ 1 ∧ ∀ c ∈ sx.cps.toList, 97 ≤ c ∧ c ≤ 122) ∧ atI [Val.str (Str.ofString ""), Val.str (Str.ofString "a"), Val.str (Str.ofString "z")] z = some (.str sx) := by
      have : z = 0 ∨ z = 1 ∨ z = 2 := by omega
      rcases this with rfl | rfl | rfl
      · exact ⟨_, by decide +kernel, rfl⟩
      · exact ⟨_, by decide +kernel, rfl⟩
      · exact ⟨_, by decide +kernel, rfl⟩
    simp [esx, big_eq]
    have hlr : (repS ⟨#[ch]⟩ (1 + y)).length ≤ 3 := by
      show ((List.replicate (1 + y).toNat [ch]).flatten.toArray).size ≤ 3
      simp
      omega
    have hcr : ∀ c ∈ (repS ⟨#[ch]⟩ (1 + y)).cps.toList, 97 ≤ c ∧ c ≤ 122 := by
      intro c hc
      have : c ∈ (List.replicate (1 + y).toNat [ch]).flatten := hc
      rw [List.mem_flatten] at this
      obtain ⟨m, hm, hcm⟩ := this
      rw [List.mem_replicate] at hm
      rw [hm.2] at hcm
      rw [List.mem_singleton.mp hcm]
      exact ⟨c0, c1⟩
    have er3 : μ3 r = some (.lst (l.map Val.str)) := by rw [k3.eq r hrp, k2.eq r hrp, k1.eq r hrp, er]; rfl
    refine ⟨by omega, by rw [str_len_append]; omega, ?_⟩
    rw [in_strs (μ := μ3) (v := .ref r) (l := l) er3]
    generalize hnm : (⟨(cutL (repS ⟨#[ch]⟩ (1 + y) ++ sx).cps.toList none (some 4)).toArray⟩ : Str) = nm
    have hnmok : nmOk nm := by
      subst hnm
      refine ⟨cut4 _, fun c hc => ?_⟩
      have := cutL_mem hc
      have h2 : c ∈ (repS ⟨#[ch]⟩ (1 + y)).cps.toList ++ sx.cps.toList := by
        have e3 : (repS ⟨#[ch]⟩ (1 + y) ++ sx).cps.toList = (repS ⟨#[ch]⟩ (1 + y)).cps.toList ++ sx.cps.toList := Array.toList_append
        rw [← e3]; exact this
      rcases List.mem_append.mp h2 with z | z
      · exact hcr c z
      · exact hsx.2 c z
    simp
    have same3 : ∀ a, ¬ a = p → ¬ a = r → μ3 a = μ a := fun a ha hb => by rw [k3.eq a ha, k2.eq a ha, k1.eq a ha, hsame a ha hb]
    refine ⟨fun hni => ?_, fun hin => ⟨l, by omega, hnd, ⟨hok, by intro hz; rw [hz] at hin; simp at hin⟩, er3, k3.pot, same3⟩⟩
    rw [ok_append er3, me_append er3]
    have hll : l.length < big := by
      have : (done ++ v :: rest).length = many.toNat := by rw [← e]; simp [intsFrom]
      simp at this
      unfold big; omega
    simp [hll]
    refine ⟨l ++ [nm], by simp; omega, ?_, ?_, by simp [strsV], k3.pot.set hrp, fun a ha hb => by rw [mset_ne hb]; exact same3 a ha hb⟩
    · rw [List.nodup_append]
      exact ⟨hnd, by simp, fun a ha b hb => by rw [List.mem_singleton.mp hb]; exact fun e => hni (e ▸ ha)⟩
    · have : ∀ s ∈ l ++ [nm], nmOk s := fun s hs => by
        rcases List.mem_append.mp hs with z | z
        · exact hok s z
        · rw [List.mem_singleton.mp z]; exact hnmok
      simpa using this
  · rintro env' μ' ⟨l, a, b, c, rfl, hl, hnd, ⟨hok, hne⟩, er, hpot, hsame⟩
    refine ⟨trivial, ?_⟩
    simp [e_v, e_c, e_tup, e_lst, e_dct, s_nil, s_cons, e_ix, e_sl, e_bin, e_cmp, e_eq, e_ne, e_in, e_nin, e_isN, e_notN, e_chain, e_neg, e_not, e_and, e_or, e_ite, e_call, e_bi, e_me, e_isT, e_new, e_attr, e_mth, e_mk, w_setattr, w_skip, w_ex, w_asg, w_asgT, w_setix, w_ite, w_ret, w_raise]
    show Q (reso _ _ _ _) _
    rw [reso_new hr er (by show nrL _ = true; exact nrL_strs l)]
    refine q l _ (by simpa [intsFrom] using hl) hnd hok (fun hm => hne (by intro hz; have := congrArg List.length hz; simp [intsFrom] at this; omega)) (Pw.cut hp hpot fun a ha hb => hsame a hb fun e => by rw [e, hr] at ha; cases ha)
theorem names_ok (h : P "_law_names" = some D._law_names) (ht : P "_law_take" = some D._law_take) (hp : Pot μ p) {many : Int} (h0 : 0 ≤ many) (h1 : many ≤ 1000) (hn : 2 ≤ n) (q : ∀ (l : List Str) μ', l.length ≤ many.toNat → l.Nodup → (∀ s ∈ l, nmOk s) → Pw p μ μ' → Q (strsV l) μ') : phi P n "_law_names" .val [.ref p, .int many] μ Q X :=
  names_ok' h ht hp h0 h1 hn fun l μ' a b c _ k => q l μ' a b c k
theorem list_at {l : List Str} {v : Val} (h : v ∈ l.map Val.str) : ∃ s ∈ l, v = .str s := by
  obtain ⟨s, hs, rfl⟩ := List.mem_map.mp h
  exact ⟨s, hs, rfl⟩
theorem numbered_ok (h : P "_law_numbered" = some D._law_numbered) (ht : P "_law_take" = some D._law_take) (hp : Pot μ p) {l0 : List Str} (hl0 : l0.length ≤ 1000) (hok : ∀ s ∈ l0, nmOk s) (hn : 2 ≤ n) (q : ∀ (l : List Str) μ', l.length ≤ 2 * l0.length → (∀ s ∈ l, s.length ≤ 100) → Pw p μ μ' → Q (strsV l) μ') : phi P n "_law_numbered" .val [.ref p, strsV l0] μ Q X := by
  obtain ⟨n, rfl⟩ : ∃ k, n = k + 1 := ⟨n - 1, by omega⟩
  refine call_ok h rfl ?_
  have hΦ := phi_mono P n
  simp [D._law_numbered, e_v, e_c, e_tup, e_lst, e_dct, s_nil, s_cons, e_ix, e_sl, e_bin, e_cmp, e_eq, e_ne, e_in, e_nin, e_isN, e_notN, e_chain, e_neg, e_not, e_and, e_or, e_ite, e_call, e_bi, e_me, e_isT, e_new, e_attr, e_mth, e_mk, w_setattr, w_skip, w_ex, w_asg, w_asgT, w_setix, w_ite, w_ret, w_raise, w_seq, strsV]
  intro r hr
  have hrp := hp.ne hr
  refine for_rule hΦ (i_e ?_ hΦ)
  simp [e_v, e_c, e_tup, e_lst, e_dct, s_nil, s_cons, e_ix, e_sl, e_bin, e_cmp, e_eq, e_ne, e_in, e_nin, e_isN, e_notN, e_chain, e_neg, e_not, e_and, e_or, e_ite, e_call, e_bi, e_me, e_isT, e_new, e_attr, e_mth, e_mk, w_setattr, w_skip, w_ex, w_asg, w_asgT, w_setix, w_ite, w_ret, w_raise, guard]
  refine ⟨fun done env' μ' => ∃ (l : List Str) (o : Option Val), env' = [some (.ref p), some (strsV l0), some (.ref r), o] ∧ l.length ≤ l0.length + done.length ∧ (∀ s ∈ l, s.length ≤ 100) ∧ μ' r = some (strsV l) ∧ Pot μ' p ∧ ∀ a, a ≠ p → a ≠ r → μ' a = μ a, ⟨l0, none, rfl, by simp, fun s hs => Nat.le_trans (hok s hs).1 (by decide), mset_same, hp.set hrp, fun a _ hb => mset_ne hb⟩, ?_, ?_⟩
  · rintro done v rest env' μ' e ⟨l, o, rfl, hl, hok', er, hpot, hsame⟩
    refine ⟨trivial, ?_⟩
    obtain ⟨s, hs, rfl⟩ := list_at (l := l0) (v := v) (by rw [e]; simp)
    have hdone : done.length < l0.length := by
      have := congrArg List.length e
      simp at this
      omega
    simp [w_seq, e_v, e_c, e_tup, e_lst, e_dct, s_nil, s_cons, e_ix, e_sl, e_bin, e_cmp, e_eq, e_ne, e_in, e_nin, e_isN, e_notN, e_chain, e_neg, e_not, e_and, e_or, e_ite, e_call, e_bi, e_me, e_isT, e_new, e_attr, e_mth, e_mk, w_setattr, w_skip, w_ex, w_asg, w_asgT, w_setix, w_ite, w_ret, w_raise]
    refine take_ok ht hpot (by decide) (by decide) (by omega) fun x μ1 x0 x1 k1 => ?_
    simp
    refine ⟨fun hx => ?_, fun hx => ⟨l, by omega, hok', by rw [k1.eq r hrp, er], k1.pot, fun a ha hb => by rw [k1.eq a ha, hsame a ha hb]⟩⟩
    have er1 : μ1 r = some (.lst (l.map Val.str)) := by rw [k1.eq r hrp, er]; rfl
    rw [ok_append er1]
    have hs4 := (hok s hs).1
    simp [os_len, big_eq]
    have hd0 : ".".length = 1 := rfl
    refine ⟨by omega, ?_⟩
    refine take_ok ht k1.pot (by decide) (by decide) (by omega) fun y μ2 y0 y1 k2 => ?_
    obtain ⟨m, hm0, hm1, em⟩ : ∃ m : Int, 0 < m ∧ m < 1073741824 ∧ atI [Val.int 9, Val.int 100, Val.int 1000000000] y = some (.int m) := by
      have : y = 0 ∨ y = 1 ∨ y = 2 := by omega
      rcases this with rfl | rfl | rfl
      · exact ⟨_, by decide, by decide, rfl⟩
      · exact ⟨_, by decide, by decide, rfl⟩
      · exact ⟨_, by decide, by decide, rfl⟩
    simp [em]
    refine take_ok ht k2.pot hm0 hm1 (by omega) fun z μ3 z0 z1 k3 => ?_
    have er3 : μ3 r = some (.lst (l.map Val.str)) := by rw [k3.eq r hrp, k2.eq r hrp, er1]
    have hsl := strI_len (i := 1 + z) (by omega) (by omega)
    simp
    have hll : l.length < big := by rw [big_eq]; omega
    have hd1 : (Str.ofString ".").length = 1 := by rw [os_len]; rfl
    refine ⟨log_small (by omega) (by omega), ⟨by rw [big_eq, str_len_append]; omega, ?_⟩⟩
    rw [me_append er3]
    simp [hll]
    refine ⟨l ++ [s ++ Str.ofString "." ++ strI (1 + z)], by simp; omega, ?_, by simp [strsV], k3.pot.set hrp, fun a ha hb => by rw [mset_ne hb, k3.eq a ha, k2.eq a ha, k1.eq a ha, hsame a ha hb]⟩
    intro t ht'
    rcases List.mem_append.mp ht' with w | w
    · exact hok' t w
    · rw [List.mem_singleton.mp w, str_len_append, str_len_append]; omega
  · rintro env' μ' ⟨l, o, rfl, hl, hok', er, hpot, hsame⟩
    refine ⟨trivial, ?_⟩
    simp [e_v, e_c, e_tup, e_lst, e_dct, s_nil, s_cons, e_ix, e_sl, e_bin, e_cmp, e_eq, e_ne, e_in, e_nin, e_isN, e_notN, e_chain, e_neg, e_not, e_and, e_or, e_ite, e_call, e_bi, e_me, e_isT, e_new, e_attr, e_mth, e_mk, w_setattr, w_skip, w_ex, w_asg, w_asgT, w_setix, w_ite, w_ret, w_raise]
    show Q (reso _ _ _ _) _
    rw [reso_new hr er (by show nrL _ = true; exact nrL_strs l)]
    refine q l _ (by simp at hl; omega) hok' (Pw.cut hp hpot fun a ha hb => hsame a hb fun e => by rw [e, hr] at ha; cases ha)
end
/-! held values -/
def hput (s : Str) (v : Int) : Hd → Hd
  | [] => [(s, v)]
  | (k, w) :: r => if s == k then (k, v) :: r else (k, w) :: hput s v r
theorem dPut_hd (s : Str) (v : Int) : ∀ l : Hd, dPut (.str s) (.int v) (hdV l) = hdV (hput s v l)
  | [] => rfl
  | (k, w) :: r => by
    show (if keyEq (.str s) (.str k) = true then Val.tup [.str k, .int v] :: hdV r else Val.tup [.str k, .int w] :: dPut (.str s) (.int v) (hdV r)) = _
    rw [dPut_hd s v r, hput]
    show (if (s == k) = true then _ else _) = _
    split <;> rfl
theorem hput_keys (s : Str) (v : Int) : ∀ l : Hd, ∀ x, x ∈ (hput s v l).map Prod.fst ↔ x = s ∨ x ∈ l.map Prod.fst
  | [], x => by simp [hput]
  | (k, w) :: r, x => by
    unfold hput
    by_cases h : (s == k) = true
    · rw [if_pos h]
      have : s = k := by simpa using h
      subst this
      simp
    · rw [if_neg h]
      simp only [List.map_cons, List.mem_cons, hput_keys s v r x]
      constructor
      · rintro (h | h | h)
        · exact .inr (.inl h)
        · exact .inl h
        · exact .inr (.inr h)
      · rintro (h | h | h)
        · exact .inr (.inl h)
        · exact .inl h
        · exact .inr (.inr h)
theorem hput_nodup {s : Str} {v : Int} : ∀ {l : Hd}, (l.map Prod.fst).Nodup → ((hput s v l).map Prod.fst).Nodup
  | [], _ => by simp [hput]
  | (k, w) :: r, h => by
    unfold hput
    by_cases hk : (s == k) = true
    · rw [if_pos hk]; exact h
    · rw [if_neg hk]
      rw [List.map_cons, List.nodup_cons] at h ⊢
      refine ⟨fun z => ?_, hput_nodup h.2⟩
      rcases (hput_keys s v r k).mp z with e | e
      · exact hk (by simp [e])
      · exact h.1 e
theorem hput_len (s : Str) (v : Int) : ∀ l : Hd, (hput s v l).length ≤ l.length + 1
  | [] => by simp [hput]
  | (k, w) :: r => by
    unfold hput
    split
    · simp
    · simp; exact hput_len s v r
theorem hput_okH {s : Str} {v : Int} (hv : bd v) : ∀ {l : Hd}, okH l → okH (hput s v l)
  | [], _ => fun p hp => by simp [hput] at hp; rw [hp]; exact hv
  | (k, w) :: r, h => fun p hp => by
    unfold hput at hp
    split at hp
    · rcases List.mem_cons.mp hp with e | e
      · rw [e]; exact hv
      · exact h p (List.mem_cons_of_mem _ e)
    · rcases List.mem_cons.mp hp with e | e
      · rw [e]; exact h (k, w) List.mem_cons_self
      · exact hput_okH hv (fun p hp => h p (List.mem_cons_of_mem _ hp)) p e
theorem dctIn_sub : ∀ {l m : Hd}, (∀ k v, (k, v) ∈ l → m.lookup k = some v) → dctIn (hdV m) (hdV l) = true
  | [], m, h => rfl
  | (k, w) :: r, m, h => by
    show (isKey (.str k) && (match dLook (.str k) (hdV m) with | some w' => flatEq (.int w) w' | none => false) && dctIn (hdV m) (hdV r)) = true
    rw [dLook_hd, h k w List.mem_cons_self, dctIn_sub (l := r) fun k v hk => h k v (List.mem_cons_of_mem _ hk)]
    simp [flatEq]
theorem lookup_self : ∀ {l : Hd}, (l.map Prod.fst).Nodup → ∀ k v, (k, v) ∈ l → l.lookup k = some v
  | (k0, w) :: r, h, k, v, hm => by
    rw [List.map_cons, List.nodup_cons] at h
    rw [List.lookup_cons]
    rcases List.mem_cons.mp hm with e | e
    · cases e; simp
    · have : (k == k0) = false := by
        rw [beq_eq_false_iff_ne]
        rintro rfl
        exact h.1 (List.mem_map.mpr ⟨_, e, rfl⟩)
      rw [this]
      exact lookup_self h.2 k v e
theorem eq_hd {μ : Mu} {v w : Val} {l : Hd} (hv : content μ v = some (.dct (hdV l))) (hw : content μ w = some (.dct (hdV l))) (hn : (l.map Prod.fst).Nodup) : eqV μ v w = some true := by
  refine eqV_of hv hw ?_
  unfold eqC
  dsimp only
  rw [if_pos ⟨rfl, dctIn_sub (lookup_self hn)⟩]
end Mi
/-! Lc: names and depths of expressions. -/
namespace Mi
open PySem (Str)
section
variable {P : Prog} {n : Nat} {μ : Mu} {Q : Val → Mu → Prop} {X : XQ} {p : Ad}
theorem Wd.ne_num (w : Wd) : (Str.ofString "number" == w.s) = false := by cases w <;> simp [Wd.s]
theorem Wd.ne_nam (w : Wd) : (Str.ofString "name" == w.s) = false := by cases w <;> simp [Wd.s]
theorem names_in_ok (h : P "names_in" = some D.names_in) : ∀ (e : Ex) (n : Nat) (Q : Val → Mu → Prop) (X : XQ), e.deep ≤ n → e.names.length ≤ 1000000 → Q (strsV e.names) μ → phi P n "names_in" .val [e.v] μ Q X
  | .num i, n + 1, Q, X, hn, hl, hq => by
    refine call_ok h rfl ?_
    simp [D.names_in, e_v, e_c, e_tup, e_lst, e_dct, s_nil, s_cons, e_ix, e_sl, e_bin, e_cmp, e_eq, e_ne, e_in, e_nin, e_isN, e_notN, e_chain, e_neg, e_not, e_and, e_or, e_ite, e_call, e_bi, e_me, e_isT, e_new, e_attr, e_mth, e_mk, w_setattr, w_skip, w_ex, w_asg, w_asgT, w_setix, w_ite, w_ret, w_raise, w_seq, Ex.v]
    intro r hr
    rw [fin_new hr rfl]
    exact hq
  | .nam s, n + 1, Q, X, hn, hl, hq => by
    refine call_ok h rfl ?_
    simp [D.names_in, e_v, e_c, e_tup, e_lst, e_dct, s_nil, s_cons, e_ix, e_sl, e_bin, e_cmp, e_eq, e_ne, e_in, e_nin, e_isN, e_notN, e_chain, e_neg, e_not, e_and, e_or, e_ite, e_call, e_bi, e_me, e_isT, e_new, e_attr, e_mth, e_mk, w_setattr, w_skip, w_ex, w_asg, w_asgT, w_setix, w_ite, w_ret, w_raise, w_seq, Ex.v]
    intro r hr
    rw [fin_new hr rfl]
    exact hq
  | .op w a b, n + 1, Q, X, hn, hl, hq => by
    simp only [Ex.deep] at hn
    simp only [Ex.names, List.length_append] at hl
    refine call_ok h rfl ?_
    simp [D.names_in, e_v, e_c, e_tup, e_lst, e_dct, s_nil, s_cons, e_ix, e_sl, e_bin, e_cmp, e_eq, e_ne, e_in, e_nin, e_isN, e_notN, e_chain, e_neg, e_not, e_and, e_or, e_ite, e_call, e_bi, e_me, e_isT, e_new, e_attr, e_mth, e_mk, w_setattr, w_skip, w_ex, w_asg, w_asgT, w_setix, w_ite, w_ret, w_raise, w_seq, Ex.v]
    refine names_in_ok h a n _ _ (by omega) (by omega) ?_
    refine names_in_ok h b n _ _ (by omega) (by omega) ?_
    simp [strsV, big_eq]
    refine ⟨by omega, fun r hr => ?_⟩
    rw [fin_new hr (by rw [← List.map_append]; exact nrL_strs _), ← List.map_append]
    exact hq
  | .num _, 0, _, _, hn, _, _ => by simp [Ex.deep] at hn
  | .nam _, 0, _, _, hn, _, _ => by simp [Ex.deep] at hn
  | .op _ _ _, 0, _, _, hn, _, _ => by simp [Ex.deep] at hn
/-- .. as a list that may be changed -/
theorem names_in_obj (h : P "names_in" = some D.names_in) (e : Ex) (hn : e.deep ≤ n) (hl : e.names.length ≤ 1000000) (hq : ∀ r, μ r = none → Q (.ref r) (μ.set r (strsV e.names))) : phi P n "names_in" .obj [e.v] μ Q X := by
  cases n with
  | zero => cases e <;> simp [Ex.deep] at hn
  | succ n =>
    cases e with
    | num i =>
      refine call_ok h rfl ?_
      simp [D.names_in, e_v, e_c, e_tup, e_lst, e_dct, s_nil, s_cons, e_ix, e_sl, e_bin, e_cmp, e_eq, e_ne, e_in, e_nin, e_isN, e_notN, e_chain, e_neg, e_not, e_and, e_or, e_ite, e_call, e_bi, e_me, e_isT, e_new, e_attr, e_mth, e_mk, w_setattr, w_skip, w_ex, w_asg, w_asgT, w_setix, w_ite, w_ret, w_raise, w_seq, Ex.v]
      intro r hr
      rw [fin_obj hr]
      exact hq r hr
    | nam s =>
      refine call_ok h rfl ?_
      simp [D.names_in, e_v, e_c, e_tup, e_lst, e_dct, s_nil, s_cons, e_ix, e_sl, e_bin, e_cmp, e_eq, e_ne, e_in, e_nin, e_isN, e_notN, e_chain, e_neg, e_not, e_and, e_or, e_ite, e_call, e_bi, e_me, e_isT, e_new, e_attr, e_mth, e_mk, w_setattr, w_skip, w_ex, w_asg, w_asgT, w_setix, w_ite, w_ret, w_raise, w_seq, Ex.v]
      intro r hr
      rw [fin_obj hr]
      exact hq r hr
    | op w a b =>
      simp only [Ex.deep] at hn
      simp only [Ex.names, List.length_append] at hl
      refine call_ok h rfl ?_
      simp [D.names_in, e_v, e_c, e_tup, e_lst, e_dct, s_nil, s_cons, e_ix, e_sl, e_bin, e_cmp, e_eq, e_ne, e_in, e_nin, e_isN, e_notN, e_chain, e_neg, e_not, e_and, e_or, e_ite, e_call, e_bi, e_me, e_isT, e_new, e_attr, e_mth, e_mk, w_setattr, w_skip, w_ex, w_asg, w_asgT, w_setix, w_ite, w_ret, w_raise, w_seq, Ex.v]
      refine names_in_ok h a n _ _ (by omega) (by omega) ?_
      refine names_in_ok h b n _ _ (by omega) (by omega) ?_
      simp [strsV, big_eq]
      refine ⟨by omega, fun r hr => ?_⟩
      rw [fin_obj hr, ← List.map_append]
      exact hq r hr
theorem depth_of_ok (h : P "depth_of" = some D.depth_of) : ∀ (e : Ex) (n : Nat) (Q : Val → Mu → Prop) (X : XQ), e.deep ≤ n → Q (.int e.deep) μ → phi P n "depth_of" .val [e.v] μ Q X
  | .num i, n + 1, Q, X, hn, hq => by
    refine call_ok h rfl ?_
    simp [D.depth_of, e_v, e_c, e_tup, e_lst, e_dct, s_nil, s_cons, e_ix, e_sl, e_bin, e_cmp, e_eq, e_ne, e_in, e_nin, e_isN, e_notN, e_chain, e_neg, e_not, e_and, e_or, e_ite, e_call, e_bi, e_me, e_isT, e_new, e_attr, e_mth, e_mk, w_setattr, w_skip, w_ex, w_asg, w_asgT, w_setix, w_ite, w_ret, w_raise, w_seq, Ex.v]
    exact hq
  | .nam s, n + 1, Q, X, hn, hq => by
    refine call_ok h rfl ?_
    simp [D.depth_of, e_v, e_c, e_tup, e_lst, e_dct, s_nil, s_cons, e_ix, e_sl, e_bin, e_cmp, e_eq, e_ne, e_in, e_nin, e_isN, e_notN, e_chain, e_neg, e_not, e_and, e_or, e_ite, e_call, e_bi, e_me, e_isT, e_new, e_attr, e_mth, e_mk, w_setattr, w_skip, w_ex, w_asg, w_asgT, w_setix, w_ite, w_ret, w_raise, w_seq, Ex.v]
    exact hq
  | .op w a b, n + 1, Q, X, hn, hq => by
    simp only [Ex.deep] at hn
    refine call_ok h rfl ?_
    simp [D.depth_of, e_v, e_c, e_tup, e_lst, e_dct, s_nil, s_cons, e_ix, e_sl, e_bin, e_cmp, e_eq, e_ne, e_in, e_nin, e_isN, e_notN, e_chain, e_neg, e_not, e_and, e_or, e_ite, e_call, e_bi, e_me, e_isT, e_new, e_attr, e_mth, e_mk, w_setattr, w_skip, w_ex, w_asg, w_asgT, w_setix, w_ite, w_ret, w_raise, w_seq, Ex.v, Wd.ne_num, Wd.ne_nam]
    refine depth_of_ok h a n _ _ (by omega) ?_
    refine depth_of_ok h b n _ _ (by omega) ?_
    simp
    have e : (1 + (if a.deep < b.deep then (b.deep : Int) else a.deep)) = ((Ex.op w a b).deep : Int) := by
      simp only [Ex.deep]
      split <;> omega
    rw [e]
    exact hq
  | .num _, 0, _, _, hn, _ => by simp [Ex.deep] at hn
  | .nam _, 0, _, _, hn, _ => by simp [Ex.deep] at hn
  | .op _ _ _, 0, _, _, hn, _ => by simp [Ex.deep] at hn
/-! the judge's own reading, by a list of what is left -/
def Ex.size : Ex → Nat
  | .num _ => 1
  | .nam _ => 1
  | .op _ a b => a.size + b.size + 1
def leftV (l : List (Ex × Int)) : Val := .lst (l.map fun p => .tup [p.1.v, .int p.2])
/-- what the left ones still give, the last first -/
def restN (l : List (Ex × Int)) : List Str := (l.reverse.map fun p => p.1.names).flatten
def restD (l : List (Ex × Int)) (d : Int) : Int := l.foldr (fun p m => max m (p.2 + (p.1.deep : Int) - 1)) d
def restS (l : List (Ex × Int)) : Nat := (l.map fun p => p.1.size).sum
theorem restN_snoc (l : List (Ex × Int)) (e : Ex) (k : Int) : restN (l ++ [(e, k)]) = e.names ++ restN l := by
  unfold restN
  rw [List.reverse_append]
  simp
theorem restS_snoc (l : List (Ex × Int)) (e : Ex) (k : Int) : restS (l ++ [(e, k)]) = restS l + e.size := by simp [restS]
theorem restD_max (l : List (Ex × Int)) (d c : Int) : restD l (max d c) = max (restD l d) c := by
  induction l with
  | nil => rfl
  | cons p r ih =>
    show max (restD r (max d c)) _ = max (max (restD r d) _) c
    rw [ih]; omega
theorem restD_snoc (l : List (Ex × Int)) (e : Ex) (k d : Int) : restD (l ++ [(e, k)]) d = max (restD l d) (k + (e.deep : Int) - 1) := by
  unfold restD
  rw [List.foldr_append]
  exact restD_max l d _
theorem Ex.deep_pos : ∀ e : Ex, 1 ≤ e.deep
  | .num _ => Nat.le_refl 1
  | .nam _ => Nat.le_refl 1
  | .op _ a b => by simp only [Ex.deep]; omega
theorem Ex.size_pos : ∀ e : Ex, 1 ≤ e.size
  | .num _ => Nat.le_refl 1
  | .nam _ => Nat.le_refl 1
  | .op _ a b => by simp only [Ex.size]; omega
theorem Ex.plain : ∀ e : Ex, Mi.plain e.v = true
  | .num _ => rfl
  | .nam _ => rfl
  | .op w a b => by simp [Ex.v, Mi.plain, Mi.plainL, Ex.plain a, Ex.plain b]
theorem left_plain (l : List (Ex × Int)) : plain (leftV l) = true := by
  show plainL _ = true
  induction l with
  | nil => rfl
  | cons p r ih => simp [plainL, plain, Ex.plain, ih]
theorem eq_nilR {v : Val} {l : List Val} (h : content μ v = some (.lst l)) (hp : plainL l = true) : eqV μ v (.lst []) = some l.isEmpty := by
  refine eqV_of h rfl ?_
  rw [eq_plain (by exact hp) rfl (by simp [dep, depL]) (fun _ h => by cases h)]
  cases l <;> rfl
theorem Ex.names_le : ∀ e : Ex, e.names.length ≤ e.size
  | .num _ => by simp [Ex.names]
  | .nam _ => by simp [Ex.names, Ex.size]
  | .op _ a b => by have := Ex.names_le a; have := Ex.names_le b; simp [Ex.names, Ex.size]; omega
theorem Ex.size_le : ∀ e : Ex, e.size < 2 ^ e.deep
  | .num _ => by simp [Ex.size, Ex.deep]
  | .nam _ => by simp [Ex.size, Ex.deep]
  | .op _ a b => by
    have h1 := Ex.size_le a
    have h2 := Ex.size_le b
    have h3 : 2 ^ a.deep ≤ 2 ^ (max a.deep b.deep) := Nat.pow_le_pow_right (by decide) (by omega)
    have h4 : 2 ^ b.deep ≤ 2 ^ (max a.deep b.deep) := Nat.pow_le_pow_right (by decide) (by omega)
    simp only [Ex.size, Ex.deep, Nat.pow_succ]
    omega
theorem restN_le (l : List (Ex × Int)) : (restN l).length ≤ restS l := by
  induction l with
  | nil => simp [restN]
  | cons p r ih =>
    have e : restN (p :: r) = restN r ++ p.1.names := by simp [restN]
    have e2 : restS (p :: r) = p.1.size + restS r := by simp [restS]
    rw [e, e2, List.length_append]
    have := Ex.names_le p.1
    omega
theorem len_le_S (l : List (Ex × Int)) : l.length ≤ restS l := by
  induction l with
  | nil => simp
  | cons p r ih =>
    have e2 : restS (p :: r) = p.1.size + restS r := by simp [restS]
    rw [e2, List.length_cons]
    have := Ex.size_pos p.1
    omega
theorem l_read_ok (h : P "_law_read" = some D._law_read) (e : Ex) (hs : e.size ≤ 1000000) (hn : 1 ≤ n) (hq : Q (.tup [strsV e.names, .int e.deep]) μ) : phi P n "_law_read" .val [e.v] μ Q X := by
  obtain ⟨n, rfl⟩ : ∃ k, n = k + 1 := ⟨n - 1, by omega⟩
  refine call_ok h rfl ?_
  have hΦ := phi_mono P n
  simp [D._law_read, e_v, e_c, e_tup, e_lst, e_dct, s_nil, s_cons, e_ix, e_sl, e_bin, e_cmp, e_eq, e_ne, e_in, e_nin, e_isN, e_notN, e_chain, e_neg, e_not, e_and, e_or, e_ite, e_call, e_bi, e_me, e_isT, e_new, e_attr, e_mth, e_mk, w_setattr, w_skip, w_ex, w_asg, w_asgT, w_setix, w_ite, w_ret, w_raise, w_seq]
  intro a ha b hb
  have hba : b ≠ a := fun z => by rw [z, mset_same] at hb; cases hb
  have hb0 : μ b = none := by rw [mset_ne hba] at hb; exact hb
  refine while_rule hΦ (fun k env' μ' => ∃ (l : List (Ex × Int)) (f : List Str) (d : Int) (o1 o2 : Option Val), k = restS l ∧ env' = [some e.v, some (.ref a), some (.ref b), some (.int d), o1, o2] ∧ μ' a = some (leftV l) ∧ μ' b = some (strsV f) ∧ f ++ restN l = e.names ∧ restD l d = e.deep ∧ f.length + restS l ≤ 1000000 ∧ ∀ c, c ≠ a → c ≠ b → μ' c = μ c) e.size
    ⟨[(e, 1)], [], 1, none, none, by simp [restS], rfl, by rw [mset_ne hba.symm, mset_same]; rfl, mset_same, by simp [restN], by simp [restD]; have := e.deep_pos; omega, by simpa [restS] using hs, fun c h1 h2 => by rw [mset_ne h2, mset_ne h1]⟩ ?_
  rintro k env' μ' ⟨l, f, d, o1, o2, rfl, rfl, el, ef, eN, eD, eS, same⟩
  have hl : content μ' (.ref a) = some (.lst (l.map fun p => .tup [p.1.v, .int p.2])) := el
  simp [e_v, e_c, e_tup, e_lst, e_dct, s_nil, s_cons, e_ix, e_sl, e_bin, e_cmp, e_eq, e_ne, e_in, e_nin, e_isN, e_notN, e_chain, e_neg, e_not, e_and, e_or, e_ite, e_call, e_bi, e_me, e_isT, e_new, e_attr, e_mth, e_mk, w_setattr, w_skip, w_ex, w_asg, w_asgT, w_setix, w_ite, w_ret, w_raise]
  rw [eq_nilR hl (left_plain l)]
  simp
  refine ⟨fun hne => ?_, fun hnil => ?_⟩
  · obtain ⟨r, x, rfl⟩ : ∃ r x, l = r ++ [x] := ⟨l.dropLast, l.getLast hne, (List.dropLast_concat_getLast hne).symm⟩
    obtain ⟨x, k⟩ := x
    have el' : μ' a = some (.lst ((r.map fun p => Val.tup [p.1.v, .int p.2]) ++ [.tup [x.v, .int k]])) := by rw [el]; simp [leftV]
    simp [w_seq, e_v, e_c, e_tup, e_lst, e_dct, s_nil, s_cons, e_ix, e_sl, e_bin, e_cmp, e_eq, e_ne, e_in, e_nin, e_isN, e_notN, e_chain, e_neg, e_not, e_and, e_or, e_ite, e_call, e_bi, e_me, e_isT, e_new, e_attr, e_mth, e_mk, w_setattr, w_skip, w_ex, w_asg, w_asgT, w_setix, w_ite, w_ret, w_raise, ok_pop el', me_pop el']
    rw [restN_snoc] at eN
    rw [restD_snoc] at eD
    rw [restS_snoc] at eS
    have hnew : (μ'.set a (leftV r)) b = some (strsV f) := by rw [mset_ne hba]; exact ef
    have hnew' : (μ'.set a (.lst (r.map fun p => .tup [p.1.v, .int p.2]))) b = some (.lst (f.map Val.str)) := hnew
    have hmax : (if d < k then k else d) = max d k := by split <;> omega
    rw [hmax]
    have hpos := x.size_pos
    cases x with
    | num i =>
      simp [Ex.v]
      refine ⟨restS r, by rw [restS_snoc]; simp [Ex.size], r, rfl, rfl, f, hnew, by simpa [Ex.names] using eN, ?_, by omega, fun c h1 h2 => by rw [mset_ne h1]; exact same c h1 h2⟩
      rw [restD_max, ← eD]; simp [Ex.deep]
    | nam s =>
      simp [Ex.v, ok_append hnew', me_append hnew', big_eq]
      refine ⟨by omega, restS r, by rw [restS_snoc]; simp [Ex.size], r, rfl, by rw [mset_ne hba.symm]; exact mset_same, f ++ [s], by simp [strsV], by simpa [Ex.names] using eN, ?_, by simp [Ex.size] at eS; simp; omega, fun c h1 h2 => by rw [mset_ne h2, mset_ne h1]; exact same c h1 h2⟩
      rw [restD_max, ← eD]; simp [Ex.deep]
    | op w x y =>
      have hr' : (μ'.set a (.lst (r.map fun p => .tup [p.1.v, .int p.2]))) a = some (.lst (r.map fun p => .tup [p.1.v, .int p.2])) := mset_same
      have hS : restS (r ++ [(y, k + 1), (x, k + 1)]) = restS r + x.size + y.size := by simp [restS]; omega
      have hlr := len_le_S r
      simp only [Ex.size] at eS
      simp [Ex.v, ok_extend hr']
      rw [me_extend hr' (r := [.tup [y.v, .int (k + 1)], .tup [x.v, .int (k + 1)]]) rfl]
      simp [big_eq]
      refine ⟨by omega, _, ?_, r ++ [(y, k + 1), (x, k + 1)], hS.symm, by simp [leftV], f, by rw [mset_ne hba]; exact ef, ?_, ?_, by rw [hS]; omega, fun c h1 h2 => by rw [mset_ne h1]; exact same c h1 h2⟩
      · rw [restS_snoc]; simp only [Ex.size]; omega
      · have : r ++ [(y, k + 1), (x, k + 1)] = (r ++ [(y, k + 1)]) ++ [(x, k + 1)] := by simp
        rw [this, restN_snoc, restN_snoc, ← eN]
        simp [Ex.names]
      · have : r ++ [(y, k + 1), (x, k + 1)] = (r ++ [(y, k + 1)]) ++ [(x, k + 1)] := by simp
        rw [this, restD_snoc, restD_snoc, restD_max, ← eD]
        simp only [Ex.deep]
        have h1 := x.deep_pos
        have h2 := y.deep_pos
        omega
  · subst hnil
    simp [restN] at eN
    simp [restD] at eD
    subst eN
    subst eD
    show Q (reso μ μ' 4 (.tup [.ref b, .int e.deep])) (μ'.cut μ)
    have hc : μ'.cut μ = μ := by
      funext c
      unfold Mu.cut
      cases hz : μ c with
      | none => simp
      | some v =>
        simp
        rw [same c (fun z => by rw [z, ha] at hz; cases hz) (fun z => by rw [z, hb0] at hz; cases hz), hz]
    have hr : reso μ μ' 4 (.tup [.ref b, .int e.deep]) = .tup [reso μ μ' 4 (.ref b), .int e.deep] := rfl
    rw [hc, hr, reso_new hb0 ef (by show nrL _ = true; exact nrL_strs _)]
    exact hq
theorem eqbL_strs (l : List Str) : eqbL (l.map Val.str) (l.map Val.str) = true := by
  induction l with
  | nil => rfl
  | cons a r ih => simp [eqbL, ih]
theorem eq_strsR {v w : Val} {l : List Str} (h : content μ v = some (.lst (l.map Val.str))) (h' : content μ w = some (.lst (l.map Val.str))) : eqV μ v w = some true := by
  unfold eqV
  rw [h, h']
  have := eq_strs (μ := μ) l l
  rw [eqbL_strs] at this
  exact this
theorem l_same_int (h : P "_law_same" = some D._law_same) {i : Int} (hn : 1 ≤ n) (hq : Q (.bl true) μ) : phi P n "_law_same" .val [.int i, .int i] μ Q X := by
  obtain ⟨n, rfl⟩ : ∃ k, n = k + 1 := ⟨n - 1, by omega⟩
  exact l_same_ok (o := some i) h hq
end
end Mi
/-! Ld: rows, deeds, books as data. -/
namespace Mi
open PySem (Str)
theorem plain_nr' : (∀ v, plain v = true → nr v = true) ∧ (∀ l, plainL l = true → nrL l = true) := by
  have : ∀ n : Nat, (∀ v, sizeOf v < n → plain v = true → nr v = true) ∧ (∀ l, sizeOf l < n → plainL l = true → nrL l = true) := by
    intro n
    induction n with
    | zero => exact ⟨fun v h => by omega, fun l h => by omega⟩
    | succ n ih =>
      refine ⟨fun v h p => ?_, fun l h p => ?_⟩
      · cases v with
        | tup l => exact ih.2 l (by simp at h; omega) p
        | lst l => exact ih.2 l (by simp at h; omega) p
        | _ => first | rfl | cases p
      · cases l with
        | nil => rfl
        | cons v r =>
          simp only [plainL, Bool.and_eq_true] at p
          simp only [nrL, Bool.and_eq_true]
          exact ⟨ih.1 v (by simp at h; omega) p.1, ih.2 r (by simp at h; omega) p.2⟩
  exact ⟨fun v => (this (sizeOf v + 1)).1 v (Nat.lt_succ_self _), fun l => (this (sizeOf l + 1)).2 l (Nat.lt_succ_self _)⟩
theorem plain_nr {v : Val} (h : plain v = true) : nr v = true := plain_nr'.1 v h
theorem plainL_nr {l : List Val} (h : plainL l = true) : nrL l = true := plain_nr'.2 l h
theorem eqb_refl' : (∀ v, plain v = true → eqb v v = true) ∧ (∀ l, plainL l = true → eqbL l l = true) := by
  have : ∀ n : Nat, (∀ v, sizeOf v < n → plain v = true → eqb v v = true) ∧ (∀ l, sizeOf l < n → plainL l = true → eqbL l l = true) := by
    intro n
    induction n with
    | zero => exact ⟨fun v h => by omega, fun l h => by omega⟩
    | succ n ih =>
      refine ⟨fun v h p => ?_, fun l h p => ?_⟩
      · cases v with
        | tup l => unfold eqb; exact ih.2 l (by simp at h; omega) p
        | lst l => unfold eqb; exact ih.2 l (by simp at h; omega) p
        | non => simp [eqb]
        | bl b => simp [eqb]
        | int i => simp [eqb]
        | str s => simp [eqb]
        | _ => cases p
      · cases l with
        | nil => simp [eqbL]
        | cons v r =>
          simp only [plainL, Bool.and_eq_true] at p
          unfold eqbL
          simp only [Bool.and_eq_true]
          exact ⟨ih.1 v (by simp at h; omega) p.1, ih.2 r (by simp at h; omega) p.2⟩
  exact ⟨fun v => (this (sizeOf v + 1)).1 v (Nat.lt_succ_self _), fun l => (this (sizeOf l + 1)).2 l (Nat.lt_succ_self _)⟩
theorem eqb_refl {v : Val} (h : plain v = true) : eqb v v = true := eqb_refl'.1 v h
theorem plainL_iff {l : List Val} : plainL l = true ↔ ∀ v ∈ l, plain v = true := by
  induction l with
  | nil => simp [plainL]
  | cons v r ih => simp [plainL, ih]
theorem depL_le {l : List Val} {k : Nat} : depL l ≤ k ↔ ∀ v ∈ l, dep v ≤ k := by
  induction l with
  | nil => simp [depL]
  | cons v r ih => simp only [depL, List.forall_mem_cons, ← ih]; omega
/-- two of the same content are the same -/
theorem eq_same {μ : Mu} {v w x : Val} (hv : content μ v = some x) (hw : content μ w = some x) (hp : plain x = true) (hd : dep x ≤ 150) : eqV μ v w = some true := by
  refine eqV_of hv hw ?_
  rw [eq_plain hp hp (by omega) (fun l e => by rw [e] at hp; cases hp), eqb_refl hp]
inductive Rw where
  | set (n : Str) (e : Ex)
  | say (e : Ex)
  | call (n w : Str) (as : List Ex) (m : Int)
  | when (e : Ex) (a b : List Rw)
  | turn (e : Ex) (b : List Rw)
mutual
def Rw.v : Rw → Val
  | .set n e => .tup [.str (Str.ofString "set"), .str n, e.v]
  | .say e => .tup [.str (Str.ofString "say"), e.v]
  | .call n w as m => .tup [.str (Str.ofString "call"), .str n, .str w, .tup (as.map Ex.v), .int m]
  | .when e a b => .tup [.str (Str.ofString "when"), e.v, .tup (Rw.vs a), .tup (Rw.vs b)]
  | .turn e b => .tup [.str (Str.ofString "turn"), e.v, .tup (Rw.vs b)]
def Rw.vs : List Rw → List Val
  | [] => []
  | r :: t => r.v :: Rw.vs t
end
theorem vs_map : ∀ l : List Rw, Rw.vs l = l.map Rw.v
  | [] => rfl
  | r :: t => by rw [Rw.vs, vs_map t]; rfl
mutual
/-- a row and all within it -/
def Rw.flat : Rw → List Rw
  | .set n e => [.set n e]
  | .say e => [.say e]
  | .call n w as m => [.call n w as m]
  | .when e a b => .when e a b :: (flats a ++ flats b)
  | .turn e b => .turn e b :: flats b
def flats : List Rw → List Rw
  | [] => []
  | r :: t => r.flat ++ flats t
end
mutual
def Rw.dp : Rw → Nat
  | .set _ _ => 1
  | .say _ => 1
  | .call _ _ _ _ => 1
  | .when _ a b => max (dps a) (dps b) + 1
  | .turn _ b => dps b + 1
def dps : List Rw → Nat
  | [] => 0
  | r :: t => max r.dp (dps t)
end
def Rw.within : Rw → List Rw
  | .when _ a b => a ++ b
  | .turn _ b => b
  | _ => []
theorem flats_append : ∀ (a b : List Rw), flats (a ++ b) = flats a ++ flats b
  | [], b => rfl
  | r :: t, b => by rw [List.cons_append, flats, flats, flats_append t b, List.append_assoc]
theorem dps_append : ∀ (a b : List Rw), dps (a ++ b) = max (dps a) (dps b)
  | [], b => by simp [dps]
  | r :: t, b => by rw [List.cons_append, dps, dps, dps_append t b]; omega
theorem Rw.flat_eq (r : Rw) : r.flat = r :: flats r.within := by
  cases r <;> simp [Rw.flat, Rw.within, flats, flats_append]
theorem Rw.dp_eq (r : Rw) : r.dp = dps r.within + 1 := by
  cases r <;> simp [Rw.dp, Rw.within, dps, dps_append]
theorem flats_len : ∀ l : List Rw, l.length ≤ (flats l).length
  | [] => Nat.le_refl 0
  | r :: t => by
    have := flats_len t
    rw [flats, r.flat_eq]
    simp
    omega
theorem flats_mem : ∀ {l : List Rw} {r : Rw}, r ∈ l → r ∈ flats l
  | a :: t, r, h => by
    rw [flats]
    rcases List.mem_cons.mp h with e | e
    · rw [e, a.flat_eq]; simp
    · exact List.mem_append_right _ (flats_mem e)
def Rw.mark : Rw → Option Int
  | .call _ _ _ m => some m
  | _ => none
/-- the marks in reading order -/
def mks (l : List Rw) : List Int := (flats l).filterMap Rw.mark
theorem mks_append (a b : List Rw) : mks (a ++ b) = mks a ++ mks b := by unfold mks; rw [flats_append, List.filterMap_append]
theorem mks_cons (r : Rw) (t : List Rw) : mks (r :: t) = r.flat.filterMap Rw.mark ++ mks t := by unfold mks; rw [flats, List.filterMap_append]
/-- an expression as they are drawn -/
structure ExOk (names : List Str) (e : Ex) : Prop where
  small : e.small
  deep : e.deep ≤ 3
  names : ∀ s ∈ e.names, s ∈ names
def Rw.ok (names : List Str) (hs : List (Str × List Str)) : Rw → Prop
  | .set n e => n ∈ names ∧ ExOk names e
  | .say e => ExOk names e
  | .call n w as m => n ∈ names ∧ (∀ e ∈ as, ExOk names e) ∧ (∃ ps, (w, ps) ∈ hs ∧ as.length = ps.length) ∧ 0 ≤ m ∧ m < 100
  | .when e _ _ => ExOk names e
  | .turn e _ => ExOk names e
def RwsOk (names : List Str) (hs : List (Str × List Str)) (l : List Rw) : Prop := ∀ r ∈ flats l, r.ok names hs
theorem Ex.dep_le : ∀ e : Ex, dep e.v ≤ e.deep
  | .num _ => by simp [Ex.v, dep, depL, Ex.deep]
  | .nam _ => by simp [Ex.v, dep, depL, Ex.deep]
  | .op w a b => by
    have := Ex.dep_le a
    have := Ex.dep_le b
    simp only [Ex.v, dep, depL, Ex.deep]
    omega
mutual
theorem Rw.plain : ∀ r : Rw, Mi.plain r.v = true
  | .set n e => by simp [Rw.v, Mi.plain, Mi.plainL, Ex.plain]
  | .say e => by simp [Rw.v, Mi.plain, Mi.plainL, Ex.plain]
  | .call n w as m => by
    have : plainL (as.map Ex.v) = true := plainL_iff.mpr fun v hv => by obtain ⟨e, _, rfl⟩ := List.mem_map.mp hv; exact Ex.plain e
    simp [Rw.v, Mi.plain, Mi.plainL, this]
  | .when e a b => by simp [Rw.v, Mi.plain, Mi.plainL, Ex.plain, Rw.plains a, Rw.plains b]
  | .turn e b => by simp [Rw.v, Mi.plain, Mi.plainL, Ex.plain, Rw.plains b]
theorem Rw.plains : ∀ l : List Rw, Mi.plainL (Rw.vs l) = true
  | [] => rfl
  | r :: t => by simp [Rw.vs, Mi.plainL, Rw.plain r, Rw.plains t]
end
def Rw.low : Rw → Prop
  | .set _ e => e.deep ≤ 3
  | .say e => e.deep ≤ 3
  | .call _ _ as _ => ∀ e ∈ as, e.deep ≤ 3
  | .when e _ _ => e.deep ≤ 3
  | .turn e _ => e.deep ≤ 3
theorem Rw.ok.low {names : List Str} {hs : List (Str × List Str)} {r : Rw} (h : r.ok names hs) : r.low := by
  cases r with
  | set n e => exact h.2.deep
  | say e => exact h.deep
  | call n w as m => exact fun e he => (h.2.1 e he).deep
  | when e a b => exact h.deep
  | turn e b => exact h.deep
mutual
theorem Rw.dep_le : ∀ r : Rw, (∀ q ∈ r.flat, q.low) → dep r.v ≤ 2 * r.dp + 3
  | .set n e, h => by
    have h1 : e.deep ≤ 3 := h (.set n e) (by simp [Rw.flat])
    have := e.dep_le
    simp only [Rw.v, dep, depL, Rw.dp]; omega
  | .say e, h => by
    have h1 : e.deep ≤ 3 := h (.say e) (by simp [Rw.flat])
    have := e.dep_le
    simp only [Rw.v, dep, depL, Rw.dp]; omega
  | .call n w as m, h => by
    have h1 : ∀ e ∈ as, e.deep ≤ 3 := h (.call n w as m) (by simp [Rw.flat])
    have h2 : depL (as.map Ex.v) ≤ 3 := depL_le.mpr fun v hv => by
      obtain ⟨e, he, rfl⟩ := List.mem_map.mp hv
      have := e.dep_le
      have := h1 e he
      omega
    simp only [Rw.v, dep, depL, Rw.dp]; omega
  | .when e a b, h => by
    have h1 : e.deep ≤ 3 := h (.when e a b) (by simp [Rw.flat])
    have := e.dep_le
    have h2 := Rw.deps_le a fun q hq => h q (by simp [Rw.flat, hq])
    have h3 := Rw.deps_le b fun q hq => h q (by simp [Rw.flat, hq])
    simp only [Rw.v, dep, depL, Rw.dp]; omega
  | .turn e b, h => by
    have h1 : e.deep ≤ 3 := h (.turn e b) (by simp [Rw.flat])
    have := e.dep_le
    have h3 := Rw.deps_le b fun q hq => h q (by simp [Rw.flat, hq])
    simp only [Rw.v, dep, depL, Rw.dp]; omega
theorem Rw.deps_le : ∀ l : List Rw, (∀ q ∈ flats l, q.low) → depL (Rw.vs l) ≤ 2 * dps l + 3
  | [], h => by simp [Rw.vs, depL]
  | r :: t, h => by
    have h2 := Rw.dep_le r fun q hq => h q (by simp [flats, hq])
    have h3 := Rw.deps_le t fun q hq => h q (by simp [flats, hq])
    simp only [Rw.vs, depL, dps]; omega
end
mutual
theorem Rw.sub : ∀ (x : Rw) {r : Rw}, r ∈ x.flat → (∀ q ∈ r.flat, q ∈ x.flat) ∧ r.dp ≤ x.dp
  | .set n e, r, h => by simp [Rw.flat] at h; subst h; exact ⟨fun _ h => h, Nat.le_refl _⟩
  | .say e, r, h => by simp [Rw.flat] at h; subst h; exact ⟨fun _ h => h, Nat.le_refl _⟩
  | .call n w as m, r, h => by simp [Rw.flat] at h; subst h; exact ⟨fun _ h => h, Nat.le_refl _⟩
  | .when e a b, r, h => by
    rw [Rw.flat] at h
    rcases List.mem_cons.mp h with h | h
    · subst h; exact ⟨fun _ h => h, Nat.le_refl _⟩
    · rcases List.mem_append.mp h with h | h
      · have := flats_sub a h
        exact ⟨fun q hq => by rw [Rw.flat]; exact List.mem_cons_of_mem _ (List.mem_append_left _ (this.1 q hq)), by have := this.2; simp only [Rw.dp]; omega⟩
      · have := flats_sub b h
        exact ⟨fun q hq => by rw [Rw.flat]; exact List.mem_cons_of_mem _ (List.mem_append_right _ (this.1 q hq)), by have := this.2; simp only [Rw.dp]; omega⟩
  | .turn e b, r, h => by
    rw [Rw.flat] at h
    rcases List.mem_cons.mp h with h | h
    · subst h; exact ⟨fun _ h => h, Nat.le_refl _⟩
    · have := flats_sub b h
      exact ⟨fun q hq => by rw [Rw.flat]; exact List.mem_cons_of_mem _ (this.1 q hq), by have := this.2; simp only [Rw.dp]; omega⟩
theorem flats_sub : ∀ (l : List Rw) {r : Rw}, r ∈ flats l → (∀ q ∈ r.flat, q ∈ flats l) ∧ r.dp ≤ dps l
  | [], r, h => by simp [flats] at h
  | x :: t, r, h => by
    rw [flats] at h
    rcases List.mem_append.mp h with h | h
    · have := Rw.sub x h
      exact ⟨fun q hq => by rw [flats]; exact List.mem_append_left _ (this.1 q hq), by have := this.2; simp only [dps]; omega⟩
    · have := flats_sub t h
      exact ⟨fun q hq => by rw [flats]; exact List.mem_append_right _ (this.1 q hq), by have := this.2; simp only [dps]; omega⟩
end
theorem flats_dep {l : List Rw} (h : ∀ q ∈ flats l, q.low) : depL (Rw.vs (flats l)) ≤ 2 * dps l + 3 := by
  rw [vs_map]
  refine depL_le.mpr fun v hv => ?_
  obtain ⟨r, hr, rfl⟩ := List.mem_map.mp hv
  have h1 := flats_sub l hr
  have h2 := r.dep_le fun q hq => h q (h1.1 q hq)
  omega
structure Dd where
  name : Str
  ps : List Str
  rows : List Rw
  give : Ex
def Dd.v (d : Dd) : Val := .tup [.str d.name, .tup (d.ps.map Val.str), .tup (Rw.vs d.rows), d.give.v]
theorem Dd.plain (d : Dd) : Mi.plain d.v = true := by
  have h := plainL_strs d.ps
  simp [Dd.v, Mi.plain, Mi.plainL, Rw.plains, Ex.plain, h.1]
def Dd.head (d : Dd) : Str × List Str := (d.name, d.ps)
def headV (h : Str × List Str) : Val := .tup [.str h.1, .tup (h.2.map Val.str)]
def bmks (b : List Dd) : List Int := (b.map fun d => mks d.rows).flatten
/-- a deed as they are drawn -/
structure DdOk (names : List Str) (hs : List (Str × List Str)) (d : Dd) : Prop where
  rows : RwsOk names hs d.rows
  dp : dps d.rows ≤ 3
  len : (flats d.rows).length ≤ 20
  give : ExOk names d.give
  nd : d.ps.Nodup
  pl : d.ps.length ≤ 4
  sub : ∀ s ∈ d.ps, s ∈ names
theorem DdOk.dep {names : List Str} {hs : List (Str × List Str)} {d : Dd} (h : DdOk names hs d) : dep d.v ≤ 12 := by
  have h1 := Rw.deps_le d.rows fun q hq => (h.rows q hq).low
  have h2 := plainL_strs d.ps
  have h3 := h.give.deep
  have h4 := d.give.dep_le
  have h5 := h.dp
  simp only [Dd.v, Mi.dep, depL, h2.2]
  omega
structure BkOk (names : List Str) (b : List Dd) : Prop where
  ne : b ≠ []
  len : b.length ≤ 8
  nm : (b.map Dd.name).Nodup
  dd : ∀ d ∈ b, DdOk names (b.map Dd.head) d
  mn : (bmks b).Nodup
  mkl : (bmks b).length ≤ 10
  wl : ∀ d ∈ b, d.name.length ≤ 12
  nn : names.Nodup
  nl : names.length ≤ 6
  nok : ∀ s ∈ names, nmOk s
theorem bk_plain (b : List Dd) : plainL (b.map Dd.v) = true := plainL_iff.mpr fun v hv => by obtain ⟨d, _, rfl⟩ := List.mem_map.mp hv; exact d.plain
theorem BkOk.dep {names : List Str} {b : List Dd} (h : BkOk names b) : depL (b.map Dd.v) ≤ 12 := depL_le.mpr fun v hv => by obtain ⟨d, hd, rfl⟩ := List.mem_map.mp hv; exact (h.dd d hd).dep
/-- what stands between two statements -/
theorem w_seq_inv {Φ : Ph} (hΦ : MonoP Φ) (I : Env → Mu → Prop) {a b : S} {env : Env} {μ : Mu} {D : En} (h1 : wpS Φ a env μ { D with nx := I }) (h2 : ∀ e m, I e m → wpS Φ b e m D) : wpS Φ (.seq a b) env μ D := by
  rw [w_seq]
  exact wpS_mono hΦ a env μ { D with nx := I } _ ⟨h2, fun _ _ z => z, fun _ _ _ z => z⟩ h1
/-! loops over data of one kind -/
theorem for_T {α : Type} (g : α → Val) (xs : List α) {Φ : Ph} (hΦ : MonoP Φ) {t : Tg} {it : It} {b : S} {env : Env} {μ : Mu} {D : En}
    (h : wpI Φ it env μ (fun l a μ1 => l = xs.map g ∧ ∃ I : List α → Env → Mu → Prop, I [] env μ1 ∧
      (∀ ys x zs env' μ', xs = ys ++ x :: zs → I ys env' μ' → gOk a μ' ∧ brV (t.asg (g x) env') fun env2 => wpS Φ b env2 μ' { D with nx := fun e m => I (ys ++ [x]) e m }) ∧
      (∀ env' μ', I xs env' μ' → gOk a μ' ∧ D.nx env' μ')) fun x μ' => D.ex x env μ') : wpS Φ (.forS t it b) env μ D := by
  refine for_rule hΦ (wpI_mono hΦ it env μ _ _ _ _ (fun l a μ1 ⟨hl, I, h0, hs, he⟩ => ?_) (fun _ _ z => z) h)
  subst hl
  refine ⟨fun done env' μ' => ∃ ys zs, xs = ys ++ zs ∧ done = ys.map g ∧ I ys env' μ', ⟨[], xs, rfl, rfl, h0⟩, ?_, ?_⟩
  · rintro done v rest env' μ' e ⟨ys, zs, hx, rfl, hI⟩
    obtain ⟨x, zs', rfl, rfl⟩ := split_map e hx
    obtain ⟨h1, h2⟩ := hs ys x zs' env' μ' hx hI
    refine ⟨h1, ?_⟩
    cases ha : t.asg (g x) env' with
    | none => rw [ha] at h2; exact h2.elim
    | some env2 =>
      rw [ha] at h2
      exact wpS_mono hΦ b env2 μ' { D with nx := fun e m => I (ys ++ [x]) e m } _ ⟨fun e m z => ⟨ys ++ [x], zs', by rw [hx]; simp, by simp, z⟩, fun _ _ z => z, fun _ _ _ z => z⟩ h2
  · rintro env' μ' ⟨ys, zs, hx, e, hI⟩
    have hz : zs = [] := by
      have := congrArg List.length e
      rw [hx] at this
      simp at this
      exact this
    subst hz
    rw [List.append_nil] at hx
    subst hx
    exact he _ _ hI
theorem comp_T {α : Type} (g : α → Val) (xs : List α) {Φ : Ph} (hΦ : MonoP Φ) {elt : E} {tg : Tg} {own : List Nat} {it : It} {cond : E} {env : Env} {μ : Mu} {Q : Val → Mu → Prop} {X : XQ}
    (h : wpI Φ it env μ (fun l a μ1 => l = xs.map g ∧ ∃ I : List α → List Val → Mu → Prop, I [] [] μ1 ∧
      (∀ ys x zs acc μ', xs = ys ++ x :: zs → I ys acc μ' → gOk a μ' ∧ brV (tg.asg (g x) (wipe env own)) fun env' =>
        wpE Φ cond env' μ' (fun t μ3 => br (truthV μ3 t) (wpE Φ elt env' μ3 (fun y μ4 => acc.length < big ∧ I (ys ++ [x]) (acc ++ [y]) μ4) fun _ _ => False) (I (ys ++ [x]) acc μ3)) fun _ _ => False) ∧
      (∀ acc μ', I xs acc μ' → gOk a μ' ∧ Q (.lst acc) μ')) X) : wpE Φ (.comp elt tg own it cond) env μ Q X := by
  refine comp_inv hΦ (wpI_mono hΦ it env μ _ _ _ _ (fun l a μ1 ⟨hl, I, h0, hs, he⟩ => ?_) (fun _ _ z => z) h)
  subst hl
  refine ⟨fun done acc μ' => ∃ ys zs, xs = ys ++ zs ∧ done = ys.map g ∧ I ys acc μ', ⟨[], xs, rfl, rfl, h0⟩, ?_, ?_⟩
  · rintro done v rest acc μ' e ⟨ys, zs, hx, rfl, hI⟩
    obtain ⟨x, zs', rfl, rfl⟩ := split_map e hx
    obtain ⟨h1, h2⟩ := hs ys x zs' acc μ' hx hI
    refine ⟨h1, ?_⟩
    cases ha : tg.asg (g x) (wipe env own) with
    | none => rw [ha] at h2; exact h2.elim
    | some env' =>
      rw [ha] at h2
      refine wpE_mono hΦ cond env' μ' _ _ _ _ (fun t μ3 z => ?_) (fun _ _ z => z) h2
      cases ht : truthV μ3 t with
      | none => rw [ht] at z; exact z.elim
      | some b =>
        rw [ht] at z
        cases b with
        | false => exact ⟨ys ++ [x], zs', by rw [hx]; simp, by simp, z⟩
        | true => exact wpE_mono hΦ elt env' μ3 _ _ _ _ (fun y μ4 y2 => ⟨y2.1, ys ++ [x], zs', by rw [hx]; simp, by simp, y2.2⟩) (fun _ _ z => z) z
  · rintro acc μ' ⟨ys, zs, hx, e, hI⟩
    have hz : zs = [] := by
      have := congrArg List.length e
      rw [hx] at this
      simp at this
      exact this
    subst hz
    rw [List.append_nil] at hx
    subst hx
    exact he _ _ hI
def enumT {α : Type} (i : Int) : List α → List (Int × α)
  | [] => []
  | v :: r => (i, v) :: enumT (i + 1) r
theorem enum_map {α : Type} (g : α → Val) : ∀ (l : List α) (i : Int), enumL i (l.map g) = (enumT i l).map fun p => .tup [.int p.1, g p.2]
  | [], i => rfl
  | v :: r, i => by rw [List.map_cons, enumL, enumT, List.map_cons, enum_map g r (i + 1)]
theorem enumT_at {α : Type} : ∀ {l : List α} {i : Int} {ys : List (Int × α)} {x : Int × α} {zs : List (Int × α)}, enumT i l = ys ++ x :: zs → x.1 = i + ys.length ∧ ∃ l1 l2, l = l1 ++ x.2 :: l2 ∧ ys = enumT i l1 ∧ l1.length = ys.length
  | [], i, ys, x, zs, h => by cases ys <;> cases h
  | v :: r, i, [], x, zs, h => by
    rw [enumT, List.nil_append] at h
    injection h with h1 h2
    subst h1
    exact ⟨by simp, [], r, rfl, rfl, rfl⟩
  | v :: r, i, y :: ys, x, zs, h => by
    rw [enumT, List.cons_append] at h
    injection h with h1 h2
    obtain ⟨e, l1, l2, hl, hy, hlen⟩ := enumT_at h2
    subst h1
    refine ⟨by rw [e]; simp; omega, v :: l1, l2, by rw [hl]; rfl, by rw [enumT, hy], by simp [hlen]⟩
theorem enumT_snd {α : Type} : ∀ (l : List α) (i : Int), (enumT i l).map Prod.snd = l
  | [], _ => rfl
  | v :: r, i => by rw [enumT, List.map_cons, enumT_snd r]
theorem ints_map (i : Int) (n : Nat) : intsFrom i n = (List.range n).map fun (k : Nat) => Val.int (i + (k : Int)) := rfl
theorem range_at {n : Nat} {ys zs : List Nat} {x : Nat} (h : List.range n = ys ++ x :: zs) : x = ys.length ∧ x < n ∧ ys = List.range x := by
  have h1 : (List.range n)[ys.length]? = some x := by rw [h]; simp
  have h2 : ys.length < n := by
    have := congrArg List.length h
    simp at this
    omega
  rw [List.getElem?_range h2] at h1
  cases h1
  refine ⟨rfl, h2, ?_⟩
  have h3 := congrArg (List.take ys.length) h
  rw [List.take_range, List.take_left'] at h3
  · exact h3.symm.trans (by rw [Nat.min_eq_left (Nat.le_of_lt h2)])
  · rfl
end Mi
/-! Le: the functions about books. -/
namespace Mi
open PySem (Str)
theorem cut_keep {μ μ' : Mu} (h : ∀ a, (μ a).isSome = true → μ' a = μ a) : μ'.cut μ = μ := by
  funext c
  unfold Mu.cut
  cases hz : μ c with
  | none => simp
  | some v =>
    have := h c (by rw [hz]; rfl)
    simp [this, hz]
theorem isSome_ne {μ : Mu} {a r : Ad} (h : (μ a).isSome = true) (hr : μ r = none) : a ≠ r := fun e => by rw [e, hr] at h; cases h
theorem vs_nr (l : List Rw) : nrL (Rw.vs l) = true := plainL_nr (Rw.plains l)
theorem vs_append (a b : List Rw) : Rw.vs (a ++ b) = Rw.vs a ++ Rw.vs b := by rw [vs_map, vs_map, vs_map, List.map_append]
theorem vs_len (a : List Rw) : (Rw.vs a).length = a.length := by rw [vs_map, List.length_map]
theorem flats_snoc (ys : List Rw) (x : Rw) : flats (ys ++ [x]) = flats ys ++ x :: flats x.within := by rw [flats_append, flats, flats, List.append_nil, x.flat_eq]
section
variable {P : Prog} {n : Nat} {μ : Mu} {Q : Val → Mu → Prop} {X : XQ} {p : Ad}
theorem rows_within_ok (h : P "rows_within" = some D.rows_within) (r : Rw) (hl : r.flat.length ≤ 1000000) (hn : 1 ≤ n) (q : Q (.tup (Rw.vs r.within)) μ) : phi P n "rows_within" .val [r.v] μ Q X := by
  obtain ⟨n, rfl⟩ : ∃ k, n = k + 1 := ⟨n - 1, by omega⟩
  refine call_ok h rfl ?_
  cases r with
  | set x e => simp [D.rows_within, e_v, e_c, e_tup, e_lst, e_dct, s_nil, s_cons, e_ix, e_sl, e_bin, e_cmp, e_eq, e_ne, e_in, e_nin, e_isN, e_notN, e_chain, e_neg, e_not, e_and, e_or, e_ite, e_call, e_bi, e_me, e_isT, e_new, e_attr, e_mth, e_mk, w_setattr, w_skip, w_ex, w_asg, w_asgT, w_setix, w_ite, w_ret, w_raise, w_seq, Rw.v]; exact q
  | say e => simp [D.rows_within, e_v, e_c, e_tup, e_lst, e_dct, s_nil, s_cons, e_ix, e_sl, e_bin, e_cmp, e_eq, e_ne, e_in, e_nin, e_isN, e_notN, e_chain, e_neg, e_not, e_and, e_or, e_ite, e_call, e_bi, e_me, e_isT, e_new, e_attr, e_mth, e_mk, w_setattr, w_skip, w_ex, w_asg, w_asgT, w_setix, w_ite, w_ret, w_raise, w_seq, Rw.v]; exact q
  | call x w as m => simp [D.rows_within, e_v, e_c, e_tup, e_lst, e_dct, s_nil, s_cons, e_ix, e_sl, e_bin, e_cmp, e_eq, e_ne, e_in, e_nin, e_isN, e_notN, e_chain, e_neg, e_not, e_and, e_or, e_ite, e_call, e_bi, e_me, e_isT, e_new, e_attr, e_mth, e_mk, w_setattr, w_skip, w_ex, w_asg, w_asgT, w_setix, w_ite, w_ret, w_raise, w_seq, Rw.v]; exact q
  | when e a b =>
    have h1 := flats_len a
    have h2 := flats_len b
    simp [Rw.flat] at hl
    simp [D.rows_within, e_v, e_c, e_tup, e_lst, e_dct, s_nil, s_cons, e_ix, e_sl, e_bin, e_cmp, e_eq, e_ne, e_in, e_nin, e_isN, e_notN, e_chain, e_neg, e_not, e_and, e_or, e_ite, e_call, e_bi, e_me, e_isT, e_new, e_attr, e_mth, e_mk, w_setattr, w_skip, w_ex, w_asg, w_asgT, w_setix, w_ite, w_ret, w_raise, w_seq, Rw.v, vs_len, big_eq]
    refine ⟨by omega, ?_⟩
    rw [← vs_append]; exact q
  | turn e b => simp [D.rows_within, e_v, e_c, e_tup, e_lst, e_dct, s_nil, s_cons, e_ix, e_sl, e_bin, e_cmp, e_eq, e_ne, e_in, e_nin, e_isN, e_notN, e_chain, e_neg, e_not, e_and, e_or, e_ite, e_call, e_bi, e_me, e_isT, e_new, e_attr, e_mth, e_mk, w_setattr, w_skip, w_ex, w_asg, w_asgT, w_setix, w_ite, w_ret, w_raise, w_seq, Rw.v]; exact q
structure BkP (P : Prog) : Prop where
  w : P "rows_within" = some D.rows_within
  r : P "read_through" = some D.read_through
def resV (m : Md) (μ : Mu) (Q : Val → Mu → Prop) (v : Val) : Prop := match m with
  | .obj => ∀ r, μ r = none → Q (.ref r) (μ.set r v)
  | _ => Q v μ
theorem fin_res {m : Md} (hm : m = .val ∨ m = .obj) {r : Ad} {v : Val} (hr : μ r = none) (hn : nr v = true) (q : resV m μ Q v) : finM m μ Q (.ref r) (μ.set r v) := by
  rcases hm with rfl | rfl
  · rw [fin_new hr hn]; exact q
  · rw [fin_obj hr]; exact q r hr
theorem read_through_any (h : BkP P) : ∀ (d : Nat) (m : Md) (hm : m = .val ∨ m = .obj) (rows : List Rw) (n : Nat) (μ : Mu) (Q : Val → Mu → Prop) (X : XQ), dps rows ≤ d → (flats rows).length ≤ 1000000 → d + 1 ≤ n →
    resV m μ Q (.lst (Rw.vs (flats rows))) → phi P n "read_through" m [.tup (Rw.vs rows)] μ Q X := by
  intro d
  induction d with
  | zero => ?_
  | succ d ih => ?_
  all_goals
    intro m hm rows n μ Q X hd hl hn q
    obtain ⟨n, rfl⟩ : ∃ k, n = k + 1 := ⟨n - 1, by omega⟩
    have hΦ := phi_mono P n
    refine call_ok h.r rfl ?_
    simp [D.read_through, e_v, e_c, e_tup, e_lst, e_dct, s_nil, s_cons, e_ix, e_sl, e_bin, e_cmp, e_eq, e_ne, e_in, e_nin, e_isN, e_notN, e_chain, e_neg, e_not, e_and, e_or, e_ite, e_call, e_bi, e_me, e_isT, e_new, e_attr, e_mth, e_mk, w_setattr, w_skip, w_ex, w_asg, w_asgT, w_setix, w_ite, w_ret, w_raise, w_seq]
    intro r hr
    refine for_T Rw.v rows hΦ (i_e ?_ hΦ)
    simp [e_v, e_c, e_tup, e_lst, e_dct, s_nil, s_cons, e_ix, e_sl, e_bin, e_cmp, e_eq, e_ne, e_in, e_nin, e_isN, e_notN, e_chain, e_neg, e_not, e_and, e_or, e_ite, e_call, e_bi, e_me, e_isT, e_new, e_attr, e_mth, e_mk, w_setattr, w_skip, w_ex, w_asg, w_asgT, w_setix, w_ite, w_ret, w_raise]
    refine ⟨vs_map _, fun ys env' μ' => ∃ (o : Option Val), env' = [some (.tup (Rw.vs rows)), some (.ref r), o] ∧ μ' = μ.set r (.lst (Rw.vs (flats ys))), ⟨none, rfl, by simp [flats, Rw.vs]⟩, ?_, ?_⟩
  · rintro ys x zs env' μ' e ⟨o, rfl, rfl⟩
    have : dps rows = max (dps ys) (max x.dp (dps zs)) := by rw [e, dps_append, dps]
    have := x.dp_eq
    omega
  · rintro env' μ' ⟨o, rfl, rfl⟩
    refine ⟨trivial, ?_⟩
    simp [e_v, e_c, e_tup, e_lst, e_dct, s_nil, s_cons, e_ix, e_sl, e_bin, e_cmp, e_eq, e_ne, e_in, e_nin, e_isN, e_notN, e_chain, e_neg, e_not, e_and, e_or, e_ite, e_call, e_bi, e_me, e_isT, e_new, e_attr, e_mth, e_mk, w_setattr, w_skip, w_ex, w_asg, w_asgT, w_setix, w_ite, w_ret, w_raise]
    exact fin_res hm hr (by show nrL _ = true; exact vs_nr _) q
  · rintro ys x zs env' μ' e ⟨o, rfl, rfl⟩
    refine ⟨trivial, ?_⟩
    have e1 : dps rows = max (dps ys) (max x.dp (dps zs)) := by rw [e, dps_append, dps]
    have e2 := x.dp_eq
    have e3 : flats rows = flats ys ++ (x :: flats x.within) ++ flats zs := by rw [e, flats_append, flats, x.flat_eq, List.append_assoc]
    have e4 : (flats rows).length = (flats ys).length + ((flats x.within).length + 1) + (flats zs).length := by rw [e3]; simp; omega
    have e5 : x.flat.length = (flats x.within).length + 1 := by rw [x.flat_eq]; simp
    have er : (μ.set r (.lst (Rw.vs (flats ys)))) r = some (.lst (Rw.vs (flats ys))) := mset_same
    simp [w_seq, e_v, e_c, e_tup, e_lst, e_dct, s_nil, s_cons, e_ix, e_sl, e_bin, e_cmp, e_eq, e_ne, e_in, e_nin, e_isN, e_notN, e_chain, e_neg, e_not, e_and, e_or, e_ite, e_call, e_bi, e_me, e_isT, e_new, e_attr, e_mth, e_mk, w_setattr, w_skip, w_ex, w_asg, w_asgT, w_setix, w_ite, w_ret, w_raise]
    rw [ok_append er, me_append er]
    simp [vs_len, big_eq]
    refine ⟨by omega, ?_⟩
    have er2 : (μ.set r (.lst (Rw.vs (flats ys) ++ [x.v]))) r = some (.lst (Rw.vs (flats ys) ++ [x.v])) := mset_same
    rw [ok_extend er2]
    refine ⟨rfl, ?_⟩
    refine rows_within_ok h.w x (by omega) (by omega) ?_
    refine ih .val (.inl rfl) x.within n _ _ _ (by omega) (by omega) (by omega) ?_
    show brV (meV _ _ _ _) _
    rw [me_extend er2 (r := Rw.vs (flats x.within)) rfl]
    simp [vs_len, big_eq]
    refine ⟨by omega, ?_⟩
    rw [flats_snoc, vs_append, Rw.vs]
  · rintro env' μ' ⟨o, rfl, rfl⟩
    refine ⟨trivial, ?_⟩
    simp [e_v, e_c, e_tup, e_lst, e_dct, s_nil, s_cons, e_ix, e_sl, e_bin, e_cmp, e_eq, e_ne, e_in, e_nin, e_isN, e_notN, e_chain, e_neg, e_not, e_and, e_or, e_ite, e_call, e_bi, e_me, e_isT, e_new, e_attr, e_mth, e_mk, w_setattr, w_skip, w_ex, w_asg, w_asgT, w_setix, w_ite, w_ret, w_raise]
    exact fin_res hm hr (by show nrL _ = true; exact vs_nr _) q
def RowsOf (P : Prog) : Prop := P "rows_of" = some D.rows_of ∨ P "rows_of" = some D.rows_of_v2
theorem rows_of_ok (h : BkP P) (hr : RowsOf P) (d : Dd) (hd : dps d.rows ≤ 3) (hl : (flats d.rows).length ≤ 1000000) (hn : 5 ≤ n) (q : Q (.lst (Rw.vs (flats d.rows))) μ) : phi P n "rows_of" .val [d.v] μ Q X := by
  obtain ⟨n, rfl⟩ : ∃ k, n = k + 1 := ⟨n - 1, by omega⟩
  rcases hr with hr | hr
  · refine call_ok hr rfl ?_
    simp [D.rows_of, e_v, e_c, e_tup, e_lst, e_dct, s_nil, s_cons, e_ix, e_sl, e_bin, e_cmp, e_eq, e_ne, e_in, e_nin, e_isN, e_notN, e_chain, e_neg, e_not, e_and, e_or, e_ite, e_call, e_bi, e_me, e_isT, e_new, e_attr, e_mth, e_mk, w_setattr, w_skip, w_ex, w_asg, w_asgT, w_setix, w_ite, w_ret, w_raise, w_seq, Dd.v]
    exact read_through_any h 3 .val (.inl rfl) d.rows n μ _ _ hd hl (by omega) (by simpa [resV] using q)
  · refine call_ok hr rfl ?_
    simp [D.rows_of_v2, e_v, e_c, e_tup, e_lst, e_dct, s_nil, s_cons, e_ix, e_sl, e_bin, e_cmp, e_eq, e_ne, e_in, e_nin, e_isN, e_notN, e_chain, e_neg, e_not, e_and, e_or, e_ite, e_call, e_bi, e_me, e_isT, e_new, e_attr, e_mth, e_mk, w_setattr, w_skip, w_ex, w_asg, w_asgT, w_setix, w_ite, w_ret, w_raise, w_seq, Dd.v]
    refine read_through_any h 3 .obj (.inr rfl) d.rows n μ _ _ hd hl (by omega) fun r hr => ?_
    rw [fin_new hr (by show nrL _ = true; exact vs_nr _)]
    exact q
/-- .. as a list that may be changed -/
theorem rows_of_obj (h : BkP P) (hr : P "rows_of" = some D.rows_of_v2) (d : Dd) (hd : dps d.rows ≤ 3) (hl : (flats d.rows).length ≤ 1000000) (hn : 5 ≤ n) (q : ∀ r, μ r = none → Q (.ref r) (μ.set r (.lst (Rw.vs (flats d.rows))))) : phi P n "rows_of" .obj [d.v] μ Q X := by
  obtain ⟨n, rfl⟩ : ∃ k, n = k + 1 := ⟨n - 1, by omega⟩
  refine call_ok hr rfl ?_
  simp [D.rows_of_v2, e_v, e_c, e_tup, e_lst, e_dct, s_nil, s_cons, e_ix, e_sl, e_bin, e_cmp, e_eq, e_ne, e_in, e_nin, e_isN, e_notN, e_chain, e_neg, e_not, e_and, e_or, e_ite, e_call, e_bi, e_me, e_isT, e_new, e_attr, e_mth, e_mk, w_setattr, w_skip, w_ex, w_asg, w_asgT, w_setix, w_ite, w_ret, w_raise, w_seq, Dd.v]
  refine read_through_any h 3 .obj (.inr rfl) d.rows n μ _ _ hd hl (by omega) fun r hr => ?_
  rw [fin_obj hr]
  exact q r hr
theorem content_set {v x y : Val} {r : Ad} (h : content μ v = some x) (hr : μ r = none) : content (μ.set r y) v = some x := by
  cases v with
  | ref a =>
    have h' : μ a = some x := h
    have : a ≠ r := fun e => by rw [e, hr] at h'; cases h'
    show (μ.set r y) a = _
    rw [mset_ne this]
    exact h'
  | _ => exact h
theorem gOk_of {v : Val} {l : List Val} (h : content μ v = some (.lst l)) : gOk (guard v l) μ := by
  cases v <;> first | trivial | exact h
/-- the deed of a name -/
theorem deed_of_ok (h : P "deed_of" = some D.deed_of) {v : Val} {b : List Dd} (hv : content μ v = some (.lst (b.map Dd.v)) ∨ content μ v = some (.tup (b.map Dd.v))) (hnd : (b.map Dd.name).Nodup) {d : Dd} (hd : d ∈ b) (hn : 1 ≤ n) (q : Q d.v μ) : phi P n "deed_of" .val [v, .str d.name] μ Q X := by
  obtain ⟨n, rfl⟩ : ∃ k, n = k + 1 := ⟨n - 1, by omega⟩
  have hΦ := phi_mono P n
  refine call_ok h rfl ?_
  simp [D.deed_of, e_v, e_c, e_tup, e_lst, e_dct, s_nil, s_cons, e_ix, e_sl, e_bin, e_cmp, e_eq, e_ne, e_in, e_nin, e_isN, e_notN, e_chain, e_neg, e_not, e_and, e_or, e_ite, e_call, e_bi, e_me, e_isT, e_new, e_attr, e_mth, e_mk, w_setattr, w_skip, w_ex, w_asg, w_asgT, w_setix, w_ite, w_ret, w_raise, w_seq]
  refine for_T Dd.v b hΦ (i_e ?_ hΦ)
  simp [e_v, e_c, e_tup, e_lst, e_dct, s_nil, s_cons, e_ix, e_sl, e_bin, e_cmp, e_eq, e_ne, e_in, e_nin, e_isN, e_notN, e_chain, e_neg, e_not, e_and, e_or, e_ite, e_call, e_bi, e_me, e_isT, e_new, e_attr, e_mth, e_mk, w_setattr, w_skip, w_ex, w_asg, w_asgT, w_setix, w_ite, w_ret, w_raise]
  rcases hv with hv | hv
  all_goals
    simp [hv]
    refine ⟨fun ys env' μ' => ∃ o : Option Val, env' = [some v, some (.str d.name), o] ∧ μ' = μ ∧ d ∉ ys, ⟨none, rfl, rfl, by simp⟩, ?_, ?_⟩
    · rintro ys x zs env' μ' e ⟨o, rfl, rfl, hni⟩
      refine ⟨by first | exact gOk_of hv | trivial, ?_⟩
      simp [e_v, e_c, e_tup, e_lst, e_dct, s_nil, s_cons, e_ix, e_sl, e_bin, e_cmp, e_eq, e_ne, e_in, e_nin, e_isN, e_notN, e_chain, e_neg, e_not, e_and, e_or, e_ite, e_call, e_bi, e_me, e_isT, e_new, e_attr, e_mth, e_mk, w_setattr, w_skip, w_ex, w_asg, w_asgT, w_setix, w_ite, w_ret, w_raise, Dd.v]
      refine ⟨fun hx => ?_, fun hx => ⟨hni, fun z => hx (by rw [z])⟩⟩
      have : x = d := by
        rw [e] at hd hnd
        rw [List.map_append, List.map_cons, List.nodup_append, List.nodup_cons] at hnd
        rcases List.mem_append.mp hd with z | z
        · exact (hni z).elim
        · rcases List.mem_cons.mp z with z | z
          · exact z.symm
          · exact (hnd.2.1.1 (by rw [hx]; exact List.mem_map_of_mem z)).elim
      subst this
      exact q
    · rintro env' μ' ⟨o, rfl, rfl, hni⟩
      exact (hni hd).elim
theorem dist_fold_nodup : ∀ (l acc : List Str), (acc ++ l).Nodup → (l.map Val.str).foldl (fun acc v => if acc.any (fun x => keyEq x v) = true then acc else acc ++ [v]) (acc.map Val.str) = (acc ++ l).map Val.str
  | [], acc, _ => by simp
  | s :: r, acc, h => by
    rw [List.map_cons, List.foldl_cons]
    have hs : (acc.map Val.str).any (fun x => keyEq x (.str s)) = false := by
      rw [List.any_eq_false]
      intro x hx
      obtain ⟨a, ha, rfl⟩ := List.mem_map.mp hx
      rw [List.nodup_append] at h
      have := h.2.2 a ha s List.mem_cons_self
      simp [keyEq, this]
    rw [hs]
    have e : (acc ++ [s]) ++ r = acc ++ s :: r := by simp
    have ih := dist_fold_nodup r (acc ++ [s]) (by rw [e]; exact h)
    rw [e] at ih
    simpa using ih
theorem setlen_tup {l : List Str} (h : l.Nodup) (hl : l.length < 4000) : biV μ .setlen [.tup (l.map Val.str)] = some (.int l.length) := by
  show setlenF μ [.tup (l.map Val.str)] = _
  have hk : (l.map Val.str).all isKey = true := by simp
  have e := dist_fold_nodup l [] (by simpa using h)
  have e2 : distK (l.map Val.str) = l.map Val.str := by simpa [distK] using e
  simp only [setlenF, ct_tup]
  rw [if_pos ⟨hk, by simpa using hl⟩, e2, List.length_map]
theorem look_at_names_ok (h : P "look_at_names" = some D.look_at_names) {v : Val} {b : List Dd} (hv : content μ v = some (.lst (b.map Dd.v))) (hnd : (b.map Dd.name).Nodup) (hp : ∀ d ∈ b, d.ps.Nodup ∧ d.ps.length ≤ 4) (hl : b.length ≤ 1000) (hn : 1 ≤ n) (q : Q .non μ) : phi P n "look_at_names" .val [v] μ Q X := by
  obtain ⟨n, rfl⟩ : ∃ k, n = k + 1 := ⟨n - 1, by omega⟩
  have hΦ := phi_mono P n
  refine call_ok h rfl ?_
  simp [D.look_at_names, e_v, e_c, e_tup, e_lst, e_dct, s_nil, s_cons, e_ix, e_sl, e_bin, e_cmp, e_eq, e_ne, e_in, e_nin, e_isN, e_notN, e_chain, e_neg, e_not, e_and, e_or, e_ite, e_call, e_bi, e_me, e_isT, e_new, e_attr, e_mth, e_mk, w_setattr, w_skip, w_ex, w_asg, w_asgT, w_setix, w_ite, w_ret, w_raise, w_seq]
  intro r hr
  refine for_T Dd.v b hΦ (i_e ?_ hΦ)
  have hv1 := fun y => content_set (y := y) hv hr
  simp [e_v, e_c, e_tup, e_lst, e_dct, s_nil, s_cons, e_ix, e_sl, e_bin, e_cmp, e_eq, e_ne, e_in, e_nin, e_isN, e_notN, e_chain, e_neg, e_not, e_and, e_or, e_ite, e_call, e_bi, e_me, e_isT, e_new, e_attr, e_mth, e_mk, w_setattr, w_skip, w_ex, w_asg, w_asgT, w_setix, w_ite, w_ret, w_raise, hv1]
  refine ⟨fun ys env' μ' => ∃ o1 o2 o3 o4 : Option Val, env' = [some v, some (.ref r), o1, o2, o3, o4] ∧ μ' = μ.set r (strsV (ys.map Dd.name)), ⟨_, _, _, _, rfl, rfl⟩, ?_, ?_⟩
  · rintro ys x zs env' μ' e ⟨o1, o2, o3, o4, rfl, rfl⟩
    refine ⟨gOk_of (hv1 _), ?_⟩
    have hx : x ∈ b := by rw [e]; simp
    have h1 := hp x hx
    have hni : x.name ∉ ys.map Dd.name := by
      rw [e, List.map_append, List.map_cons, List.nodup_append] at hnd
      exact fun z => hnd.2.2 _ z _ List.mem_cons_self rfl
    have er : (μ.set r (strsV (ys.map Dd.name))) r = some (.lst ((ys.map Dd.name).map Val.str)) := mset_same
    have hlen : ys.length < 1000 := by have := congrArg List.length e; simp at this; omega
    simp [e_v, e_c, e_tup, e_lst, e_dct, s_nil, s_cons, e_ix, e_sl, e_bin, e_cmp, e_eq, e_ne, e_in, e_nin, e_isN, e_notN, e_chain, e_neg, e_not, e_and, e_or, e_ite, e_call, e_bi, e_me, e_isT, e_new, e_attr, e_mth, e_mk, w_setattr, w_skip, w_ex, w_asg, w_asgT, w_setix, w_ite, w_ret, w_raise, w_seq, Dd.v]
    rw [in_strs (μ := μ.set r (strsV (ys.map Dd.name))) (v := .ref r) (l := ys.map Dd.name) er, setlen_tup h1.1 (by omega), decide_eq_false hni]
    simp
    rw [ok_append er, me_append er]
    simp [big_eq, strsV]
    omega
  · rintro env' μ' ⟨o1, o2, o3, o4, rfl, rfl⟩
    refine ⟨gOk_of (hv1 _), ?_⟩
    exact fin_val rfl (by rw [cut_new hr, cut_self]) q
theorem in_ints {v : Val} {l : List Int} {i : Int} (h : content μ v = some (.lst (l.map Val.int))) : inV μ (.int i) v = some (decide (i ∈ l)) := by
  unfold inV
  rw [h]
  have h1 : plainL (l.map Val.int) = true := plainL_iff.mpr fun v hv => by obtain ⟨x, _, rfl⟩ := List.mem_map.mp hv; rfl
  have h2 : depL (l.map Val.int) ≤ 0 := depL_le.mpr fun v hv => by obtain ⟨x, _, rfl⟩ := List.mem_map.mp hv; exact Nat.le_refl 0
  show (if plain (.int i) = true ∧ plainL (l.map Val.int) = true ∧ min (dep (.int i)) (depL (l.map Val.int)) ≤ 150 then some ((l.map Val.int).any fun y => eqb y (.int i)) else none) = _
  rw [if_pos ⟨rfl, h1, by omega⟩]
  congr 1
  rw [Bool.eq_iff_iff, List.any_map, List.any_eq_true, decide_eq_true_eq]
  constructor
  · rintro ⟨x, hx, e⟩
    have : x = i := by simpa [eqb] using e
    rw [← this]; exact hx
  · exact fun hi => ⟨i, hi, by simp [eqb]⟩
theorem look_at_call_ok (h : P "look_at_call" = some D.look_at_call) (hd : P "deed_of" = some D.deed_of) {v w : Val} {b : List Dd} {mk : List Int} (hv : content μ v = some (.lst (b.map Dd.v))) (hw : content μ w = some (.lst (mk.map Val.int))) (hnd : (b.map Dd.name).Nodup)
    {x : Str} {as : List Ex} {m : Int} {d : Dd} (hb : d ∈ b) (hl : as.length = d.ps.length) (hm : m ∉ mk) (hn : 2 ≤ n) (q : Q .non μ) : phi P n "look_at_call" .val [v, (Rw.call x d.name as m).v, w] μ Q X := by
  obtain ⟨n, rfl⟩ : ∃ k, n = k + 1 := ⟨n - 1, by omega⟩
  refine call_ok h rfl ?_
  simp [D.look_at_call, e_v, e_c, e_tup, e_lst, e_dct, s_nil, s_cons, e_ix, e_sl, e_bin, e_cmp, e_eq, e_ne, e_in, e_nin, e_isN, e_notN, e_chain, e_neg, e_not, e_and, e_or, e_ite, e_call, e_bi, e_me, e_isT, e_new, e_attr, e_mth, e_mk, w_setattr, w_skip, w_ex, w_asg, w_asgT, w_setix, w_ite, w_ret, w_raise, w_seq, Rw.v]
  refine deed_of_ok hd (.inl hv) hnd hb (by omega) ?_
  simp [Dd.v, hl]
  rw [in_ints hw]
  simp [hm]
  exact q
theorem bmks_snoc (ys : List Dd) (x : Dd) : bmks (ys ++ [x]) = bmks ys ++ mks x.rows := by simp [bmks]
structure BkP2 (P : Prog) : Prop extends BkP P where
  ro : RowsOf P
  dof : P "deed_of" = some D.deed_of
  ln : P "look_at_names" = some D.look_at_names
  lc : P "look_at_call" = some D.look_at_call
  mb : P "made_book" = some D.made_book
theorem Rw.kind (r : Rw) : (∃ n w as m, r = .call n w as m) ∨ (r.mark = none ∧ ∃ s t, r.v = .tup (.str s :: t) ∧ (s == Str.ofString "call") = false) := by
  cases r with
  | call n w as m => exact .inl ⟨n, w, as, m, rfl⟩
  | set n e => exact .inr ⟨rfl, _, _, rfl, by simp⟩
  | say e => exact .inr ⟨rfl, _, _, rfl, by simp⟩
  | when e a b => exact .inr ⟨rfl, _, _, rfl, by simp⟩
  | turn e b => exact .inr ⟨rfl, _, _, rfl, by simp⟩
/-- a fresh book -/
theorem made_book_ok (h : BkP2 P) {v : Val} {names : List Str} {b : List Dd} (hb : BkOk names b) (hv : content μ v = some (.lst (b.map Dd.v))) (hn : 8 ≤ n) (q : Q (.tup (b.map Dd.v)) μ) : phi P n "made_book" .val [v] μ Q X := by
  obtain ⟨n, rfl⟩ : ∃ k, n = k + 1 := ⟨n - 1, by omega⟩
  have hΦ := phi_mono P n
  refine call_ok h.mb rfl ?_
  have hlen := hb.len
  simp [D.made_book, e_v, e_c, e_tup, e_lst, e_dct, s_nil, s_cons, e_ix, e_sl, e_bin, e_cmp, e_eq, e_ne, e_in, e_nin, e_isN, e_notN, e_chain, e_neg, e_not, e_and, e_or, e_ite, e_call, e_bi, e_me, e_isT, e_new, e_attr, e_mth, e_mk, w_setattr, w_skip, w_ex, w_asg, w_asgT, w_setix, w_ite, w_ret, w_raise, w_seq]
  refine look_at_names_ok h.ln hv hb.nm (fun d hd => ⟨(hb.dd d hd).nd, (hb.dd d hd).pl⟩) (by omega) (by omega) ?_
  intro r hr
  have hv1 := fun y => content_set (y := y) hv hr
  refine for_T Dd.v b hΦ (i_e ?_ hΦ)
  simp [e_v, e_c, e_tup, e_lst, e_dct, s_nil, s_cons, e_ix, e_sl, e_bin, e_cmp, e_eq, e_ne, e_in, e_nin, e_isN, e_notN, e_chain, e_neg, e_not, e_and, e_or, e_ite, e_call, e_bi, e_me, e_isT, e_new, e_attr, e_mth, e_mk, w_setattr, w_skip, w_ex, w_asg, w_asgT, w_setix, w_ite, w_ret, w_raise, hv1]
  refine ⟨fun ys env' μ' => ∃ o1 o2 : Option Val, env' = [some v, some (.ref r), o1, o2] ∧ μ' = μ.set r (.lst ((bmks ys).map Val.int)), ⟨_, _, rfl, by simp [bmks]⟩, ?_, ?_⟩
  · rintro ys x zs env' μ' e ⟨o1, o2, rfl, rfl⟩
    refine ⟨gOk_of (hv1 _), ?_⟩
    have hx : x ∈ b := by rw [e]; simp
    have hd := hb.dd x hx
    have hbm : bmks b = bmks ys ++ (mks x.rows ++ bmks zs) := by rw [e]; simp [bmks]
    simp [e_v, e_c, e_tup, e_lst, e_dct, s_nil, s_cons, e_ix, e_sl, e_bin, e_cmp, e_eq, e_ne, e_in, e_nin, e_isN, e_notN, e_chain, e_neg, e_not, e_and, e_or, e_ite, e_call, e_bi, e_me, e_isT, e_new, e_attr, e_mth, e_mk, w_setattr, w_skip, w_ex, w_asg, w_asgT, w_setix, w_ite, w_ret, w_raise]
    refine for_T Rw.v (flats x.rows) hΦ (i_e ?_ hΦ)
    simp [e_v, e_c, e_tup, e_lst, e_dct, s_nil, s_cons, e_ix, e_sl, e_bin, e_cmp, e_eq, e_ne, e_in, e_nin, e_isN, e_notN, e_chain, e_neg, e_not, e_and, e_or, e_ite, e_call, e_bi, e_me, e_isT, e_new, e_attr, e_mth, e_mk, w_setattr, w_skip, w_ex, w_asg, w_asgT, w_setix, w_ite, w_ret, w_raise]
    refine rows_of_ok h.toBkP h.ro x hd.dp (by have := hd.len; omega) (by omega) ?_
    simp
    refine ⟨vs_map _, fun us env' μ' => ∃ o2 : Option Val, env' = [some v, some (.ref r), some x.v, o2] ∧ μ' = μ.set r (.lst ((bmks ys ++ us.filterMap Rw.mark).map Val.int)), ⟨_, rfl, by simp⟩, ?_, ?_⟩
    · rintro us u ws env' μ' eu ⟨o2, rfl, rfl⟩
      refine ⟨trivial, ?_⟩
      have hu : u ∈ flats x.rows := by rw [eu]; simp
      simp [e_v, e_c, e_tup, e_lst, e_dct, s_nil, s_cons, e_ix, e_sl, e_bin, e_cmp, e_eq, e_ne, e_in, e_nin, e_isN, e_notN, e_chain, e_neg, e_not, e_and, e_or, e_ite, e_call, e_bi, e_me, e_isT, e_new, e_attr, e_mth, e_mk, w_setattr, w_skip, w_ex, w_asg, w_asgT, w_setix, w_ite, w_ret, w_raise, w_seq]
      have er : (μ.set r (.lst ((bmks ys ++ us.filterMap Rw.mark).map Val.int))) r = some (.lst ((bmks ys ++ us.filterMap Rw.mark).map Val.int)) := mset_same
      rcases u.kind with ⟨nm, w, as, m, rfl⟩ | ⟨hm, s, t, ev, hs⟩
      · obtain ⟨_, _, ⟨ps, hps, hlps⟩, _, _⟩ := hd.rows _ hu
        obtain ⟨d, hdb, ed⟩ := List.mem_map.mp hps
        cases ed
        have hmk : mks x.rows = us.filterMap Rw.mark ++ m :: ws.filterMap Rw.mark := by unfold mks; rw [eu]; simp [Rw.mark]
        have hnd := hb.mn
        have hml := hb.mkl
        rw [hbm, hmk] at hnd hml
        have hni : m ∉ bmks ys ++ us.filterMap Rw.mark := by
          have e2 : bmks ys ++ (us.filterMap Rw.mark ++ m :: ws.filterMap Rw.mark ++ bmks zs) = (bmks ys ++ us.filterMap Rw.mark) ++ m :: (ws.filterMap Rw.mark ++ bmks zs) := by simp
          rw [e2, List.nodup_append] at hnd
          exact fun z => hnd.2.2 _ z _ List.mem_cons_self rfl
        have e0 : ixV (μ.set r (.lst ((bmks ys ++ us.filterMap Rw.mark).map Val.int))) (Rw.call nm d.name as m).v (.int 0) = some (.str (Str.ofString "call")) := rfl
        have e4 : ∀ μ : Mu, ixV μ (Rw.call nm d.name as m).v (.int 4) = some (.int m) := fun _ => rfl
        rw [← List.map_append, e0]
        simp
        rw [← List.map_append]
        refine look_at_call_ok (w := .ref r) (mk := bmks ys ++ us.filterMap Rw.mark) h.lc h.dof (hv1 _) er hb.nm hdb hlps hni (by omega) ?_
        rw [ok_append er]
        refine ⟨rfl, ?_⟩
        rw [e4]
        simp
        rw [← List.map_append, me_append er]
        simp [big_eq, Rw.mark]
        simp at hml
        omega
      · rw [ev]
        simp [hs, hm]
    · rintro env' μ' ⟨o2, rfl, rfl⟩
      refine ⟨trivial, ?_⟩
      simp [bmks_snoc, mks]
  · rintro env' μ' ⟨o1, o2, rfl, rfl⟩
    refine ⟨gOk_of (hv1 _), ?_⟩
    simp [e_v, e_c, e_tup, e_lst, e_dct, s_nil, s_cons, e_ix, e_sl, e_bin, e_cmp, e_eq, e_ne, e_in, e_nin, e_isN, e_notN, e_chain, e_neg, e_not, e_and, e_or, e_ite, e_call, e_bi, e_me, e_isT, e_new, e_attr, e_mth, e_mk, w_setattr, w_skip, w_ex, w_asg, w_asgT, w_setix, w_ite, w_ret, w_raise]
    have e : biV (μ.set r (.lst ((bmks b).map Val.int))) .tuple [v] = some (.tup (b.map Dd.v)) := by
      show tupleF _ [v] = _
      simp only [tupleF, hv1]
    rw [e]
    simp
    exact fin_val (plainL_nr (bk_plain b)) (by rw [cut_new hr, cut_self]) q
end
end Mi
/-! Lo: runs of rows that call nothing. -/
namespace Mi
open PySem (Str)
/-- a run under way -/
structure Rs where
  held : Hd
  said : List Int
  rows : Int
  rounds : Int
def Rs.begin (s : Rs) : Option Rs := if s.rounds = 1000 then none else some { s with rounds := s.rounds + 1 }
/-- a run gone on: the state, what was raised -/
abbrev Ro := Rs × Option String
def loopN (f : Rs → Ro) : Nat → Rs → Ro
  | 0, s => (s, none)
  | k + 1, s => match f s with
    | (s', none) => loopN f k s'
    | (s', some x) => (s', some x)
def roundOf (f : Rs → Ro) (s : Rs) : Ro := match s.begin with
  | none => (s, some "TooLong")
  | some s' => f s'
def onWorth (e : Ex) (s : Rs) (f : Int → Ro) : Ro := match worth e s.held with
  | none => (s, some "Broken")
  | some v => f v
mutual
def Rw.run : Rw → Rs → Ro
  | .set n e, s => onWorth e s fun v => ({ s with held := hput n v s.held }, none)
  | .say e, s => roundOf (fun s => onWorth e s fun v => ({ s with said := s.said ++ [v] }, none)) s
  | .call _ _ _ _, s => (s, none)
  | .when e a b, s => roundOf (fun s => onWorth e s fun v => if v = 0 then runs b s else runs a s) s
  | .turn e b, s => onWorth e s fun v => loopN (roundOf (runs b)) (v.fmod 10).toNat s
def runs : List Rw → Rs → Ro
  | [], s => (s, none)
  | r :: t, s => match r.run { s with rows := s.rows + 1 } with
    | (s', none) => runs t s'
    | (s', some x) => (s', some x)
end
theorem loop_more {f : Rs → Ro} : ∀ {k : Nat} {s s1 s2 : Rs}, loopN f k s = (s1, none) → f s1 = (s2, none) → loopN f (k + 1) s = (s2, none)
  | 0, s, s1, s2, h, h2 => by
    cases h
    rw [loopN, h2]
    rfl
  | k + 1, s, s1, s2, h, h2 => by
    rw [loopN] at h ⊢
    cases e : f s with
    | mk s' o =>
      rw [e] at h
      cases o with
      | none => exact loop_more h h2
      | some x => cases h
theorem loop_off {f : Rs → Ro} {x : String} : ∀ {i k : Nat} {s s1 s2 : Rs}, loopN f i s = (s1, none) → i < k → f s1 = (s2, some x) → loopN f k s = (s2, some x)
  | 0, 0, _, _, _, _, hk, _ => by omega
  | 0, k + 1, s, s1, s2, h, _, h2 => by
    cases h
    rw [loopN, h2]
  | i + 1, 0, _, _, _, _, hk, _ => by omega
  | i + 1, k + 1, s, s1, s2, h, hk, h2 => by
    rw [loopN] at h ⊢
    cases e : f s with
    | mk s' o =>
      rw [e] at h
      cases o with
      | none => exact loop_off h (by omega) h2
      | some x => cases h
theorem runs_append : ∀ (a b : List Rw) (s : Rs), runs (a ++ b) s = match runs a s with
    | (s', none) => runs b s'
    | (s', some x) => (s', some x)
  | [], b, s => by simp [runs]
  | r :: t, b, s => by
    rw [List.cons_append, runs, runs]
    cases h : r.run { s with rows := s.rows + 1 } with
    | mk s' o =>
      cases o with
      | none => exact runs_append t b s'
      | some x => rfl
theorem runs_one (r : Rw) (s : Rs) : runs [r] s = r.run { s with rows := s.rows + 1 } := by
  rw [runs]
  cases h : r.run { s with rows := s.rows + 1 } with
  | mk s' o => cases o <;> simp [runs]
/-- rows that can be run without calls -/
def Rw.st (names : List Str) : Rw → Prop
  | .set n e => n ∈ names ∧ e.ok ∧ e.deep ≤ 6
  | .say e => e.ok ∧ e.deep ≤ 6
  | .call _ _ _ _ => False
  | .when e _ _ => e.ok ∧ e.deep ≤ 6
  | .turn e _ => e.ok ∧ e.deep ≤ 6
theorem nodup_sub : ∀ {l m : List Str}, l.Nodup → (∀ x ∈ l, x ∈ m) → l.length ≤ m.length
  | [], m, _, _ => Nat.zero_le _
  | a :: l, m, h, hs => by
    have ha : a ∈ m := hs a List.mem_cons_self
    have h2 := List.nodup_cons.mp h
    have := nodup_sub (l := l) (m := m.erase a) h2.2 fun x hx => (List.mem_erase_of_ne (fun e => h2.1 (by rw [← e]; exact hx))).mpr (hs x (List.mem_cons_of_mem _ hx))
    rw [List.length_erase_of_mem ha] at this
    have : 0 < m.length := List.length_pos_of_mem ha
    rw [List.length_cons]
    omega
structure RnAt (r h sd ct ws : Ad) (b : Val) (names : List Str) (s : Rs) (μ : Mu) : Prop where
  obj : μ r = some (.ins "Running" [b, .ref sd, .int s.rows, .int s.rounds, .int 0, .ref ct, .tup [], .ref ws])
  hd : μ h = some (.dct (hdV s.held))
  sd_ : μ sd = some (.lst (s.said.map .int))
  rh : r ≠ h
  rs : r ≠ sd
  hs : h ≠ sd
  ok : okH s.held
  nd : (s.held.map Prod.fst).Nodup
  nm : ∀ k ∈ s.held.map Prod.fst, k ∈ names
  r0 : 0 ≤ s.rounds
  r1 : s.rounds ≤ 1000
  sl : (s.said.length : Int) ≤ s.rounds
def Kp (r h sd : Ad) (μ μ' : Mu) : Prop := ∀ a, a ≠ r → a ≠ h → a ≠ sd → μ' a = μ a
theorem Kp.refl {r h sd : Ad} {μ : Mu} : Kp r h sd μ μ := fun _ _ _ _ => rfl
theorem Kp.trans {r h sd : Ad} {μ μ1 μ2 : Mu} (a : Kp r h sd μ μ1) (b : Kp r h sd μ1 μ2) : Kp r h sd μ μ2 := fun c h1 h2 h3 => (b c h1 h2 h3).trans (a c h1 h2 h3)
section
variable {r h sd ct ws : Ad} {b : Val} {names : List Str} {s s' : Rs} {μ μ' : Mu}
theorem RnAt.cut (R : RnAt r h sd ct ws b names s μ) (k : Kp r h sd μ μ') : μ'.cut μ = μ' := by
  funext a
  unfold Mu.cut
  by_cases e : (μ a).isSome = true
  · rw [if_pos e]
  · rw [if_neg e]
    by_cases e1 : a = r
    · subst e1; rw [R.obj] at e; exact (e rfl).elim
    by_cases e2 : a = h
    · subst e2; rw [R.hd] at e; exact (e rfl).elim
    by_cases e3 : a = sd
    · subst e3; rw [R.sd_] at e; exact (e rfl).elim
    rw [k a e1 e2 e3]
    cases q : μ a with
    | none => rfl
    | some v => rw [q] at e; exact (e rfl).elim
theorem RnAt.hc (R : RnAt r h sd ct ws b names s μ) : content μ (.ref h) = some (.dct (hdV s.held)) := R.hd
theorem RnAt.cls (R : RnAt r h sd ct ws b names s μ) : isIns μ (.ref r) "Running" = true := by simp only [isIns, R.obj]; rfl
theorem RnAt.a_rounds (R : RnAt r h sd ct ws b names s μ) : attrV μ (.ref r) "begun_rounds" = some (.int s.rounds) := by simp only [attrV, R.obj]; rfl
theorem RnAt.a_rows (R : RnAt r h sd ct ws b names s μ) : attrV μ (.ref r) "begun_rows" = some (.int s.rows) := by simp only [attrV, R.obj]; rfl
theorem RnAt.a_said (R : RnAt r h sd ct ws b names s μ) : attrV μ (.ref r) "said" = some (.ref sd) := by simp only [attrV, R.obj]; rfl
theorem RnAt.s_rounds (R : RnAt r h sd ct ws b names s μ) (v : Val) : setAttrV μ (.ref r) "begun_rounds" v = some (μ.set r (.ins "Running" [b, .ref sd, .int s.rows, v, .int 0, .ref ct, .tup [], .ref ws])) := by simp only [setAttrV, R.obj]; rfl
theorem RnAt.s_rows (R : RnAt r h sd ct ws b names s μ) (v : Val) : setAttrV μ (.ref r) "begun_rows" v = some (μ.set r (.ins "Running" [b, .ref sd, v, .int s.rounds, .int 0, .ref ct, .tup [], .ref ws])) := by simp only [setAttrV, R.obj]; rfl
/-- only the counts change -/
theorem RnAt.count (R : RnAt r h sd ct ws b names s μ) {i j : Int} (h0 : s.rounds ≤ j) (h1 : j ≤ 1000) : RnAt r h sd ct ws b names { s with rows := i, rounds := j } (μ.set r (.ins "Running" [b, .ref sd, .int i, .int j, .int 0, .ref ct, .tup [], .ref ws])) where
  obj := mset_same
  hd := by rw [mset_ne R.rh.symm]; exact R.hd
  sd_ := by rw [mset_ne R.rs.symm]; exact R.sd_
  rh := R.rh
  rs := R.rs
  hs := R.hs
  ok := R.ok
  nd := R.nd
  nm := R.nm
  r0 := Int.le_trans R.r0 h0
  r1 := h1
  sl := Int.le_trans R.sl h0
theorem Kp.setr {v : Val} : Kp r h sd μ (μ.set r v) := fun a e _ _ => mset_ne e
theorem Kp.seth {v : Val} : Kp r h sd μ (μ.set h v) := fun a _ e _ => mset_ne e
theorem Kp.sets {v : Val} : Kp r h sd μ (μ.set sd v) := fun a _ _ e => mset_ne e
theorem RnAt.put (R : RnAt r h sd ct ws b names s μ) {n : Str} {v : Int} (hn : n ∈ names) (hv : bd v) : RnAt r h sd ct ws b names { s with held := hput n v s.held } (μ.set h (.dct (hdV (hput n v s.held)))) where
  obj := by rw [mset_ne R.rh]; exact R.obj
  hd := mset_same
  sd_ := by rw [mset_ne R.hs.symm]; exact R.sd_
  rh := R.rh
  rs := R.rs
  hs := R.hs
  ok := hput_okH hv R.ok
  nd := hput_nodup R.nd
  nm := fun k hk => by
    rcases (hput_keys n v s.held k).mp hk with e | e
    · rw [e]; exact hn
    · exact R.nm k e
  r0 := R.r0
  r1 := R.r1
  sl := R.sl
theorem RnAt.tell (R : RnAt r h sd ct ws b names s μ) {v : Int} (hl : (s.said.length : Int) + 1 ≤ s.rounds) : RnAt r h sd ct ws b names { s with said := s.said ++ [v] } (μ.set sd (.lst ((s.said ++ [v]).map .int))) where
  obj := by rw [mset_ne R.rs]; exact R.obj
  hd := by rw [mset_ne R.hs]; exact R.hd
  sd_ := mset_same
  rh := R.rh
  rs := R.rs
  hs := R.hs
  ok := R.ok
  nd := R.nd
  nm := R.nm
  r0 := R.r0
  r1 := R.r1
  sl := by rw [List.length_append]; simpa using hl
theorem RnAt.few (R : RnAt r h sd ct ws b names s μ) (hN : names.length < 1000000) : (hdV s.held).length < big := by
  have h1 : (s.held.map Prod.fst).length ≤ names.length := nodup_sub R.nd R.nm
  rw [big_eq]
  unfold hdV
  rw [List.length_map]
  rw [List.length_map] at h1
  omega
variable {P : Prog} {n : Nat} {Q : Val → Mu → Prop} {X : XQ}
/-- the defs of a run -/
structure RunP (P : Prog) : Prop where
  w : WorthP P
  round : P "Running_begin_round" = some D.Running_begin_round
  rows : P "Running_do_rows" = some D.Running_do_rows
  when : P "Running_do_when" = some D.Running_do_when
  turn : P "Running_do_turn" = some D.Running_do_turn
theorem round_ok (W : RunP P) (R : RnAt r h sd ct ws b names s μ) (hn : 1 ≤ n) (q : ∀ s' μ', s.begin = some s' → RnAt r h sd ct ws b names s' μ' → Kp r h sd μ μ' → (s'.said.length : Int) + 1 ≤ s'.rounds → Q .non μ') (x : s.begin = none → X (.exn "TooLong" []) μ) :
    phi P n "Running_begin_round" .val [.ref r] μ Q X := by
  obtain ⟨n, rfl⟩ : ∃ k, n = k + 1 := ⟨n - 1, by omega⟩
  refine call_ok W.round rfl ?_
  simp [D.Running_begin_round, e_v, e_c, e_tup, e_lst, e_dct, s_nil, s_cons, e_ix, e_sl, e_bin, e_cmp, e_eq, e_ne, e_in, e_nin, e_isN, e_notN, e_chain, e_neg, e_not, e_and, e_or, e_ite, e_call, e_bi, e_me, e_isT, e_new, e_attr, e_mth, e_mk, w_setattr, w_skip, w_ex, w_asg, w_asgT, w_setix, w_ite, w_ret, w_raise, w_seq, R.a_rounds, R.s_rounds]
  refine ⟨fun e => ?_, fun e => ?_⟩
  · have := x (by unfold Rs.begin; rw [if_pos e])
    simpa using this
  · have R' := R.count (i := s.rows) (j := s.rounds + 1) (by omega) (by have := R.r1; omega)
    have k : Kp r h sd μ (μ.set r (.ins "Running" [b, .ref sd, .int s.rows, .int (s.rounds + 1), .int 0, .ref ct, .tup [], .ref ws])) := Kp.setr
    have c := R.cut k
    show Q _ _
    rw [c]
    exact q _ _ (by unfold Rs.begin; rw [if_neg e]) R' k (by have := R.sl; simp; omega)
/-- nothing else: the end of a def that hands back None -/
theorem fin_kp (R : RnAt r h sd ct ws b names s μ) (k : Kp r h sd μ μ') (q : Q .non μ') : finM .val μ Q .non μ' := by
  show Q _ (μ'.cut μ)
  rw [R.cut k]
  exact q
theorem worth_onb {e : Ex} {f : Int → Ro} (h : worth e s.held = none) : onWorth e s f = (s, some "Broken") := by unfold onWorth; rw [h]
theorem worth_on {e : Ex} {f : Int → Ro} {v : Int} (h : worth e s.held = some v) : onWorth e s f = f v := by unfold onWorth; rw [h]
theorem round_off {f : Rs → Ro} (h : s.begin = none) : roundOf f s = (s, some "TooLong") := by unfold roundOf; rw [h]
theorem round_on {f : Rs → Ro} (h : s.begin = some s') : roundOf f s = f s' := by unfold roundOf; rw [h]
def RowsOk (P : Prog) (d : Nat) : Prop := ∀ {r h sd ct ws : Ad} {b : Val} {names : List Str} (l : List Rw) (n : Nat) (s : Rs) (μ : Mu) (Q : Val → Mu → Prop) (X : XQ), names.length < 1000000 → (∀ q ∈ flats l, q.st names) → dps l ≤ d → 2 * d + 8 ≤ n → RnAt r h sd ct ws b names s μ →
  (∀ s' μ', runs l s = (s', none) → RnAt r h sd ct ws b names s' μ' → Kp r h sd μ μ' → Q .non μ') → (∀ s' c μ', runs l s = (s', some c) → RnAt r h sd ct ws b names s' μ' → Kp r h sd μ μ' → X (.exn c []) μ') → phi P n "Running_do_rows" .val [.ref r, .tup (Rw.vs l), .ref h] μ Q X
theorem ex_kp {c : String} (R : RnAt r h sd ct ws b names s μ) (k : Kp r h sd μ μ') (q : X (.exn c []) μ') : X (reso μ μ' 4 (.exn c [])) (μ'.cut μ) := by
  rw [R.cut k, reso_nr rfl]
  exact q
/-- one row -/
theorem row_ok (W : RunP P) {d : Nat} (IH : ∀ d', d' < d → RowsOk P d') {x : Rw} (hN : names.length < 1000000) (hx : ∀ q ∈ x.flat, q.st names) (hd : x.dp ≤ d) (hn : 2 * d + 7 ≤ n) {env : Env} (he : ∃ a, env = [some (.ref r), a, some (.ref h), some x.v]) (R : RnAt r h sd ct ws b names s μ) {G : En}
    (q : ∀ s' μ', x.run { s with rows := s.rows + 1 } = (s', none) → RnAt r h sd ct ws b names s' μ' → Kp r h sd μ μ' → G.nx env μ') (xx : ∀ s' c μ', x.run { s with rows := s.rows + 1 } = (s', some c) → RnAt r h sd ct ws b names s' μ' → Kp r h sd μ μ' → G.ex (.exn c []) env μ') :
    wpS (phi P n) (.seq (.setattr (.v 0) "begun_rows" (.bin .add (.attr (.v 0) "begun_rows") (.c (.int 1))))
  (.ite (.eq .eq (.ix (.v 3) (.c (.int 0))) (.c (.str (Str.ofString "set"))))
  (.setix (.v 2) (.ix (.v 3) (.c (.int 1))) (.call "worth_of" .val (.cons (.ix (.v 3) (.c (.int 2))) (.cons (.v 2) .nil))))
  (.ite (.eq .eq (.ix (.v 3) (.c (.int 0))) (.c (.str (Str.ofString "say"))))
  (.seq (.ex (.mth "Running" (.v 0) "Running_begin_round" .val .nil))
  (.ex (.me .append (.attr (.v 0) "said") (.cons (.call "worth_of" .val (.cons (.ix (.v 3) (.c (.int 1))) (.cons (.v 2) .nil))) .nil))))
  (.ite (.eq .eq (.ix (.v 3) (.c (.int 0))) (.c (.str (Str.ofString "call"))))
  (.ex (.mth "Running" (.v 0) "Running_do_call" .val (.cons (.v 3) (.cons (.v 2) .nil))))
  (.ite (.eq .eq (.ix (.v 3) (.c (.int 0))) (.c (.str (Str.ofString "when"))))
  (.ex (.mth "Running" (.v 0) "Running_do_when" .val (.cons (.v 3) (.cons (.v 2) .nil))))
  (.ex (.mth "Running" (.v 0) "Running_do_turn" .val (.cons (.v 3) (.cons (.v 2) .nil))))))))) env μ G := by
  obtain ⟨a, rfl⟩ := he
  have R1 := R.count (i := s.rows + 1) (j := s.rounds) (by omega) R.r1
  have k1 : Kp r h sd μ (μ.set r (.ins "Running" [b, .ref sd, .int (s.rows + 1), .int s.rounds, .int 0, .ref ct, .tup [], .ref ws])) := Kp.setr
  simp [e_v, e_c, e_tup, e_lst, e_dct, s_nil, s_cons, e_ix, e_sl, e_bin, e_cmp, e_eq, e_ne, e_in, e_nin, e_isN, e_notN, e_chain, e_neg, e_not, e_and, e_or, e_ite, e_call, e_bi, e_me, e_isT, e_new, e_attr, e_mth, e_mk, w_setattr, w_skip, w_ex, w_asg, w_asgT, w_setix, w_ite, w_ret, w_raise, w_seq, R.a_rows, R.s_rows]
  generalize hμ1 : μ.set r (.ins "Running" [b, .ref sd, .int (s.rows + 1), .int s.rounds, .int 0, .ref ct, .tup [], .ref ws]) = μ1 at R1 k1 ⊢
  generalize hs1 : ({ s with rows := s.rows + 1 } : Rs) = s1 at R1 q xx
  have own := hx x (by rw [Rw.flat_eq]; exact List.mem_cons_self)
  cases x with
  | set m e =>
    obtain ⟨o1, o2, o3⟩ := own
    simp [Rw.v]
    refine worth_of_ok W.w R1.hc R1.ok e n _ _ o2 (by omega) (fun v ev => ?_) (fun ev => ?_)
    · rw [set_dct R1.hd rfl (R1.few hN), dPut_hd]
      simp
      exact q _ _ (by rw [Rw.run, worth_on ev]) (R1.put o1 (worth_bd R1.ok o2 ev)) (k1.trans Kp.seth)
    · exact xx _ _ _ (by rw [Rw.run, worth_onb ev]) R1 k1
  | say e =>
    obtain ⟨o2, o3⟩ := own
    simp [Rw.v, R1.cls]
    refine round_ok W R1 (by omega) (fun s2 μ2 e2 R2 k2 l2 => ?_) fun e2 => xx _ _ _ (by rw [Rw.run, round_off e2]) R1 k1
    rw [R2.a_said]
    simp
    refine ⟨ok_append R2.sd_, worth_of_ok W.w R2.hc R2.ok e n _ _ o2 (by omega) (fun v ev => ?_) (fun ev => ?_)⟩
    · rw [me_append R2.sd_]
      simp
      refine ⟨by have := R2.sl; have := R2.r1; rw [big_eq]; omega, ?_⟩
      have R3 := R2.tell (v := v) l2
      rw [List.map_append] at R3
      exact q _ _ (by rw [Rw.run, round_on e2, worth_on ev]) R3 ((k1.trans k2).trans Kp.sets)
    · exact xx _ _ _ (by rw [Rw.run, round_on e2, worth_onb ev]) R2 (k1.trans k2)
  | call m w as k => exact own.elim
  | when e x y =>
    obtain ⟨o2, o3⟩ := own
    simp [Rw.v, R1.cls]
    obtain ⟨m, rfl⟩ : ∃ k, n = k + 1 := ⟨n - 1, by omega⟩
    have hdp : max (dps x) (dps y) + 1 ≤ d := by have := hd; rw [Rw.dp] at this; exact this
    refine call_ok W.when rfl ?_
    simp [D.Running_do_when, e_v, e_c, e_tup, e_lst, e_dct, s_nil, s_cons, e_ix, e_sl, e_bin, e_cmp, e_eq, e_ne, e_in, e_nin, e_isN, e_notN, e_chain, e_neg, e_not, e_and, e_or, e_ite, e_call, e_bi, e_me, e_isT, e_new, e_attr, e_mth, e_mk, w_setattr, w_skip, w_ex, w_asg, w_asgT, w_setix, w_ite, w_ret, w_raise, w_seq, R1.cls]
    refine round_ok W R1 (by omega) (fun s2 μ2 e2 R2 k2 l2 => ?_) fun e2 => ?_
    · refine worth_of_ok W.w R2.hc R2.ok e m _ _ o2 (by omega) (fun v ev => ?_) (fun ev => ?_)
      · simp [R2.cls]
        have hrun : Rw.run (.when e x y) s1 = if v = 0 then runs y s2 else runs x s2 := by rw [Rw.run, round_on e2, worth_on ev]
        have sub : ∀ (z : List Rw), dps z + 1 ≤ d → (∀ q ∈ flats z, q.st names) → Rw.run (.when e x y) s1 = runs z s2 → phi P m "Running_do_rows" .val [.ref r, .tup (Rw.vs z), .ref h] μ2 (fun _ μ' => finM .val μ1 (fun _ μ' => G.nx [some (.ref r), a, some (.ref h), some (Rw.when e x y).v] μ') .non μ') fun x' μ' => G.ex (reso μ1 μ' 4 x') [some (.ref r), a, some (.ref h), some (Rw.when e x y).v] (μ'.cut μ1) := fun z hz hzs hr => by
          refine IH (dps z) (by omega) z m s2 μ2 _ _ hN hzs (Nat.le_refl _) (by omega) R2 (fun s3 μ3 e3 R3 k3 => ?_) (fun s3 c μ3 e3 R3 k3 => ?_)
          · exact fin_kp R1 (k2.trans k3) (q _ _ (by rw [hr, e3]) R3 ((k1.trans k2).trans k3))
          · exact ex_kp (X := fun v m => G.ex v [some (.ref r), a, some (.ref h), some (Rw.when e x y).v] m) R1 (k2.trans k3) (xx _ _ _ (by rw [hr, e3]) R3 ((k1.trans k2).trans k3))
        refine ⟨fun hv => ?_, fun hv => ?_⟩
        · exact sub x (by omega) (fun q hq => hx q (by rw [Rw.flat]; exact List.mem_cons_of_mem _ (List.mem_append_left _ hq))) (by rw [hrun, if_neg hv])
        · exact sub y (by omega) (fun q hq => hx q (by rw [Rw.flat]; exact List.mem_cons_of_mem _ (List.mem_append_right _ hq))) (by rw [hrun, if_pos hv])
      · exact ex_kp (X := fun v m => G.ex v [some (.ref r), a, some (.ref h), some (Rw.when e x y).v] m) R1 k2 (xx _ _ _ (by rw [Rw.run, round_on e2, worth_onb ev]) R2 (k1.trans k2))
    · exact ex_kp (X := fun v m => G.ex v [some (.ref r), a, some (.ref h), some (Rw.when e x y).v] m) R1 Kp.refl (xx _ _ _ (by rw [Rw.run, round_off e2]) R1 k1)
  | turn e x =>
    obtain ⟨o2, o3⟩ := own
    simp [Rw.v, R1.cls]
    obtain ⟨m, rfl⟩ : ∃ k, n = k + 1 := ⟨n - 1, by omega⟩
    have hdp : dps x + 1 ≤ d := by have := hd; rw [Rw.dp] at this; exact this
    refine call_ok W.turn rfl ?_
    have hΦ := phi_mono P m
    unfold D.Running_do_turn
    refine for_rule hΦ (i_range.mpr ?_)
    simp [e_v, e_c, e_tup, e_lst, e_dct, s_nil, s_cons, e_ix, e_sl, e_bin, e_cmp, e_eq, e_ne, e_in, e_nin, e_isN, e_notN, e_chain, e_neg, e_not, e_and, e_or, e_ite, e_call, e_bi, e_me, e_isT, e_new, e_attr, e_mth, e_mk, w_setattr, w_skip, w_ex, w_asg, w_asgT, w_setix, w_ite, w_ret, w_raise]
    refine worth_of_ok W.w R1.hc R1.ok e m _ _ o2 (by omega) (fun v ev => ?_) (fun ev => ?_)
    · have hrun : Rw.run (.turn e x) s1 = loopN (roundOf (runs x)) (v.fmod 10).toNat s1 := by rw [Rw.run, worth_on ev]
      have hv := fmod_lt (a := v) (m := 10) (by decide)
      simp
      refine ⟨by omega, by omega, fun done env' μ' => ∃ s' o, loopN (roundOf (runs x)) done.length s1 = (s', none) ∧ RnAt r h sd ct ws b names s' μ' ∧ Kp r h sd μ1 μ' ∧ env' = [some (.ref r), some (Rw.turn e x).v, some (.ref h), o], ⟨s1, none, rfl, R1, Kp.refl, rfl⟩, ?_, ?_⟩
      · rintro done v' rest env' μ' e' ⟨s2, o, l2, R2, k2, rfl⟩
        have hlen : done.length < (v.fmod 10).toNat := by
          have := congrArg List.length e'
          simp [intsFrom] at this
          omega
        refine ⟨trivial, ?_⟩
        simp [e_v, e_c, e_tup, e_lst, e_dct, s_nil, s_cons, e_ix, e_sl, e_bin, e_cmp, e_eq, e_ne, e_in, e_nin, e_isN, e_notN, e_chain, e_neg, e_not, e_and, e_or, e_ite, e_call, e_bi, e_me, e_isT, e_new, e_attr, e_mth, e_mk, w_setattr, w_skip, w_ex, w_asg, w_asgT, w_setix, w_ite, w_ret, w_raise, w_seq, R2.cls, Rw.v]
        refine round_ok W R2 (by omega) (fun s3 μ3 e3 R3 k3 l3 => ?_) fun e3 => ?_
        · simp [R3.cls]
          refine IH (dps x) (by omega) x m s3 μ3 _ _ hN (fun q hq => hx q (by rw [Rw.flat]; exact List.mem_cons_of_mem _ hq)) (Nat.le_refl _) (by omega) R3 (fun s4 μ4 e4 R4 k4 => ?_) (fun s4 c μ4 e4 R4 k4 => ?_)
          · exact ⟨s4, loop_more l2 (by rw [round_on e3, e4]), R4, (k2.trans k3).trans k4⟩
          · exact ex_kp (X := fun v m => G.ex v [some (.ref r), a, some (.ref h), some (Rw.turn e x).v] m) R1 ((k2.trans k3).trans k4) (xx _ _ _ (by rw [hrun]; exact loop_off l2 hlen (by rw [round_on e3, e4])) R4 (((k1.trans k2).trans k3).trans k4))
        · exact ex_kp (X := fun v m => G.ex v [some (.ref r), a, some (.ref h), some (Rw.turn e x).v] m) R1 k2 (xx _ _ _ (by rw [hrun]; exact loop_off l2 hlen (by rw [round_off e3])) R2 (k1.trans k2))
      · rintro env' μ' ⟨s2, o, l2, R2, k2, rfl⟩
        refine ⟨trivial, fin_kp R1 k2 (q _ _ ?_ R2 (k1.trans k2))⟩
        rw [hrun, ← l2]
        simp [intsFrom]
    · exact ex_kp (X := fun v m => G.ex v [some (.ref r), a, some (.ref h), some (Rw.turn e x).v] m) R1 Kp.refl (xx _ _ _ (by rw [Rw.run, worth_onb ev]) R1 k1)
theorem rows_ok (W : RunP P) : ∀ d : Nat, RowsOk P d := by
  intro d
  induction d using Nat.strongRecOn with
  | _ d IH =>
    intro r h sd ct ws b names l n s μ Q X hN hst hd hn R q xx
    obtain ⟨n, rfl⟩ : ∃ k, n = k + 1 := ⟨n - 1, by omega⟩
    refine call_ok W.rows rfl ?_
    have hΦ := phi_mono P n
    unfold D.Running_do_rows
    refine for_T Rw.v l hΦ (i_e ?_ hΦ)
    simp [e_v, e_c, e_tup, e_lst, e_dct, s_nil, s_cons, e_ix, e_sl, e_bin, e_cmp, e_eq, e_ne, e_in, e_nin, e_isN, e_notN, e_chain, e_neg, e_not, e_and, e_or, e_ite, e_call, e_bi, e_me, e_isT, e_new, e_attr, e_mth, e_mk, w_setattr, w_skip, w_ex, w_asg, w_asgT, w_setix, w_ite, w_ret, w_raise]
    refine ⟨vs_map l, fun ys env' μ' => ∃ s' o, runs ys s = (s', none) ∧ RnAt r h sd ct ws b names s' μ' ∧ Kp r h sd μ μ' ∧ env' = [some (.ref r), some (.tup (Rw.vs l)), some (.ref h), o], ⟨s, none, by rw [runs], R, Kp.refl, rfl⟩, ?_, ?_⟩
    · rintro ys x zs env' μ' e ⟨s2, o, l2, R2, k2, rfl⟩
      refine ⟨trivial, ?_⟩
      simp only [asg_n, brV_some]
      have hxm : x ∈ l := by rw [e]; simp
      have hsub : ∀ q ∈ x.flat, q.st names := fun q hq => hst q ((flats_sub l (flats_mem hxm)).1 q hq)
      have hxd : x.dp ≤ d := Nat.le_trans (flats_sub l (flats_mem hxm)).2 hd
      refine row_ok W IH hN hsub hxd (by omega) ⟨_, rfl⟩ R2 (fun s3 μ3 e3 R3 k3 => ?_) (fun s3 c μ3 e3 R3 k3 => ?_)
      · refine ⟨s3, some x.v, ?_, R3, k2.trans k3, rfl⟩
        rw [runs_append, l2]
        show runs [x] s2 = _
        rw [runs_one, e3]
      · refine ex_kp R (k2.trans k3) (xx s3 c μ3 ?_ R3 (k2.trans k3))
        rw [e, runs_append, l2]
        show runs (x :: zs) s2 = _
        rw [runs, e3]
    · rintro env' μ' ⟨s2, o, l2, R2, k2, rfl⟩
      exact ⟨trivial, fin_kp R k2 (q s2 μ' l2 R2 k2)⟩
end
end Mi
/-! Lp: a deed run, a book run, where nothing is called. -/
namespace Mi
open PySem (Str)
/-- the names as a deed's run begins -/
def bind0 (ps : List Str) (vs : List Int) : Hd := (ps.zip vs).foldl (fun h p => hput p.1 p.2 h) []
theorem zip_maps : ∀ (ps : List Str) (vs : List Int), zipL (ps.map Val.str) (vs.map Val.int) = (ps.zip vs).map fun p => .tup [.str p.1, .int p.2]
  | [], _ => by simp [zipL]
  | _ :: _, [] => by simp [zipL]
  | p :: ps, v :: vs => by simp [zipL, zip_maps ps vs]
structure RunP2 (P : Prog) : Prop where
  r : RunP P
  deed : P "Running_done_deed" = some D.Running_done_deed
  init : P "Running___init__" = some D.Running___init__
  rising : P "rising_counts" = some D.rising_counts
  ran : P "ran_ways" = some D.ran_ways
  book : P "run_book" = some D.run_book
section
variable {r sd ct ws : Ad} {b : Val} {names : List Str} {s s' : Rs} {μ μ' : Mu} {P : Prog} {n : Nat} {Q : Val → Mu → Prop} {X : XQ}
/-- a run's own things, a deed being done or not -/
structure Ob (r sd ct ws : Ad) (b : Val) (s : Rs) (μ : Mu) : Prop where
  obj : μ r = some (.ins "Running" [b, .ref sd, .int s.rows, .int s.rounds, .int 0, .ref ct, .tup [], .ref ws])
  sd_ : μ sd = some (.lst (s.said.map .int))
  rs : r ≠ sd
def K2 (r sd : Ad) (μ μ' : Mu) : Prop := ∀ a, a ≠ r → a ≠ sd → μ' a = μ a
theorem RnAt.ob {h : Ad} (R : RnAt r h sd ct ws b names s μ) : Ob r sd ct ws b s μ := ⟨R.obj, R.sd_, R.rs⟩
theorem Ob.cut (O : Ob r sd ct ws b s μ) {h : Ad} {s0 : Rs} (O0 : Ob r sd ct ws b s0 μ') (hh : μ' h = none) (k : ∀ a, a ≠ r → a ≠ h → a ≠ sd → μ a = μ' a) : Ob r sd ct ws b s (μ.cut μ') ∧ K2 r sd μ' (μ.cut μ') := by
  have e1 : ∀ a, (μ' a).isSome = true → (μ.cut μ') a = μ a := fun a h => by unfold Mu.cut; rw [if_pos h]
  refine ⟨⟨?_, ?_, O.rs⟩, fun a h1 h2 => ?_⟩
  · rw [e1 r (by rw [O0.obj]; rfl)]; exact O.obj
  · rw [e1 sd (by rw [O0.sd_]; rfl)]; exact O.sd_
  · cases q : μ' a with
    | none => unfold Mu.cut; rw [q]; rfl
    | some v =>
      have hne : a ≠ h := fun e => by rw [e, hh] at q; cases q
      rw [e1 a (by rw [q]; rfl), k a h1 hne h2, q]
/-- a deed that calls nothing -/
theorem deed_ok (W : RunP2 P) {nm : Val} {ps : List Str} {rows : List Rw} {give : Ex} {vs : List Int} {d : Nat} (hN : names.length < 1000000) (hst : ∀ q ∈ flats rows, q.st names) (hd : dps rows ≤ d) (hg : give.ok ∧ give.deep ≤ 6) (hps : ∀ p ∈ ps, p ∈ names) (hvs : ∀ v ∈ vs, bd v) (hl : ps.length = vs.length) (hl2 : ps.length < 100000)
    (hn : 2 * d + 9 ≤ n) (O : Ob r sd ct ws b ⟨[], [], 0, 0⟩ μ)
    (q : ∀ s' v μ', runs rows ⟨bind0 ps vs, [], 0, 0⟩ = (s', none) → worth give s'.held = some v → Ob r sd ct ws b s' μ' → K2 r sd μ μ' → Q (.int v) μ')
    (x : ∀ s' c μ', (runs rows ⟨bind0 ps vs, [], 0, 0⟩ = (s', some c) ∨ (runs rows ⟨bind0 ps vs, [], 0, 0⟩ = (s', none) ∧ worth give s'.held = none ∧ c = "Broken")) → Ob r sd ct ws b s' μ' → K2 r sd μ μ' → X (.exn c []) μ') :
    phi P n "Running_done_deed" .val [.ref r, .tup [nm, .tup (ps.map .str), .tup (Rw.vs rows), give.v], .lst (vs.map .int)] μ Q X := by
  obtain ⟨n, rfl⟩ : ∃ k, n = k + 1 := ⟨n - 1, by omega⟩
  refine call_ok W.deed rfl ?_
  have hΦ := phi_mono P n
  unfold D.Running_done_deed
  rw [w_seq]
  simp [e_v, e_c, e_tup, e_lst, e_dct, s_nil, s_cons, e_ix, e_sl, e_bin, e_cmp, e_eq, e_ne, e_in, e_nin, e_isN, e_notN, e_chain, e_neg, e_not, e_and, e_or, e_ite, e_call, e_bi, e_me, e_isT, e_new, e_attr, e_mth, e_mk, w_setattr, w_skip, w_ex, w_asg, w_asgT, w_setix, w_ite, w_ret, w_raise]
  intro h hh
  have hr : r ≠ h := fun e => by rw [← e, O.obj] at hh; cases hh
  have hs : h ≠ sd := fun e => by rw [e, O.sd_] at hh; cases hh
  rw [w_seq]
  refine for_T (fun p : Str × Int => .tup [.str p.1, .int p.2]) (ps.zip vs) hΦ (i_zip ?_ hΦ)
  simp [e_v, e_c, e_tup, e_lst, e_dct, s_nil, s_cons, e_ix, e_sl, e_bin, e_cmp, e_eq, e_ne, e_in, e_nin, e_isN, e_notN, e_chain, e_neg, e_not, e_and, e_or, e_ite, e_call, e_bi, e_me, e_isT, e_new, e_attr, e_mth, e_mk, w_setattr, w_skip, w_ex, w_asg, w_asgT, w_setix, w_ite, w_ret, w_raise]
  refine ⟨_, rfl, _, rfl, rfl, zip_maps ps vs, fun ys env' μ' => ∃ o4 o5, env' = [some (.ref r), some (.tup [nm, .tup (ps.map .str), .tup (Rw.vs rows), give.v]), some (.lst (vs.map .int)), some (.ref h), o4, o5] ∧ RnAt r h sd ct ws b names ⟨ys.foldl (fun h p => hput p.1 p.2 h) [], [], 0, 0⟩ μ' ∧ (∀ a, a ≠ h → μ' a = μ a), ?_, ?_, ?_⟩
  · refine ⟨none, none, rfl, ⟨?_, mset_same, ?_, hr, O.rs, hs, (fun p hp => by cases hp), List.nodup_nil, (fun k hk => by cases hk), by decide, by decide, by decide⟩, fun a ha => mset_ne ha⟩
    · rw [mset_ne hr]; exact O.obj
    · rw [mset_ne hs.symm]; exact O.sd_
  · rintro ys p v zs env' μ2 e ⟨o4, o5, rfl, R, k⟩
    refine ⟨trivial, ?_⟩
    have hm : (p, v) ∈ ps.zip vs := by rw [e]; simp
    have h1 := List.of_mem_zip hm
    simp [e_v, e_c, e_tup, e_lst, e_dct, s_nil, s_cons, e_ix, e_sl, e_bin, e_cmp, e_eq, e_ne, e_in, e_nin, e_isN, e_notN, e_chain, e_neg, e_not, e_and, e_or, e_ite, e_call, e_bi, e_me, e_isT, e_new, e_attr, e_mth, e_mk, w_setattr, w_skip, w_ex, w_asg, w_asgT, w_setix, w_ite, w_ret, w_raise]
    rw [set_dct R.hd rfl (R.few hN), dPut_hd]
    simp
    have R2 := R.put (hps p h1.1) (hvs v h1.2)
    refine ⟨?_, fun a ha => by rw [mset_ne ha]; exact k a ha⟩
    exact R2
  · rintro env' μ2 ⟨o4, o5, rfl, R, k⟩
    refine ⟨trivial, ?_⟩
    have R' : RnAt r h sd ct ws b names ⟨bind0 ps vs, [], 0, 0⟩ μ2 := R
    have fin : ∀ {s' : Rs} {μ3 : Mu}, RnAt r h sd ct ws b names s' μ3 → Kp r h sd μ2 μ3 → Ob r sd ct ws b s' (μ3.cut μ) ∧ K2 r sd μ (μ3.cut μ) := fun {s' μ3} R3 k3 => R3.ob.cut O hh fun a h1 h2 h3 => (k3 a h1 h2 h3).trans (k a h2)
    rw [w_seq]
    simp [e_v, e_c, e_tup, e_lst, e_dct, s_nil, s_cons, e_ix, e_sl, e_bin, e_cmp, e_eq, e_ne, e_in, e_nin, e_isN, e_notN, e_chain, e_neg, e_not, e_and, e_or, e_ite, e_call, e_bi, e_me, e_isT, e_new, e_attr, e_mth, e_mk, w_setattr, w_skip, w_ex, w_asg, w_asgT, w_setix, w_ite, w_ret, w_raise, R.cls]
    refine rows_ok W.r d rows n _ μ2 _ _ hN hst hd (by omega) R' (fun s3 μ3 e3 R3 k3 => ?_) (fun s3 c μ3 e3 R3 k3 => ?_)
    · refine worth_of_ok W.r.w R3.hc R3.ok give n _ _ hg.1 (by omega) (fun v ev => ?_) (fun ev => ?_)
      · obtain ⟨f1, f2⟩ := fin R3 k3
        exact q s3 v _ e3 ev f1 f2
      · obtain ⟨f1, f2⟩ := fin R3 k3
        rw [reso_nr rfl]
        exact x s3 _ _ (.inr ⟨e3, ev, rfl⟩) f1 f2
    · obtain ⟨f1, f2⟩ := fin R3 k3
      rw [reso_nr rfl]
      exact x s3 c _ (.inl e3) f1 f2
theorem set_new {l : List Val} {f : String} {v : Val} (h : μ r = some (.ins "Running" l)) (hf : fIx "Running" f = some l.length) : setAttrV μ (.ref r) f v = some (μ.set r (.ins "Running" (l ++ [v]))) := by
  simp only [setAttrV, h, hf]
  show (if l.length < l.length then some (μ.set r (.ins "Running" (l.set l.length v))) else if l.length = l.length then some (μ.set r (.ins "Running" (l ++ [v]))) else none) = _
  rw [if_neg (Nat.lt_irrefl _), if_pos rfl]
/-- a new run -/
structure New (r sd ct ws : Ad) (b : Val) (μ μ' : Mu) : Prop where
  ob : Ob r sd ct ws b ⟨[], [], 0, 0⟩ μ'
  ct_ : μ' ct = some (.dct [])
  ws_ : μ' ws = some (.dct [])
  old : ∀ a, a ≠ r → (μ a).isSome = true → μ' a = μ a
  n1 : μ sd = none
  n2 : μ ct = none
  n3 : μ ws = none
  rct : r ≠ ct
  rws : r ≠ ws
  sct : sd ≠ ct
  sws : sd ≠ ws
theorem init_ok (W : RunP2 P) (hn : 1 ≤ n) (h : μ r = some (.ins "Running" [])) (q : ∀ sd ct ws μ', New r sd ct ws b μ μ' → Q .non μ') : phi P n "Running___init__" .keep [.ref r, b] μ Q X := by
  obtain ⟨n, rfl⟩ : ∃ k, n = k + 1 := ⟨n - 1, by omega⟩
  refine call_ok W.init rfl ?_
  unfold D.Running___init__
  rw [w_seq]
  simp [e_v, e_c, e_tup, e_lst, e_dct, s_nil, s_cons, e_ix, e_sl, e_bin, e_cmp, e_eq, e_ne, e_in, e_nin, e_isN, e_notN, e_chain, e_neg, e_not, e_and, e_or, e_ite, e_call, e_bi, e_me, e_isT, e_new, e_attr, e_mth, e_mk, w_setattr, w_skip, w_ex, w_asg, w_asgT, w_setix, w_ite, w_ret, w_raise]
  rw [set_new h rfl]
  simp
  generalize h1 : μ.set r (.ins "Running" [b]) = μ1
  have f1 : μ1 r = some (.ins "Running" [b]) := by rw [← h1]; exact mset_same
  have o1 : ∀ a, a ≠ r → μ1 a = μ a := fun a ha => by rw [← h1]; exact mset_ne ha
  rw [w_seq]
  simp [e_v, e_c, e_tup, e_lst, e_dct, s_nil, s_cons, e_ix, e_sl, e_bin, e_cmp, e_eq, e_ne, e_in, e_nin, e_isN, e_notN, e_chain, e_neg, e_not, e_and, e_or, e_ite, e_call, e_bi, e_me, e_isT, e_new, e_attr, e_mth, e_mk, w_setattr, w_skip, w_ex, w_asg, w_asgT, w_setix, w_ite, w_ret, w_raise]
  intro sd hsd
  have n1 : sd ≠ r := fun e => by rw [e, f1] at hsd; cases hsd
  rw [set_new (by rw [mset_ne n1.symm]; exact f1) rfl]
  simp
  generalize h2 : (μ1.set sd (.lst [])).set r (.ins "Running" [b, .ref sd]) = μ2
  have f2 : μ2 r = some (.ins "Running" [b, .ref sd]) := by rw [← h2]; exact mset_same
  have o2 : ∀ a, a ≠ r → a ≠ sd → μ2 a = μ a := fun a ha hb => by rw [← h2, mset_ne ha, mset_ne hb]; exact o1 a ha
  have s2 : μ2 sd = some (.lst []) := by rw [← h2, mset_ne n1]; exact mset_same
  rw [w_seq]
  simp [e_v, e_c, e_tup, e_lst, e_dct, s_nil, s_cons, e_ix, e_sl, e_bin, e_cmp, e_eq, e_ne, e_in, e_nin, e_isN, e_notN, e_chain, e_neg, e_not, e_and, e_or, e_ite, e_call, e_bi, e_me, e_isT, e_new, e_attr, e_mth, e_mk, w_setattr, w_skip, w_ex, w_asg, w_asgT, w_setix, w_ite, w_ret, w_raise]
  rw [set_new f2 rfl]
  simp
  rw [w_seq]
  simp [e_v, e_c, e_tup, e_lst, e_dct, s_nil, s_cons, e_ix, e_sl, e_bin, e_cmp, e_eq, e_ne, e_in, e_nin, e_isN, e_notN, e_chain, e_neg, e_not, e_and, e_or, e_ite, e_call, e_bi, e_me, e_isT, e_new, e_attr, e_mth, e_mk, w_setattr, w_skip, w_ex, w_asg, w_asgT, w_setix, w_ite, w_ret, w_raise]
  rw [set_new mset_same rfl]
  simp
  rw [w_seq]
  simp [e_v, e_c, e_tup, e_lst, e_dct, s_nil, s_cons, e_ix, e_sl, e_bin, e_cmp, e_eq, e_ne, e_in, e_nin, e_isN, e_notN, e_chain, e_neg, e_not, e_and, e_or, e_ite, e_call, e_bi, e_me, e_isT, e_new, e_attr, e_mth, e_mk, w_setattr, w_skip, w_ex, w_asg, w_asgT, w_setix, w_ite, w_ret, w_raise]
  rw [set_new mset_same rfl]
  simp
  generalize h3 : μ2.set r (.ins "Running" [b, .ref sd, .int 0, .int 0, .int 0]) = μ3
  have f3 : μ3 r = some (.ins "Running" [b, .ref sd, .int 0, .int 0, .int 0]) := by rw [← h3]; exact mset_same
  have o3 : ∀ a, a ≠ r → μ3 a = μ2 a := fun a ha => by rw [← h3, mset_ne ha]
  rw [w_seq]
  simp [e_v, e_c, e_tup, e_lst, e_dct, s_nil, s_cons, e_ix, e_sl, e_bin, e_cmp, e_eq, e_ne, e_in, e_nin, e_isN, e_notN, e_chain, e_neg, e_not, e_and, e_or, e_ite, e_call, e_bi, e_me, e_isT, e_new, e_attr, e_mth, e_mk, w_setattr, w_skip, w_ex, w_asg, w_asgT, w_setix, w_ite, w_ret, w_raise]
  intro ct hct
  have n2 : ct ≠ r := fun e => by rw [e, f3] at hct; cases hct
  have n3 : ct ≠ sd := fun e => by rw [e, o3 sd n1, s2] at hct; cases hct
  rw [set_new (by rw [mset_ne n2.symm]; exact f3) rfl]
  simp
  rw [w_seq]
  simp [e_v, e_c, e_tup, e_lst, e_dct, s_nil, s_cons, e_ix, e_sl, e_bin, e_cmp, e_eq, e_ne, e_in, e_nin, e_isN, e_notN, e_chain, e_neg, e_not, e_and, e_or, e_ite, e_call, e_bi, e_me, e_isT, e_new, e_attr, e_mth, e_mk, w_setattr, w_skip, w_ex, w_asg, w_asgT, w_setix, w_ite, w_ret, w_raise]
  rw [set_new mset_same rfl]
  simp
  generalize h4 : (μ3.set ct (.dct [])).set r (.ins "Running" [b, .ref sd, .int 0, .int 0, .int 0, .ref ct, .tup []]) = μ4
  have f4 : μ4 r = some (.ins "Running" [b, .ref sd, .int 0, .int 0, .int 0, .ref ct, .tup []]) := by rw [← h4]; exact mset_same
  have o4 : ∀ a, a ≠ r → a ≠ ct → μ4 a = μ3 a := fun a ha hb => by rw [← h4, mset_ne ha, mset_ne hb]
  have c4 : μ4 ct = some (.dct []) := by rw [← h4, mset_ne n2]; exact mset_same
  intro ws hws
  have n4 : ws ≠ r := fun e => by rw [e, f4] at hws; cases hws
  have n5 : ws ≠ ct := fun e => by rw [e, c4] at hws; cases hws
  have n6 : ws ≠ sd := fun e => by rw [e, o4 sd n1 n3.symm, o3 sd n1, s2] at hws; cases hws
  rw [set_new (by rw [mset_ne n4.symm]; exact f4) rfl]
  simp
  have old : ∀ a, a ≠ r → a ≠ sd → a ≠ ct → a ≠ ws → ((μ4.set ws (.dct [])).set r (.ins "Running" [b, .ref sd, .int 0, .int 0, .int 0, .ref ct, .tup [], .ref ws])) a = μ a := fun a h1 h2 h3 h4 => by
    rw [mset_ne h1, mset_ne h4, o4 a h1 h3, o3 a h1, o2 a h1 h2]
  have m1 : μ sd = none := by rw [← o1 sd n1]; exact hsd
  have m2 : μ ct = none := by rw [← o2 ct n2 n3, ← o3 ct n2]; exact hct
  have m3 : μ ws = none := by rw [← o2 ws n4 n6, ← o3 ws n4, ← o4 ws n4 n5]; exact hws
  refine q sd ct ws _ ⟨⟨mset_same, ?_, n1.symm⟩, ?_, ?_, fun a h1 h2 => ?_, m1, m2, m3, n2.symm, n4.symm, n3.symm, n6.symm⟩
  · rw [mset_ne n1, mset_ne n6.symm, o4 sd n1 n3.symm, o3 sd n1, s2]; rfl
  · rw [mset_ne n2, mset_ne n5.symm]; exact c4
  · rw [mset_ne n4]; exact mset_same
  · refine old a h1 (fun e => ?_) (fun e => ?_) (fun e => ?_)
    · rw [e, m1] at h2; cases h2
    · rw [e, m2] at h2; cases h2
    · rw [e, m3] at h2; cases h2
theorem rising0 (W : RunP2 P) (hn : 1 ≤ n) (h : μ ct = some (.dct [])) (q : Q (.dct []) μ) : phi P n "rising_counts" .val [.ref ct] μ Q X := by
  obtain ⟨n, rfl⟩ : ∃ k, n = k + 1 := ⟨n - 1, by omega⟩
  refine call_ok W.rising rfl ?_
  have hΦ := phi_mono P n
  unfold D.rising_counts
  rw [w_seq]
  simp [e_v, e_c, e_tup, e_lst, e_dct, s_nil, s_cons, e_ix, e_sl, e_bin, e_cmp, e_eq, e_ne, e_in, e_nin, e_isN, e_notN, e_chain, e_neg, e_not, e_and, e_or, e_ite, e_call, e_bi, e_me, e_isT, e_new, e_attr, e_mth, e_mk, w_setattr, w_skip, w_ex, w_asg, w_asgT, w_setix, w_ite, w_ret, w_raise]
  intro p hp
  have hc : p ≠ ct := fun e => by rw [e, h] at hp; cases hp
  have e1 : biV (μ.set p (.dct [])) .sortK [.ref ct] = some (.lst []) := by
    have h' : (μ.set p (.dct [])) ct = some (.dct []) := by rw [mset_ne hc.symm]; exact h
    show sortKF _ [.ref ct] = _
    simp [sortKF, h', dKeys, intsOf, sortI]
  rw [w_seq]
  refine for_rule hΦ (i_e ?_ hΦ)
  simp [e_v, e_c, e_tup, e_lst, e_dct, s_nil, s_cons, e_ix, e_sl, e_bin, e_cmp, e_eq, e_ne, e_in, e_nin, e_isN, e_notN, e_chain, e_neg, e_not, e_and, e_or, e_ite, e_call, e_bi, e_me, e_isT, e_new, e_attr, e_mth, e_mk, w_setattr, w_skip, w_ex, w_asg, w_asgT, w_setix, w_ite, w_ret, w_raise, e1]
  refine ⟨fun done env' μ' => done = [] → env' = [some (.ref ct), some (.ref p), none] ∧ μ' = μ.set p (.dct []), fun _ => ⟨rfl, rfl⟩, fun env' μ' h => ?_⟩
  obtain ⟨rfl, rfl⟩ := h rfl
  refine ⟨trivial, ?_⟩
  simp [e_v, e_c, e_tup, e_lst, e_dct, s_nil, s_cons, e_ix, e_sl, e_bin, e_cmp, e_eq, e_ne, e_in, e_nin, e_isN, e_notN, e_chain, e_neg, e_not, e_and, e_or, e_ite, e_call, e_bi, e_me, e_isT, e_new, e_attr, e_mth, e_mk, w_setattr, w_skip, w_ex, w_asg, w_asgT, w_setix, w_ite, w_ret, w_raise]
  exact (fin_new hp rfl).mpr q
/-- what is told of a run -/
def resOf (give : Ex) : Ro → Option Val
  | (s, none) => match worth give s.held with
    | some v => some (.tup [.str (Str.ofString "done"), .lst (s.said.map .int), .int v, .int s.rows, .dct []])
    | none => some (.tup [.str (Str.ofString "broken"), .lst (s.said.map .int)])
  | (s, some c) => if c = "Broken" then some (.tup [.str (Str.ofString "broken"), .lst (s.said.map .int)]) else none
theorem ran_ok (W : RunP2 P) {nm : Val} {ps : List Str} {rows : List Rw} {give : Ex} {vs : List Int} {rest : List Val} {d : Nat} (hN : names.length < 1000000) (hst : ∀ q ∈ flats rows, q.st names) (hd : dps rows ≤ d) (hg : give.ok ∧ give.deep ≤ 6) (hps : ∀ p ∈ ps, p ∈ names) (hvs : ∀ v ∈ vs, bd v) (hl : ps.length = vs.length) (hl2 : ps.length < 100000)
    (hn : 2 * d + 10 ≤ n) {res : Val} (hr : resOf give (runs rows ⟨bind0 ps vs, [], 0, 0⟩) = some res) (q : Q (.tup [res, .dct []]) μ) : phi P n "ran_ways" .val [.tup (.tup [nm, .tup (ps.map .str), .tup (Rw.vs rows), give.v] :: rest), .lst (vs.map .int)] μ Q X := by
  obtain ⟨n, rfl⟩ : ∃ k, n = k + 1 := ⟨n - 1, by omega⟩
  refine call_ok W.ran rfl ?_
  have hΦ := phi_mono P n
  unfold D.ran_ways
  refine w_seq_id hΦ ?_ ?_
  · simp [e_v, e_c, e_tup, e_lst, e_dct, s_nil, s_cons, e_ix, e_sl, e_bin, e_cmp, e_eq, e_ne, e_in, e_nin, e_isN, e_notN, e_chain, e_neg, e_not, e_and, e_or, e_ite, e_call, e_bi, e_me, e_isT, e_new, e_attr, e_mth, e_mk, w_setattr, w_skip, w_ex, w_asg, w_asgT, w_setix, w_ite, w_ret, w_raise, hl]
  rw [w_seq]
  simp [e_v, e_c, e_tup, e_lst, e_dct, s_nil, s_cons, e_ix, e_sl, e_bin, e_cmp, e_eq, e_ne, e_in, e_nin, e_isN, e_notN, e_chain, e_neg, e_not, e_and, e_or, e_ite, e_call, e_bi, e_me, e_isT, e_new, e_attr, e_mth, e_mk, w_setattr, w_skip, w_ex, w_asg, w_asgT, w_setix, w_ite, w_ret, w_raise]
  intro r hr0
  refine init_ok (b := .tup (.tup [nm, .tup (ps.map .str), .tup (Rw.vs rows), give.v] :: rest)) W (by omega) mset_same fun sd ct ws μ2 N => ?_
  refine ⟨rfl, ?_⟩
  have cls : isIns μ2 (.ref r) "Running" = true := by simp only [isIns, N.ob.obj]; rfl
  rw [w_seq, w_try]
  simp [e_v, e_c, e_tup, e_lst, e_dct, s_nil, s_cons, e_ix, e_sl, e_bin, e_cmp, e_eq, e_ne, e_in, e_nin, e_isN, e_notN, e_chain, e_neg, e_not, e_and, e_or, e_ite, e_call, e_bi, e_me, e_isT, e_new, e_attr, e_mth, e_mk, w_setattr, w_skip, w_ex, w_asg, w_asgT, w_setix, w_ite, w_ret, w_raise, cls]
  have told : ∀ {μ3 : Mu} {s' : Rs}, Ob r sd ct ws (.tup (.tup [nm, .tup (ps.map .str), .tup (Rw.vs rows), give.v] :: rest)) s' μ3 → K2 r sd μ2 μ3 → μ3 sd = some (.lst (s'.said.map .int)) ∧ μ3 ct = some (.dct []) ∧ μ3 ws = some (.dct []) ∧ μ3.cut μ = μ ∧ μ sd = none ∧ μ ws = none := fun {μ3 s'} O k => by
    have e1 := N.n1
    have e2 := N.n2
    have e3 := N.n3
    rw [mset_ne N.ob.rs.symm] at e1
    rw [mset_ne N.rct.symm] at e2
    rw [mset_ne N.rws.symm] at e3
    refine ⟨O.sd_, by rw [k ct N.rct.symm N.sct.symm]; exact N.ct_, by rw [k ws N.rws.symm N.sws.symm]; exact N.ws_, ?_, e1, e3⟩
    funext a
    unfold Mu.cut
    cases h : μ a with
    | none => simp
    | some v =>
      have h1 : a ≠ r := fun e => by rw [e, hr0] at h; cases h
      have h2 : a ≠ sd := fun e => by rw [e, e1] at h; cases h
      simp
      rw [k a h1 h2, N.old a h1 (by rw [mset_ne h1, h]; rfl), mset_ne h1, h]
  have f1 : ∀ {μ3 : Mu} {s' : Rs}, Ob r sd ct ws (.tup (.tup [nm, .tup (ps.map .str), .tup (Rw.vs rows), give.v] :: rest)) s' μ3 → K2 r sd μ2 μ3 → (resoF μ μ3 4 sd).getD (.ref sd) = .lst (s'.said.map .int) ∧ (resoF μ μ3 4 ws).getD (.ref ws) = .dct [] := fun {μ3 s'} O k => by
    obtain ⟨t1, t2, t3, t4, t5, t6⟩ := told O k
    simp only [resoF, t1, t3, t5, t6, Option.isSome_none, Bool.false_eq_true, if_false, Option.map_some, Option.getD_some]
    exact ⟨mapRef_nr _ (by simp [nr, nrL_ints]), mapRef_nr _ rfl⟩
  have broke : ∀ {μ3 : Mu} {s' : Rs}, Ob r sd ct ws (.tup (.tup [nm, .tup (ps.map .str), .tup (Rw.vs rows), give.v] :: rest)) s' μ3 → K2 r sd μ2 μ3 → res = .tup [.str (Str.ofString "broken"), .lst (s'.said.map .int)] → finM .val μ Q (.tup [.tup [.str (Str.ofString "broken"), .ref sd], .ref ws]) μ3 := fun {μ3 s'} O k he => by
    obtain ⟨t1, t2, t3, t4, t5, t6⟩ := told O k
    obtain ⟨g1, g2⟩ := f1 O k
    show Q (reso μ μ3 4 _) (μ3.cut μ)
    rw [t4]
    unfold reso
    simp only [mapRef, mapRefL, g1, g2]
    rw [← he]
    exact q
  have done : ∀ {μ3 : Mu} {s' : Rs} {v : Int}, Ob r sd ct ws (.tup (.tup [nm, .tup (ps.map .str), .tup (Rw.vs rows), give.v] :: rest)) s' μ3 → K2 r sd μ2 μ3 → res = .tup [.str (Str.ofString "done"), .lst (s'.said.map .int), .int v, .int s'.rows, .dct []] → finM .val μ Q (.tup [.tup [.str (Str.ofString "done"), .ref sd, .int v, .int s'.rows, .dct []], .ref ws]) μ3 := fun {μ3 s' v} O k he => by
    obtain ⟨t1, t2, t3, t4, t5, t6⟩ := told O k
    obtain ⟨g1, g2⟩ := f1 O k
    show Q (reso μ μ3 4 _) (μ3.cut μ)
    rw [t4]
    unfold reso
    simp only [mapRef, mapRefL, g1, g2]
    rw [← he]
    exact q
  have attrs : ∀ {μ3 : Mu} {s' : Rs}, Ob r sd ct ws (.tup (.tup [nm, .tup (ps.map .str), .tup (Rw.vs rows), give.v] :: rest)) s' μ3 → attrV μ3 (.ref r) "said" = some (.ref sd) ∧ attrV μ3 (.ref r) "ways" = some (.ref ws) ∧ attrV μ3 (.ref r) "begun_rows" = some (.int s'.rows) ∧ attrV μ3 (.ref r) "counts" = some (.ref ct) := fun {μ3 s'} O => by
    simp only [attrV, O.obj]
    exact ⟨rfl, rfl, rfl, rfl⟩
  refine deed_ok W (names := names) (d := d) hN hst hd hg hps hvs hl hl2 (by omega) N.ob (fun s' v μ3 e1 e2 O k => ?_) (fun s' c μ3 hc O k => ?_)
  · obtain ⟨a1, a2, a3, a4⟩ := attrs O
    simp [e_v, e_c, e_tup, e_lst, e_dct, s_nil, s_cons, e_ix, e_sl, e_bin, e_cmp, e_eq, e_ne, e_in, e_nin, e_isN, e_notN, e_chain, e_neg, e_not, e_and, e_or, e_ite, e_call, e_bi, e_me, e_isT, e_new, e_attr, e_mth, e_mk, w_setattr, w_skip, w_ex, w_asg, w_asgT, w_setix, w_ite, w_ret, w_raise, a1, a2, a3, a4]
    refine rising0 W (by omega) (told O k).2.1 ?_
    simp [a2]
    refine done O k ?_
    rw [e1] at hr
    simp only [resOf, e2] at hr
    exact (Option.some.inj hr).symm
  · obtain ⟨a1, a2, a3, a4⟩ := attrs O
    have hb : c = "Broken" ∧ res = .tup [.str (Str.ofString "broken"), .lst (s'.said.map .int)] := by
      rcases hc with hc | ⟨h1, h2, h3⟩
      · rw [hc] at hr
        simp only [resOf] at hr
        split at hr
        · rename_i h
          exact ⟨h, (Option.some.inj hr).symm⟩
        · cases hr
      · rw [h1] at hr
        simp only [resOf, h2] at hr
        exact ⟨h3, (Option.some.inj hr).symm⟩
    obtain ⟨rfl, hb⟩ := hb
    have hs : isSub "Broken" "Broken" = true := by decide
    simp [e_v, e_c, e_tup, e_lst, e_dct, s_nil, s_cons, e_ix, e_sl, e_bin, e_cmp, e_eq, e_ne, e_in, e_nin, e_isN, e_notN, e_chain, e_neg, e_not, e_and, e_or, e_ite, e_call, e_bi, e_me, e_isT, e_new, e_attr, e_mth, e_mk, w_setattr, w_skip, w_ex, w_asg, w_asgT, w_setix, w_ite, w_ret, w_raise, a1, a2, hs]
    exact broke O k hb
theorem run_ok (W : RunP2 P) {nm : Val} {ps : List Str} {rows : List Rw} {give : Ex} {vs : List Int} {rest : List Val} {d : Nat} (hN : names.length < 1000000) (hst : ∀ q ∈ flats rows, q.st names) (hd : dps rows ≤ d) (hg : give.ok ∧ give.deep ≤ 6) (hps : ∀ p ∈ ps, p ∈ names) (hvs : ∀ v ∈ vs, bd v) (hl : ps.length = vs.length) (hl2 : ps.length < 100000)
    (hn : 2 * d + 11 ≤ n) {res : Val} (hr : resOf give (runs rows ⟨bind0 ps vs, [], 0, 0⟩) = some res) (q : Q res μ) : phi P n "run_book" .val [.tup (.tup [nm, .tup (ps.map .str), .tup (Rw.vs rows), give.v] :: rest), .lst (vs.map .int)] μ Q X := by
  obtain ⟨n, rfl⟩ : ∃ k, n = k + 1 := ⟨n - 1, by omega⟩
  refine call_ok W.book rfl ?_
  have hΦ := phi_mono P n
  unfold D.run_book
  simp [e_v, e_c, e_tup, e_lst, e_dct, s_nil, s_cons, e_ix, e_sl, e_bin, e_cmp, e_eq, e_ne, e_in, e_nin, e_isN, e_notN, e_chain, e_neg, e_not, e_and, e_or, e_ite, e_call, e_bi, e_me, e_isT, e_new, e_attr, e_mth, e_mk, w_setattr, w_skip, w_ex, w_asg, w_asgT, w_setix, w_ite, w_ret, w_raise]
  refine ran_ok W (names := names) (d := d) hN hst hd hg hps hvs hl hl2 (by omega) hr ?_
  simp
  exact q
end
end Mi
/-! Lq: how runs go, told by what is held. -/
namespace Mi
open PySem (Str)
/-- the value of a name -/
def look (l : Hd) (k : Str) : Int := (l.lookup k).getD 0
theorem lookup_put (k m : Str) (v : Int) : ∀ l : Hd, (hput m v l).lookup k = if k = m then some v else l.lookup k
  | [] => by
    simp only [hput, List.lookup_cons, List.lookup_nil]
    by_cases e : k = m
    · rw [e]; simp
    · rw [if_neg e]
      have : (k == m) = false := beq_eq_false_iff_ne.mpr e
      rw [this]
  | (a, w) :: r => by
    unfold hput
    split
    · rename_i h
      have h0 : m = a := by simpa using h
      have h' : a = m := h0.symm
      rw [List.lookup_cons, List.lookup_cons]
      by_cases e : k = m
      · rw [e, h']; simp
      · rw [if_neg e]
        have : (k == a) = false := beq_eq_false_iff_ne.mpr (by rw [h']; exact e)
        rw [this]
    · rename_i h
      have h0 : ¬ m = a := by simpa using h
      have h' : a ≠ m := fun e => h0 e.symm
      rw [List.lookup_cons, List.lookup_cons, lookup_put k m v r]
      by_cases e : k = a
      · rw [e]; simp [h']
      · have : (k == a) = false := beq_eq_false_iff_ne.mpr e
        rw [this]
theorem look_put (k m : Str) (v : Int) (l : Hd) : look (hput m v l) k = if k = m then v else look l k := by
  unfold look
  rw [lookup_put]
  split <;> rfl
theorem worth_nam (k : Str) (l : Hd) : worth (.nam k) l = some (look l k) := rfl
theorem worth_num (i : Int) (l : Hd) : worth (.num i) l = some i := rfl
theorem worth_op {w : Wd} {a b : Ex} {l : Hd} {x y : Int} (ha : worth a l = some x) (hb : worth b l = some y) : worth (.op w a b) l = jn w x y := by
  unfold worth
  rw [ha, hb]
  rfl
/-- a row that goes on -/
theorem runs_go {r : Rw} {t : List Rw} {s s1 s2 : Rs} {o : Option String} (h1 : r.run { s with rows := s.rows + 1 } = (s1, none)) (h2 : runs t s1 = (s2, o)) : runs (r :: t) s = (s2, o) := by
  rw [runs, h1]
  exact h2
theorem runs_nil (s : Rs) : runs [] s = (s, none) := by rw [runs]
theorem begin_on {s : Rs} (h : s.rounds < 1000) : s.begin = some { s with rounds := s.rounds + 1 } := by unfold Rs.begin; rw [if_neg (by omega)]
/-- rounds that go on -/
theorem loop_inv {f : Rs → Ro} (I : Nat → Rs → Prop) {s : Rs} (h0 : I 0 s) : ∀ k : Nat, (∀ i s1, i < k → I i s1 → ∃ s2, f s1 = (s2, none) ∧ I (i + 1) s2) → ∃ s', loopN f k s = (s', none) ∧ I k s'
  | 0, _ => ⟨s, rfl, h0⟩
  | k + 1, h => by
    obtain ⟨s1, e1, i1⟩ := loop_inv I h0 k fun i s1 hi => h i s1 (by omega)
    obtain ⟨s2, e2, i2⟩ := h k s1 (by omega) i1
    exact ⟨s2, loop_more e1 e2, i2⟩
theorem set_run {m : Str} {e : Ex} {s : Rs} {v : Int} (h : worth e s.held = some v) : (Rw.set m e).run s = ({ s with held := hput m v s.held }, none) := by rw [Rw.run, worth_on h]
theorem say_run {e : Ex} {s : Rs} {v : Int} (h : worth e s.held = some v) (hr : s.rounds < 1000) : (Rw.say e).run s = ({ s with rounds := s.rounds + 1, said := s.said ++ [v] }, none) := by rw [Rw.run, round_on (begin_on hr), worth_on (by exact h)]
theorem turn_run {e : Ex} {b : List Rw} {s : Rs} {v : Int} (h : worth e s.held = some v) : (Rw.turn e b).run s = loopN (roundOf (runs b)) (v.fmod 10).toNat s := by rw [Rw.run, worth_on h]
theorem when_run {e : Ex} {a b : List Rw} {s : Rs} {v : Int} (h : worth e s.held = some v) (hr : s.rounds < 1000) : (Rw.when e a b).run s = if v = 0 then runs b { s with rounds := s.rounds + 1 } else runs a { s with rounds := s.rounds + 1 } := by rw [Rw.run, round_on (begin_on hr), worth_on (by exact h)]
end Mi
/-! Lr: what a run tells, judged. -/
namespace Mi
open PySem (Str)
section
variable {μ : Mu} {Q : Val → Mu → Prop} {X : XQ} {p : Ad} {n : Nat} {P : Prog}
/-- what is told is right in kind -/
def resKind (v : Val) : Prop := (∃ said : List Int, said.length ≤ 1000 ∧ v = .tup [.str (Str.ofString "broken"), .lst (said.map .int)]) ∨ ∃ (said : List Int) (i j : Int), said.length ≤ 1000 ∧ v = .tup [.str (Str.ofString "done"), .lst (said.map .int), .int i, .int j, .dct []]
theorem all_blI (l : List Int) : biV μ .all [.lst (l.map fun _ => .bl true)] = some (.bl true) := by
  show (boolsOf (l.map fun _ => Val.bl true)).bind (fun bs => some (Val.bl (bs.all id))) = _
  have h : boolsOf (l.map fun _ => Val.bl true) = some (l.map fun _ => true) := by
    induction l with
    | nil => rfl
    | cons a r ih => simp [boolsOf, ih]
  rw [h]
  simp
theorem kind_end (l : List Int) (hl : l.length ≤ 2000) {env : Env} {R : Val → Mu → Prop} (he : env[1]? = some (some (.lst (l.map .int)))) (hw : ∀ i, (wipe env [2])[1]? = some (some (.lst (l.map .int))) ∧ ((wipe env [2]).set 2 (some (.int i)))[2]? = some (some (.int i))) (q : R (.lst (l.map fun _ => .bl true)) μ) :
    wpE (phi P n) (.comp (.and (.isT (.v 2) .int) (.not (.isT (.v 2) .bool))) (.n 2) [2] (.e (.v 1)) (.c (.bl true))) env μ R X := by
  have hΦ := phi_mono P n
  refine comp_all Val.int l (fun _ => .bl true) hΦ (i_e ?_ hΦ)
  simp [e_v, e_c, e_tup, e_lst, e_dct, s_nil, s_cons, e_ix, e_sl, e_bin, e_cmp, e_eq, e_ne, e_in, e_nin, e_isN, e_notN, e_chain, e_neg, e_not, e_and, e_or, e_ite, e_call, e_bi, e_me, e_isT, e_new, e_attr, e_mth, e_mk, w_setattr, w_skip, w_ex, w_asg, w_asgT, w_setix, w_ite, w_ret, w_raise, he, guard, gOk]
  refine ⟨by rw [big_eq]; omega, fun x hx => ?_, q⟩
  simp [(hw x).2]
theorem kind_ok (hP : P "_law_kind_right" = some D._law_kind_right) {v : Val} (h : resKind v) (hn : 1 ≤ n) (q : Q (.bl true) μ) : phi P n "_law_kind_right" .val [v] μ Q X := by
  obtain ⟨n, rfl⟩ : ∃ k, n = k + 1 := ⟨n - 1, by omega⟩
  refine call_ok hP rfl ?_
  have hΦ := phi_mono P n
  unfold D._law_kind_right
  have t1 : ∀ l : List Val, tyV μ .tuple (.tup l) = some true := fun _ => rfl
  have t2 : ∀ l : List Val, tyV μ .list (.lst l) = some true := fun _ => rfl
  have t3 : ∀ l : List Val, tyV μ .dict (.dct l) = some true := fun _ => rfl
  have i2 : inV μ (.int 2) (.tup [.int 2, .int 5]) = some true := rfl
  have i5 : inV μ (.int 5) (.tup [.int 2, .int 5]) = some true := rfl
  rcases h with ⟨said, hs, rfl⟩ | ⟨said, i, j, hs, rfl⟩
  · refine w_seq_id hΦ ?_ ?_
    · simp [e_v, e_c, e_tup, e_lst, e_dct, s_nil, s_cons, e_ix, e_sl, e_bin, e_cmp, e_eq, e_ne, e_in, e_nin, e_isN, e_notN, e_chain, e_neg, e_not, e_and, e_or, e_ite, e_call, e_bi, e_me, e_isT, e_new, e_attr, e_mth, e_mk, w_setattr, w_skip, w_ex, w_asg, w_asgT, w_setix, w_ite, w_ret, w_raise, t1, t2, i2]
    rw [w_seq]
    simp [e_v, e_c, e_tup, e_lst, e_dct, s_nil, s_cons, e_ix, e_sl, e_bin, e_cmp, e_eq, e_ne, e_in, e_nin, e_isN, e_notN, e_chain, e_neg, e_not, e_and, e_or, e_ite, e_call, e_bi, e_me, e_isT, e_new, e_attr, e_mth, e_mk, w_setattr, w_skip, w_ex, w_asg, w_asgT, w_setix, w_ite, w_ret, w_raise]
    refine w_seq_id hΦ ?_ ?_
    · simp [e_v, e_c, e_tup, e_lst, e_dct, s_nil, s_cons, e_ix, e_sl, e_bin, e_cmp, e_eq, e_ne, e_in, e_nin, e_isN, e_notN, e_chain, e_neg, e_not, e_and, e_or, e_ite, e_call, e_bi, e_me, e_isT, e_new, e_attr, e_mth, e_mk, w_setattr, w_skip, w_ex, w_asg, w_asgT, w_setix, w_ite, w_ret, w_raise]
    rw [w_ret, e_bi, s_cons]
    refine kind_end said (by omega) rfl (fun i => ⟨rfl, rfl⟩) ?_
    simp [e_v, e_c, e_tup, e_lst, e_dct, s_nil, s_cons, e_ix, e_sl, e_bin, e_cmp, e_eq, e_ne, e_in, e_nin, e_isN, e_notN, e_chain, e_neg, e_not, e_and, e_or, e_ite, e_call, e_bi, e_me, e_isT, e_new, e_attr, e_mth, e_mk, w_setattr, w_skip, w_ex, w_asg, w_asgT, w_setix, w_ite, w_ret, w_raise, all_blI]
    exact q
  · refine w_seq_id hΦ ?_ ?_
    · simp [e_v, e_c, e_tup, e_lst, e_dct, s_nil, s_cons, e_ix, e_sl, e_bin, e_cmp, e_eq, e_ne, e_in, e_nin, e_isN, e_notN, e_chain, e_neg, e_not, e_and, e_or, e_ite, e_call, e_bi, e_me, e_isT, e_new, e_attr, e_mth, e_mk, w_setattr, w_skip, w_ex, w_asg, w_asgT, w_setix, w_ite, w_ret, w_raise, t1, t2, i5]
    rw [w_seq]
    simp [e_v, e_c, e_tup, e_lst, e_dct, s_nil, s_cons, e_ix, e_sl, e_bin, e_cmp, e_eq, e_ne, e_in, e_nin, e_isN, e_notN, e_chain, e_neg, e_not, e_and, e_or, e_ite, e_call, e_bi, e_me, e_isT, e_new, e_attr, e_mth, e_mk, w_setattr, w_skip, w_ex, w_asg, w_asgT, w_setix, w_ite, w_ret, w_raise]
    rw [w_seq]
    simp [e_v, e_c, e_tup, e_lst, e_dct, s_nil, s_cons, e_ix, e_sl, e_bin, e_cmp, e_eq, e_ne, e_in, e_nin, e_isN, e_notN, e_chain, e_neg, e_not, e_and, e_or, e_ite, e_call, e_bi, e_me, e_isT, e_new, e_attr, e_mth, e_mk, w_setattr, w_skip, w_ex, w_asg, w_asgT, w_setix, w_ite, w_ret, w_raise, t3]
    have k0 : biV μ .keysL [.dct []] = some (.lst []) := rfl
    have v0 : biV μ .valsL [.dct []] = some (.lst []) := rfl
    rw [w_seq]
    simp [e_v, e_c, e_tup, e_lst, e_dct, s_nil, s_cons, e_ix, e_sl, e_bin, e_cmp, e_eq, e_ne, e_in, e_nin, e_isN, e_notN, e_chain, e_neg, e_not, e_and, e_or, e_ite, e_call, e_bi, e_me, e_isT, e_new, e_attr, e_mth, e_mk, w_setattr, w_skip, w_ex, w_asg, w_asgT, w_setix, w_ite, w_ret, w_raise, t3, k0, v0]
    refine ⟨by rw [big_eq]; omega, ?_⟩
    have e : (said.map Val.int ++ [.int i, .int j]) = (said ++ [i, j]).map Val.int := by simp
    rw [e]
    refine kind_end (said ++ [i, j]) (by simp; omega) rfl (fun i => ⟨rfl, rfl⟩) ?_
    rw [all_blI]
    simp
    exact q
theorem plain_ints (l : List Int) : plainL (l.map Val.int) = true ∧ depL (l.map Val.int) = 0 := by
  induction l with
  | nil => exact ⟨rfl, rfl⟩
  | cons a r ih => simp [plainL, plain, depL, dep, ih]
theorem eq_ints (l : List Int) : eqV μ (.lst (l.map .int)) (.lst (l.map .int)) = some true := by
  have h := plain_ints l
  exact eq_same rfl rfl (by simp [plain, h.1]) (by simp [dep, h.2])
theorem res_eq {v : Val} (h : resKind v) : eqV μ v v = some true := by
  rcases h with ⟨said, hs, rfl⟩ | ⟨said, i, j, hs, rfl⟩
  · have h := plain_ints said
    exact eq_same rfl rfl (by simp [plain, plainL, h.1]) (by simp [dep, depL, h.2])
  · have h := plain_ints said
    refine eqV_of2 rfl rfl ?_ ?_
    · unfold eqC
      simp [plain, plainL]
    · have e : eqb (.lst (said.map .int)) (.lst (said.map .int)) = true := eqb_refl (by simp [plain, h.1])
      simp [eqT, eq2L, eq2, plain, h.1, dep, h.2, e, dctIn]
      simp [eqb]
/-- values drawn, as many as asked -/
theorem values_comp (hv : P "_law_value" = some D._law_value) (ht : P "_law_take" = some D._law_take) (hp : Pot μ p) {i : Nat} {j : Nat} {env : Env} {m : Nat} (hm : m ≤ 100) {it : E} (hit : ∀ K : Val → Mu → Prop, ∀ X', K (.int m) μ → wpE (phi P n) it env μ K X') (he : (wipe env [j])[i]? = some (some (.ref p))) (hij : i ≠ j) (hn : 2 ≤ n)
    (q : ∀ (l : List Int) μ', l.length = m → (∀ v ∈ l, 0 ≤ v ∧ v < 1000000) → Pw p μ μ' → Q (.lst (l.map .int)) μ') : wpE (phi P n) (.comp (.call "_law_value" .val (.cons (.v i) .nil)) (.n j) [j] (.range it) (.c (.bl true))) env μ Q X := by
  have hΦ := phi_mono P n
  refine comp_inv hΦ (i_range.mpr (hit _ _ ?_))
  simp
  refine ⟨by omega, fun done acc μ' => ∃ l : List Int, l.length = done.length ∧ acc = l.map Val.int ∧ (∀ v ∈ l, 0 ≤ v ∧ v < 1000000) ∧ Pw p μ μ', ⟨[], rfl, rfl, (fun v hv => by cases hv), Pw.refl hp⟩, ?_, ?_⟩
  · rintro done v rest acc μ' e ⟨l, e1, rfl, e3, k⟩
    have hlen : done.length < 101 := by
      have := congrArg List.length e
      simp [intsFrom] at this
      omega
    refine ⟨trivial, ?_⟩
    have he' : ((wipe env [j]).set j (some v))[i]? = some (some (.ref p)) := by rw [List.getElem?_set_ne hij.symm]; exact he
    simp [e_v, e_c, e_tup, e_lst, e_dct, s_nil, s_cons, e_ix, e_sl, e_bin, e_cmp, e_eq, e_ne, e_in, e_nin, e_isN, e_notN, e_chain, e_neg, e_not, e_and, e_or, e_ite, e_call, e_bi, e_me, e_isT, e_new, e_attr, e_mth, e_mk, w_setattr, w_skip, w_ex, w_asg, w_asgT, w_setix, w_ite, w_ret, w_raise, he']
    refine value_ok hv ht k.pot hn fun v' μ2 v0 v1 k2 => ?_
    refine ⟨by rw [big_eq]; omega, l ++ [v'], by simp [e1], by simp, fun x hx => ?_, k.trans k2⟩
    rcases List.mem_append.mp hx with h | h
    · exact e3 x h
    · rw [List.mem_singleton.mp h]; exact ⟨v0, v1⟩
  · rintro acc μ' ⟨l, e1, rfl, e3, k⟩
    exact ⟨trivial, q l _ (by rw [e1]; simp [intsFrom]) e3 k⟩
end
end Mi
/-! the defs of the law, by name -/
namespace Mi.k18
open PySem (Str)
open Mi
def tab : List (String × Fn) := [("joined_worth", D.joined_worth), ("worth_of", D.worth_of), ("rows_within", D.rows_within), ("read_through", D.read_through), ("rows_of", D.rows_of), ("deed_of", D.deed_of), ("look_at_names", D.look_at_names), ("look_at_call", D.look_at_call), ("made_book", D.made_book), ("Running___init__", D.Running___init__), ("Running_begin_round", D.Running_begin_round), ("Running_make_call", D.Running_make_call), ("Running_done_deed", D.Running_done_deed), ("Running_do_rows", D.Running_do_rows), ("Running_do_call", D.Running_do_call), ("Running_do_when", D.Running_do_when), ("Running_do_turn", D.Running_do_turn), ("rising_counts", D.rising_counts), ("ran_ways", D.ran_ways), ("run_book", D.run_book), ("_law_pot", D._law_pot), ("_law_take", D._law_take), ("_law_value", D._law_value), ("_law_kind_right", D._law_kind_right), ("_law_due", D._law_due_v5), ("law", D.law_k18)]
def PR : Prog := fun f => (tab.find? fun p => p.1 == f).map (·.2)
theorem pr_joined_worth : PR "joined_worth" = some D.joined_worth := rfl
theorem pr_worth_of : PR "worth_of" = some D.worth_of := rfl
theorem pr_rows_within : PR "rows_within" = some D.rows_within := rfl
theorem pr_read_through : PR "read_through" = some D.read_through := rfl
theorem pr_rows_of : PR "rows_of" = some D.rows_of := rfl
theorem pr_deed_of : PR "deed_of" = some D.deed_of := rfl
theorem pr_look_at_names : PR "look_at_names" = some D.look_at_names := rfl
theorem pr_look_at_call : PR "look_at_call" = some D.look_at_call := rfl
theorem pr_made_book : PR "made_book" = some D.made_book := rfl
theorem pr_Running___init__ : PR "Running___init__" = some D.Running___init__ := rfl
theorem pr_Running_begin_round : PR "Running_begin_round" = some D.Running_begin_round := rfl
theorem pr_Running_make_call : PR "Running_make_call" = some D.Running_make_call := rfl
theorem pr_Running_done_deed : PR "Running_done_deed" = some D.Running_done_deed := rfl
theorem pr_Running_do_rows : PR "Running_do_rows" = some D.Running_do_rows := rfl
theorem pr_Running_do_call : PR "Running_do_call" = some D.Running_do_call := rfl
theorem pr_Running_do_when : PR "Running_do_when" = some D.Running_do_when := rfl
theorem pr_Running_do_turn : PR "Running_do_turn" = some D.Running_do_turn := rfl
theorem pr_rising_counts : PR "rising_counts" = some D.rising_counts := rfl
theorem pr_ran_ways : PR "ran_ways" = some D.ran_ways := rfl
theorem pr_run_book : PR "run_book" = some D.run_book := rfl
theorem pr__law_pot : PR "_law_pot" = some D._law_pot := rfl
theorem pr__law_take : PR "_law_take" = some D._law_take := rfl
theorem pr__law_value : PR "_law_value" = some D._law_value := rfl
theorem pr__law_kind_right : PR "_law_kind_right" = some D._law_kind_right := rfl
theorem pr__law_due : PR "_law_due" = some D._law_due_v5 := rfl
theorem pr_law : PR "law" = some D.law_k18 := rfl
end Mi.k18
namespace Mi.k18
open PySem PySem.Spec PyProof.Rows L2 Mi
def top (i : Nat) : Stmt := PySem.Challenge.pw_callfold_k18_whens_and_turns.main.body.getD i (.Pass ⟨0, 0, 0, 0⟩)
theorem dd_Broken : (Str.ofString "Broken" == ("__debug__" : Str)) = false := by decide +kernel
theorem dc_Broken : (Str.ofString "Broken" == ("__classdict__" : Str)) = false := by decide +kernel
theorem dd_MOST_CALLS : (Str.ofString "MOST_CALLS" == ("__debug__" : Str)) = false := by decide +kernel
theorem dc_MOST_CALLS : (Str.ofString "MOST_CALLS" == ("__classdict__" : Str)) = false := by decide +kernel
theorem dd_MOST_DEEP : (Str.ofString "MOST_DEEP" == ("__debug__" : Str)) = false := by decide +kernel
theorem dc_MOST_DEEP : (Str.ofString "MOST_DEEP" == ("__classdict__" : Str)) = false := by decide +kernel
theorem dd_MOST_ROUNDS : (Str.ofString "MOST_ROUNDS" == ("__debug__" : Str)) = false := by decide +kernel
theorem dc_MOST_ROUNDS : (Str.ofString "MOST_ROUNDS" == ("__classdict__" : Str)) = false := by decide +kernel
theorem dd_NoDeed : (Str.ofString "NoDeed" == ("__debug__" : Str)) = false := by decide +kernel
theorem dc_NoDeed : (Str.ofString "NoDeed" == ("__classdict__" : Str)) = false := by decide +kernel
theorem dd_Running : (Str.ofString "Running" == ("__debug__" : Str)) = false := by decide +kernel
theorem dc_Running : (Str.ofString "Running" == ("__classdict__" : Str)) = false := by decide +kernel
theorem dd_TooDeep : (Str.ofString "TooDeep" == ("__debug__" : Str)) = false := by decide +kernel
theorem dc_TooDeep : (Str.ofString "TooDeep" == ("__classdict__" : Str)) = false := by decide +kernel
theorem dd_TooLong : (Str.ofString "TooLong" == ("__debug__" : Str)) = false := by decide +kernel
theorem dc_TooLong : (Str.ofString "TooLong" == ("__classdict__" : Str)) = false := by decide +kernel
theorem dd_Twice : (Str.ofString "Twice" == ("__debug__" : Str)) = false := by decide +kernel
theorem dc_Twice : (Str.ofString "Twice" == ("__classdict__" : Str)) = false := by decide +kernel
theorem dd_VALUES : (Str.ofString "VALUES" == ("__debug__" : Str)) = false := by decide +kernel
theorem dc_VALUES : (Str.ofString "VALUES" == ("__classdict__" : Str)) = false := by decide +kernel
theorem dd_WrongCount : (Str.ofString "WrongCount" == ("__debug__" : Str)) = false := by decide +kernel
theorem dc_WrongCount : (Str.ofString "WrongCount" == ("__classdict__" : Str)) = false := by decide +kernel
theorem dd__law_due : (Str.ofString "_law_due" == ("__debug__" : Str)) = false := by decide +kernel
theorem dc__law_due : (Str.ofString "_law_due" == ("__classdict__" : Str)) = false := by decide +kernel
theorem dd__law_kind_right : (Str.ofString "_law_kind_right" == ("__debug__" : Str)) = false := by decide +kernel
theorem dc__law_kind_right : (Str.ofString "_law_kind_right" == ("__classdict__" : Str)) = false := by decide +kernel
theorem dd__law_pot : (Str.ofString "_law_pot" == ("__debug__" : Str)) = false := by decide +kernel
theorem dc__law_pot : (Str.ofString "_law_pot" == ("__classdict__" : Str)) = false := by decide +kernel
theorem dd__law_take : (Str.ofString "_law_take" == ("__debug__" : Str)) = false := by decide +kernel
theorem dc__law_take : (Str.ofString "_law_take" == ("__classdict__" : Str)) = false := by decide +kernel
theorem dd__law_value : (Str.ofString "_law_value" == ("__debug__" : Str)) = false := by decide +kernel
theorem dc__law_value : (Str.ofString "_law_value" == ("__classdict__" : Str)) = false := by decide +kernel
theorem dd_a : (Str.ofString "a" == ("__debug__" : Str)) = false := by decide +kernel
theorem dc_a : (Str.ofString "a" == ("__classdict__" : Str)) = false := by decide +kernel
theorem dd_adds : (Str.ofString "adds" == ("__debug__" : Str)) = false := by decide +kernel
theorem dc_adds : (Str.ofString "adds" == ("__classdict__" : Str)) = false := by decide +kernel
theorem dd_all : (Str.ofString "all" == ("__debug__" : Str)) = false := by decide +kernel
theorem dc_all : (Str.ofString "all" == ("__classdict__" : Str)) = false := by decide +kernel
theorem dd_arg : (Str.ofString "arg" == ("__debug__" : Str)) = false := by decide +kernel
theorem dc_arg : (Str.ofString "arg" == ("__classdict__" : Str)) = false := by decide +kernel
theorem dd_asked : (Str.ofString "asked" == ("__debug__" : Str)) = false := by decide +kernel
theorem dc_asked : (Str.ofString "asked" == ("__classdict__" : Str)) = false := by decide +kernel
theorem dd_b : (Str.ofString "b" == ("__debug__" : Str)) = false := by decide +kernel
theorem dc_b : (Str.ofString "b" == ("__classdict__" : Str)) = false := by decide +kernel
theorem dd_begun_rounds : (Str.ofString "begun_rounds" == ("__debug__" : Str)) = false := by decide +kernel
theorem dc_begun_rounds : (Str.ofString "begun_rounds" == ("__classdict__" : Str)) = false := by decide +kernel
theorem dd_begun_rows : (Str.ofString "begun_rows" == ("__debug__" : Str)) = false := by decide +kernel
theorem dc_begun_rows : (Str.ofString "begun_rows" == ("__classdict__" : Str)) = false := by decide +kernel
theorem dd_book : (Str.ofString "book" == ("__debug__" : Str)) = false := by decide +kernel
theorem dc_book : (Str.ofString "book" == ("__classdict__" : Str)) = false := by decide +kernel
theorem dd_c : (Str.ofString "c" == ("__debug__" : Str)) = false := by decide +kernel
theorem dc_c : (Str.ofString "c" == ("__classdict__" : Str)) = false := by decide +kernel
theorem dd_cell : (Str.ofString "cell" == ("__debug__" : Str)) = false := by decide +kernel
theorem dc_cell : (Str.ofString "cell" == ("__classdict__" : Str)) = false := by decide +kernel
theorem dd_changed : (Str.ofString "changed" == ("__debug__" : Str)) = false := by decide +kernel
theorem dc_changed : (Str.ofString "changed" == ("__classdict__" : Str)) = false := by decide +kernel
theorem dd_counts : (Str.ofString "counts" == ("__debug__" : Str)) = false := by decide +kernel
theorem dc_counts : (Str.ofString "counts" == ("__classdict__" : Str)) = false := by decide +kernel
theorem dd_deed : (Str.ofString "deed" == ("__debug__" : Str)) = false := by decide +kernel
theorem dc_deed : (Str.ofString "deed" == ("__classdict__" : Str)) = false := by decide +kernel
theorem dd_deed_of : (Str.ofString "deed_of" == ("__debug__" : Str)) = false := by decide +kernel
theorem dc_deed_of : (Str.ofString "deed_of" == ("__classdict__" : Str)) = false := by decide +kernel
theorem dd_deeds : (Str.ofString "deeds" == ("__debug__" : Str)) = false := by decide +kernel
theorem dc_deeds : (Str.ofString "deeds" == ("__classdict__" : Str)) = false := by decide +kernel
theorem dd_even : (Str.ofString "even" == ("__debug__" : Str)) = false := by decide +kernel
theorem dc_even : (Str.ofString "even" == ("__classdict__" : Str)) = false := by decide +kernel
theorem dd_expression : (Str.ofString "expression" == ("__debug__" : Str)) = false := by decide +kernel
theorem dc_expression : (Str.ofString "expression" == ("__classdict__" : Str)) = false := by decide +kernel
theorem dd_found : (Str.ofString "found" == ("__debug__" : Str)) = false := by decide +kernel
theorem dc_found : (Str.ofString "found" == ("__classdict__" : Str)) = false := by decide +kernel
theorem dd_give : (Str.ofString "give" == ("__debug__" : Str)) = false := by decide +kernel
theorem dc_give : (Str.ofString "give" == ("__classdict__" : Str)) = false := by decide +kernel
theorem dd_held : (Str.ofString "held" == ("__debug__" : Str)) = false := by decide +kernel
theorem dc_held : (Str.ofString "held" == ("__classdict__" : Str)) = false := by decide +kernel
theorem dd_inner : (Str.ofString "inner" == ("__debug__" : Str)) = false := by decide +kernel
theorem dc_inner : (Str.ofString "inner" == ("__classdict__" : Str)) = false := by decide +kernel
theorem dd_int : (Str.ofString "int" == ("__debug__" : Str)) = false := by decide +kernel
theorem dc_int : (Str.ofString "int" == ("__classdict__" : Str)) = false := by decide +kernel
theorem dd_isinstance : (Str.ofString "isinstance" == ("__debug__" : Str)) = false := by decide +kernel
theorem dc_isinstance : (Str.ofString "isinstance" == ("__classdict__" : Str)) = false := by decide +kernel
theorem dd_joined_worth : (Str.ofString "joined_worth" == ("__debug__" : Str)) = false := by decide +kernel
theorem dc_joined_worth : (Str.ofString "joined_worth" == ("__classdict__" : Str)) = false := by decide +kernel
theorem dd_k : (Str.ofString "k" == ("__debug__" : Str)) = false := by decide +kernel
theorem dc_k : (Str.ofString "k" == ("__classdict__" : Str)) = false := by decide +kernel
theorem dd_len : (Str.ofString "len" == ("__debug__" : Str)) = false := by decide +kernel
theorem dc_len : (Str.ofString "len" == ("__classdict__" : Str)) = false := by decide +kernel
theorem dd_list : (Str.ofString "list" == ("__debug__" : Str)) = false := by decide +kernel
theorem dc_list : (Str.ofString "list" == ("__classdict__" : Str)) = false := by decide +kernel
theorem dd_look_at_call : (Str.ofString "look_at_call" == ("__debug__" : Str)) = false := by decide +kernel
theorem dc_look_at_call : (Str.ofString "look_at_call" == ("__classdict__" : Str)) = false := by decide +kernel
theorem dd_look_at_names : (Str.ofString "look_at_names" == ("__debug__" : Str)) = false := by decide +kernel
theorem dc_look_at_names : (Str.ofString "look_at_names" == ("__classdict__" : Str)) = false := by decide +kernel
theorem dd_made_book : (Str.ofString "made_book" == ("__debug__" : Str)) = false := by decide +kernel
theorem dc_made_book : (Str.ofString "made_book" == ("__classdict__" : Str)) = false := by decide +kernel
theorem dd_made_calls : (Str.ofString "made_calls" == ("__debug__" : Str)) = false := by decide +kernel
theorem dc_made_calls : (Str.ofString "made_calls" == ("__classdict__" : Str)) = false := by decide +kernel
theorem dd_many : (Str.ofString "many" == ("__debug__" : Str)) = false := by decide +kernel
theorem dc_many : (Str.ofString "many" == ("__classdict__" : Str)) = false := by decide +kernel
theorem dd_mark : (Str.ofString "mark" == ("__debug__" : Str)) = false := by decide +kernel
theorem dc_mark : (Str.ofString "mark" == ("__classdict__" : Str)) = false := by decide +kernel
theorem dd_marks : (Str.ofString "marks" == ("__debug__" : Str)) = false := by decide +kernel
theorem dc_marks : (Str.ofString "marks" == ("__classdict__" : Str)) = false := by decide +kernel
theorem dd_n : (Str.ofString "n" == ("__debug__" : Str)) = false := by decide +kernel
theorem dc_n : (Str.ofString "n" == ("__classdict__" : Str)) = false := by decide +kernel
theorem dd_name : (Str.ofString "name" == ("__debug__" : Str)) = false := by decide +kernel
theorem dc_name : (Str.ofString "name" == ("__classdict__" : Str)) = false := by decide +kernel
theorem dd_names : (Str.ofString "names" == ("__debug__" : Str)) = false := by decide +kernel
theorem dc_names : (Str.ofString "names" == ("__classdict__" : Str)) = false := by decide +kernel
theorem dd_one : (Str.ofString "one" == ("__debug__" : Str)) = false := by decide +kernel
theorem dc_one : (Str.ofString "one" == ("__classdict__" : Str)) = false := by decide +kernel
theorem dd_param : (Str.ofString "param" == ("__debug__" : Str)) = false := by decide +kernel
theorem dc_param : (Str.ofString "param" == ("__classdict__" : Str)) = false := by decide +kernel
theorem dd_params : (Str.ofString "params" == ("__debug__" : Str)) = false := by decide +kernel
theorem dc_params : (Str.ofString "params" == ("__classdict__" : Str)) = false := by decide +kernel
theorem dd_pot : (Str.ofString "pot" == ("__debug__" : Str)) = false := by decide +kernel
theorem dc_pot : (Str.ofString "pot" == ("__classdict__" : Str)) = false := by decide +kernel
theorem dd_ran_ways : (Str.ofString "ran_ways" == ("__debug__" : Str)) = false := by decide +kernel
theorem dc_ran_ways : (Str.ofString "ran_ways" == ("__classdict__" : Str)) = false := by decide +kernel
theorem dd_read_through : (Str.ofString "read_through" == ("__debug__" : Str)) = false := by decide +kernel
theorem dc_read_through : (Str.ofString "read_through" == ("__classdict__" : Str)) = false := by decide +kernel
theorem dd_rising_counts : (Str.ofString "rising_counts" == ("__debug__" : Str)) = false := by decide +kernel
theorem dc_rising_counts : (Str.ofString "rising_counts" == ("__classdict__" : Str)) = false := by decide +kernel
theorem dd_rounds : (Str.ofString "rounds" == ("__debug__" : Str)) = false := by decide +kernel
theorem dc_rounds : (Str.ofString "rounds" == ("__classdict__" : Str)) = false := by decide +kernel
theorem dd_row : (Str.ofString "row" == ("__debug__" : Str)) = false := by decide +kernel
theorem dc_row : (Str.ofString "row" == ("__classdict__" : Str)) = false := by decide +kernel
theorem dd_rows : (Str.ofString "rows" == ("__debug__" : Str)) = false := by decide +kernel
theorem dc_rows : (Str.ofString "rows" == ("__classdict__" : Str)) = false := by decide +kernel
theorem dd_rows_of : (Str.ofString "rows_of" == ("__debug__" : Str)) = false := by decide +kernel
theorem dc_rows_of : (Str.ofString "rows_of" == ("__classdict__" : Str)) = false := by decide +kernel
theorem dd_rows_within : (Str.ofString "rows_within" == ("__debug__" : Str)) = false := by decide +kernel
theorem dc_rows_within : (Str.ofString "rows_within" == ("__classdict__" : Str)) = false := by decide +kernel
theorem dd_run_book : (Str.ofString "run_book" == ("__debug__" : Str)) = false := by decide +kernel
theorem dc_run_book : (Str.ofString "run_book" == ("__classdict__" : Str)) = false := by decide +kernel
theorem dd_running : (Str.ofString "running" == ("__debug__" : Str)) = false := by decide +kernel
theorem dc_running : (Str.ofString "running" == ("__classdict__" : Str)) = false := by decide +kernel
theorem dd_said : (Str.ofString "said" == ("__debug__" : Str)) = false := by decide +kernel
theorem dc_said : (Str.ofString "said" == ("__classdict__" : Str)) = false := by decide +kernel
theorem dd_script : (Str.ofString "script" == ("__debug__" : Str)) = false := by decide +kernel
theorem dc_script : (Str.ofString "script" == ("__classdict__" : Str)) = false := by decide +kernel
theorem dd_self : (Str.ofString "self" == ("__debug__" : Str)) = false := by decide +kernel
theorem dc_self : (Str.ofString "self" == ("__classdict__" : Str)) = false := by decide +kernel
theorem dd_set : (Str.ofString "set" == ("__debug__" : Str)) = false := by decide +kernel
theorem dc_set : (Str.ofString "set" == ("__classdict__" : Str)) = false := by decide +kernel
theorem dd_step : (Str.ofString "step" == ("__debug__" : Str)) = false := by decide +kernel
theorem dc_step : (Str.ofString "step" == ("__classdict__" : Str)) = false := by decide +kernel
theorem dd_t : (Str.ofString "t" == ("__debug__" : Str)) = false := by decide +kernel
theorem dc_t : (Str.ofString "t" == ("__classdict__" : Str)) = false := by decide +kernel
theorem dd_time : (Str.ofString "time" == ("__debug__" : Str)) = false := by decide +kernel
theorem dc_time : (Str.ofString "time" == ("__classdict__" : Str)) = false := by decide +kernel
theorem dd_times : (Str.ofString "times" == ("__debug__" : Str)) = false := by decide +kernel
theorem dc_times : (Str.ofString "times" == ("__classdict__" : Str)) = false := by decide +kernel
theorem dd_tuple : (Str.ofString "tuple" == ("__debug__" : Str)) = false := by decide +kernel
theorem dc_tuple : (Str.ofString "tuple" == ("__classdict__" : Str)) = false := by decide +kernel
theorem dd_turn : (Str.ofString "turn" == ("__debug__" : Str)) = false := by decide +kernel
theorem dc_turn : (Str.ofString "turn" == ("__classdict__" : Str)) = false := by decide +kernel
theorem dd_value : (Str.ofString "value" == ("__debug__" : Str)) = false := by decide +kernel
theorem dc_value : (Str.ofString "value" == ("__classdict__" : Str)) = false := by decide +kernel
theorem dd_values : (Str.ofString "values" == ("__debug__" : Str)) = false := by decide +kernel
theorem dc_values : (Str.ofString "values" == ("__classdict__" : Str)) = false := by decide +kernel
theorem dd_way : (Str.ofString "way" == ("__debug__" : Str)) = false := by decide +kernel
theorem dc_way : (Str.ofString "way" == ("__classdict__" : Str)) = false := by decide +kernel
theorem dd_ways : (Str.ofString "ways" == ("__debug__" : Str)) = false := by decide +kernel
theorem dc_ways : (Str.ofString "ways" == ("__classdict__" : Str)) = false := by decide +kernel
theorem dd_when : (Str.ofString "when" == ("__debug__" : Str)) = false := by decide +kernel
theorem dc_when : (Str.ofString "when" == ("__classdict__" : Str)) = false := by decide +kernel
theorem dd_whole : (Str.ofString "whole" == ("__debug__" : Str)) = false := by decide +kernel
theorem dc_whole : (Str.ofString "whole" == ("__classdict__" : Str)) = false := by decide +kernel
theorem dd_word : (Str.ofString "word" == ("__debug__" : Str)) = false := by decide +kernel
theorem dc_word : (Str.ofString "word" == ("__classdict__" : Str)) = false := by decide +kernel
theorem dd_worth_of : (Str.ofString "worth_of" == ("__debug__" : Str)) = false := by decide +kernel
theorem dc_worth_of : (Str.ofString "worth_of" == ("__classdict__" : Str)) = false := by decide +kernel
theorem bt_all : bootBuiltins (Str.ofString "all") = some (.builtin "all") := by decide +kernel
theorem bt_bool : bootBuiltins (Str.ofString "bool") = some (.type "bool") := by decide +kernel
theorem bt_dict : bootBuiltins (Str.ofString "dict") = some (.type "dict") := by decide +kernel
theorem bt_enumerate : bootBuiltins (Str.ofString "enumerate") = some (.type "enumerate") := by decide +kernel
theorem bt_int : bootBuiltins (Str.ofString "int") = some (.type "int") := by decide +kernel
theorem bt_isinstance : bootBuiltins (Str.ofString "isinstance") = some (.builtin "isinstance") := by decide +kernel
theorem bt_len : bootBuiltins (Str.ofString "len") = some (.builtin "len") := by decide +kernel
theorem bt_list : bootBuiltins (Str.ofString "list") = some (.type "list") := by decide +kernel
theorem bt_range : bootBuiltins (Str.ofString "range") = some (.type "range") := by decide +kernel
theorem bt_set : bootBuiltins (Str.ofString "set") = some (.type "set") := by decide +kernel
theorem bt_sorted : bootBuiltins (Str.ofString "sorted") = some (.builtin "sorted") := by decide +kernel
theorem bt_tuple : bootBuiltins (Str.ofString "tuple") = some (.type "tuple") := by decide +kernel
theorem bt_zip : bootBuiltins (Str.ofString "zip") = some (.type "zip") := by decide +kernel
structure Tx (K : Fr) (mg : Str → Option Value) : Prop where
  b_all : mg (Str.ofString "all") = none
  b_bool : mg (Str.ofString "bool") = none
  b_dict : mg (Str.ofString "dict") = none
  b_enumerate : mg (Str.ofString "enumerate") = none
  b_int : mg (Str.ofString "int") = none
  b_isinstance : mg (Str.ofString "isinstance") = none
  b_len : mg (Str.ofString "len") = none
  b_list : mg (Str.ofString "list") = none
  b_range : mg (Str.ofString "range") = none
  b_set : mg (Str.ofString "set") = none
  b_sorted : mg (Str.ofString "sorted") = none
  b_tuple : mg (Str.ofString "tuple") = none
  b_zip : mg (Str.ofString "zip") = none
  g_MOST_CALLS : ∃ t, mg (Str.ofString "MOST_CALLS") = some (.int 300 t)
  g_MOST_DEEP : ∃ t, mg (Str.ofString "MOST_DEEP") = some (.int 20 t)
  g_MOST_ROUNDS : ∃ t, mg (Str.ofString "MOST_ROUNDS") = some (.int 1000 t)
  g_VALUES : ∃ t, mg (Str.ofString "VALUES") = some (.int 1000000 t)
  zBroken : ExcAt K mg "Broken"
  zNoDeed : ExcAt K mg "NoDeed"
  zTooDeep : ExcAt K mg "TooDeep"
  zTooLong : ExcAt K mg "TooLong"
  zTwice : ExcAt K mg "Twice"
  zWrongCount : ExcAt K mg "WrongCount"
  iBroken : IsExc K mg "Broken"
  iNoDeed : IsExc K mg "NoDeed"
  iTooDeep : IsExc K mg "TooDeep"
  iTooLong : IsExc K mg "TooLong"
  iTwice : IsExc K mg "Twice"
  iWrongCount : IsExc K mg "WrongCount"
  cBroken : ∃ C, mg (Str.ofString "Broken") = some (.ref C)
  cok : ClsOk K
structure Tab (P : Program) (w : World) (K : Fr) (mg : Str → Option Value) (base : Heap) (Φ : Ph) (k : Nat) : Prop where
  t_joined_worth : FnT P w K mg base Φ k "joined_worth"
  t_worth_of : FnT P w K mg base Φ k "worth_of"
  t_rows_within : FnT P w K mg base Φ k "rows_within"
  t_read_through : FnT P w K mg base Φ k "read_through"
  t_rows_of : FnT P w K mg base Φ k "rows_of"
  t_deed_of : FnT P w K mg base Φ k "deed_of"
  t_look_at_names : FnT P w K mg base Φ k "look_at_names"
  t_look_at_call : FnT P w K mg base Φ k "look_at_call"
  t_made_book : FnT P w K mg base Φ k "made_book"
  t_Running___init__ : MkT P w K mg base Φ 1 "Running" "Running___init__"
  t_Running_begin_round : MtT P w K mg base Φ k "Running" "begin_round" "Running_begin_round"
  t_Running_make_call : MtT P w K mg base Φ k "Running" "make_call" "Running_make_call"
  t_Running_done_deed : MtT P w K mg base Φ k "Running" "done_deed" "Running_done_deed"
  t_Running_do_rows : MtT P w K mg base Φ k "Running" "do_rows" "Running_do_rows"
  t_Running_do_call : MtT P w K mg base Φ k "Running" "do_call" "Running_do_call"
  t_Running_do_when : MtT P w K mg base Φ k "Running" "do_when" "Running_do_when"
  t_Running_do_turn : MtT P w K mg base Φ k "Running" "do_turn" "Running_do_turn"
  t_rising_counts : FnT P w K mg base Φ k "rising_counts"
  t_ran_ways : FnT P w K mg base Φ k "ran_ways"
  t_run_book : FnT P w K mg base Φ k "run_book"
  t__law_pot : FnT P w K mg base Φ k "_law_pot"
  t__law_take : FnT P w K mg base Φ k "_law_take"
  t__law_value : FnT P w K mg base Φ k "_law_value"
  t__law_kind_right : FnT P w K mg base Φ k "_law_kind_right"
  t__law_due : FnT P w K mg base Φ k "_law_due"
  t_law : FnT P w K mg base Φ k "law"
abbrev s_joined_worth : Stmt := top 10
abbrev N_joined_worth : List Str := [Str.ofString "word", Str.ofString "a", Str.ofString "b"]
abbrev ps_joined_worth : List Str := [Str.ofString "word", Str.ofString "a", Str.ofString "b"]
theorem sc_joined_worth : FnScope N_joined_worth ps_joined_worth (defScope s_joined_worth) := ⟨rfl, rfl, rfl, by decide +kernel, rfl, by decide +kernel, by decide +kernel⟩
theorem vi_joined_worth_0 : Vis (defScope s_joined_worth) (Str.ofString "word") := .inl (by decide +kernel)
theorem lo_joined_worth_0 : Loc (defScope s_joined_worth) (Str.ofString "word") := .inl (by decide +kernel)
theorem ll_joined_worth_0 : (defScope s_joined_worth).names.lookup (Str.ofString "word") = some .local := by decide +kernel
theorem vi_joined_worth_1 : Vis (defScope s_joined_worth) (Str.ofString "a") := .inl (by decide +kernel)
theorem lo_joined_worth_1 : Loc (defScope s_joined_worth) (Str.ofString "a") := .inl (by decide +kernel)
theorem ll_joined_worth_1 : (defScope s_joined_worth).names.lookup (Str.ofString "a") = some .local := by decide +kernel
theorem vi_joined_worth_2 : Vis (defScope s_joined_worth) (Str.ofString "b") := .inl (by decide +kernel)
theorem lo_joined_worth_2 : Loc (defScope s_joined_worth) (Str.ofString "b") := .inl (by decide +kernel)
theorem ll_joined_worth_2 : (defScope s_joined_worth).names.lookup (Str.ofString "b") = some .local := by decide +kernel
theorem gl_joined_worth_Broken : (defScope s_joined_worth).names.lookup (Str.ofString "Broken") = some .globalImplicit := by decide +kernel
theorem gl_joined_worth_VALUES : (defScope s_joined_worth).names.lookup (Str.ofString "VALUES") = some .globalImplicit := by decide +kernel
theorem gl_joined_worth_int : (defScope s_joined_worth).names.lookup (Str.ofString "int") = some .globalImplicit := by decide +kernel
theorem b_joined_worth {P : Program} {w : World} {K : Fr} {mg : Str → Option Value} {base : Heap} {n k : Nat} (T : Tx K mg) (Tn : Tab P w K mg base (phi PR n) k) (cdv : Value) (A : Around) (outer : List PySem.Env) (s : Shared) (H : Hp) (E : XK) {a : Addr} (hr : Room k (A.deeper (envOfC (Str.ofString "joined_worth") (defScope s_joined_worth) s.heap.objs.size a cdv))) :
    SB (cxOf (L2.CX P w) P w K mg base N_joined_worth (Str.ofString "joined_worth") (defScope s_joined_worth) a cdv A outer s H E) (phi PR n) (fun cls d _ H => E cls d H) (defBody s_joined_worth) D.joined_worth.body := by
  have hΦ := phi_mono PR n
  have hu := roomH_of hr
  obtain ⟨CBroken, xBroken⟩ := T.zBroken
  exact (sb_cons hΦ (ss_ite hΦ (st_eq hΦ hu .eq (se_vB 0 rfl vi_joined_worth_0 dd_word dc_word) (se_str (strOk_of "plus"))) (sb_one (ss_ret hΦ (se_bin hΦ .mod (se_bin hΦ .add (se_vB 1 rfl vi_joined_worth_1 dd_a dc_a) (se_vB 2 rfl vi_joined_worth_2 dd_b dc_b)) (se_globI gl_joined_worth_VALUES T.g_VALUES dd_VALUES)))) sb_nil)
  (sb_cons hΦ (ss_ite hΦ (st_eq hΦ hu .eq (se_vB 0 rfl vi_joined_worth_0 dd_word dc_word) (se_str (strOk_of "less"))) (sb_one (ss_ret hΦ (se_bin hΦ .mod (se_bin hΦ .sub (se_vB 1 rfl vi_joined_worth_1 dd_a dc_a) (se_vB 2 rfl vi_joined_worth_2 dd_b dc_b)) (se_globI gl_joined_worth_VALUES T.g_VALUES dd_VALUES)))) sb_nil)
  (sb_cons hΦ (ss_ite hΦ (st_eq hΦ hu .eq (se_vB 0 rfl vi_joined_worth_0 dd_word dc_word) (se_str (strOk_of "times"))) (sb_one (ss_ret hΦ (se_bin hΦ .mod (se_bin hΦ .mul (se_vB 1 rfl vi_joined_worth_1 dd_a dc_a) (se_vB 2 rfl vi_joined_worth_2 dd_b dc_b)) (se_globI gl_joined_worth_VALUES T.g_VALUES dd_VALUES)))) sb_nil)
  (sb_cons hΦ (ss_ite hΦ (st_eq hΦ hu .eq (se_vB 0 rfl vi_joined_worth_0 dd_word dc_word) (se_str (strOk_of "under"))) (sb_one (ss_ret hΦ (se_intB hΦ gl_joined_worth_int T.b_int bt_int (by decide) dd_int (se_cmp hΦ .lt (se_vB 1 rfl vi_joined_worth_1 dd_a dc_a) (se_vB 2 rfl vi_joined_worth_2 dd_b dc_b))))) sb_nil)
  (sb_cons hΦ (ss_ite hΦ (st_eq hΦ hu .eq (se_vB 0 rfl vi_joined_worth_0 dd_word dc_word) (se_str (strOk_of "same"))) (sb_one (ss_ret hΦ (se_intB hΦ gl_joined_worth_int T.b_int bt_int (by decide) dd_int (se_eq hΦ hu .eq (se_vB 1 rfl vi_joined_worth_1 dd_a dc_a) (se_vB 2 rfl vi_joined_worth_2 dd_b dc_b))))) sb_nil)
  (sb_cons hΦ (ss_ite hΦ (st_eq hΦ hu .eq (se_vB 2 rfl vi_joined_worth_2 dd_b dc_b) se_int) (sb_one (ss_raise (c := "Broken") PySem.F.excBase_ValueError xBroken.1 xBroken.2.1 xBroken.2.2.1 (raises_own xBroken.2.2.2.1 xBroken.2.2.2.2) gl_joined_worth_Broken T.iBroken rfl (takes_of rfl rfl rfl rfl) dd_Broken)) sb_nil)
  (sb_cons hΦ (ss_ite hΦ (st_eq hΦ hu .eq (se_vB 0 rfl vi_joined_worth_0 dd_word dc_word) (se_str (strOk_of "over"))) (sb_one (ss_ret hΦ (se_bin hΦ .fdiv (se_vB 1 rfl vi_joined_worth_1 dd_a dc_a) (se_vB 2 rfl vi_joined_worth_2 dd_b dc_b)))) sb_nil)
  (sb_one (ss_ret hΦ (se_bin hΦ .mod (se_vB 1 rfl vi_joined_worth_1 dd_a dc_a) (se_vB 2 rfl vi_joined_worth_2 dd_b dc_b)))))))))))
abbrev s_worth_of : Stmt := top 11
abbrev N_worth_of : List Str := [Str.ofString "expression", Str.ofString "held", Str.ofString "a"]
abbrev ps_worth_of : List Str := [Str.ofString "expression", Str.ofString "held"]
theorem sc_worth_of : FnScope N_worth_of ps_worth_of (defScope s_worth_of) := ⟨rfl, rfl, rfl, by decide +kernel, rfl, by decide +kernel, by decide +kernel⟩
theorem vi_worth_of_0 : Vis (defScope s_worth_of) (Str.ofString "expression") := .inl (by decide +kernel)
theorem lo_worth_of_0 : Loc (defScope s_worth_of) (Str.ofString "expression") := .inl (by decide +kernel)
theorem ll_worth_of_0 : (defScope s_worth_of).names.lookup (Str.ofString "expression") = some .local := by decide +kernel
theorem vi_worth_of_1 : Vis (defScope s_worth_of) (Str.ofString "held") := .inl (by decide +kernel)
theorem lo_worth_of_1 : Loc (defScope s_worth_of) (Str.ofString "held") := .inl (by decide +kernel)
theorem ll_worth_of_1 : (defScope s_worth_of).names.lookup (Str.ofString "held") = some .local := by decide +kernel
theorem vi_worth_of_2 : Vis (defScope s_worth_of) (Str.ofString "a") := .inl (by decide +kernel)
theorem lo_worth_of_2 : Loc (defScope s_worth_of) (Str.ofString "a") := .inl (by decide +kernel)
theorem ll_worth_of_2 : (defScope s_worth_of).names.lookup (Str.ofString "a") = some .local := by decide +kernel
theorem gl_worth_of_joined_worth : (defScope s_worth_of).names.lookup (Str.ofString "joined_worth") = some .globalImplicit := by decide +kernel
theorem gl_worth_of_worth_of : (defScope s_worth_of).names.lookup (Str.ofString "worth_of") = some .globalImplicit := by decide +kernel
theorem b_worth_of {P : Program} {w : World} {K : Fr} {mg : Str → Option Value} {base : Heap} {n k : Nat} (T : Tx K mg) (Tn : Tab P w K mg base (phi PR n) k) (cdv : Value) (A : Around) (outer : List PySem.Env) (s : Shared) (H : Hp) (E : XK) {a : Addr} (hr : Room k (A.deeper (envOfC (Str.ofString "worth_of") (defScope s_worth_of) s.heap.objs.size a cdv))) :
    SB (cxOf (L2.CX P w) P w K mg base N_worth_of (Str.ofString "worth_of") (defScope s_worth_of) a cdv A outer s H E) (phi PR n) (fun cls d _ H => E cls d H) (defBody s_worth_of) D.worth_of.body := by
  have hΦ := phi_mono PR n
  have hu := roomH_of hr
  exact (sb_cons hΦ (ss_ite hΦ (st_eq hΦ hu .eq (se_ix hΦ hu (se_vB 0 rfl vi_worth_of_0 dd_expression dc_expression) se_int) (se_str (strOk_of "number"))) (sb_one (ss_ret hΦ (se_ix hΦ hu (se_vB 0 rfl vi_worth_of_0 dd_expression dc_expression) se_int))) sb_nil)
  (sb_cons hΦ (ss_ite hΦ (st_eq hΦ hu .eq (se_ix hΦ hu (se_vB 0 rfl vi_worth_of_0 dd_expression dc_expression) se_int) (se_str (strOk_of "name"))) (sb_one (ss_ret hΦ (se_get hu hΦ (se_vB 1 rfl vi_worth_of_1 dd_held dc_held) (se_ix hΦ hu (se_vB 0 rfl vi_worth_of_0 dd_expression dc_expression) se_int) se_int))) sb_nil)
  (sb_cons hΦ (ss_asg (i := 2) hΦ sc_worth_of.nd rfl (lo_worth_of_2) (se_call (f := "worth_of") (m := .val) hΦ Tn.t_worth_of hr (takes_of rfl rfl rfl rfl) gl_worth_of_worth_of (sa_cons hΦ (se_ix hΦ hu (se_vB 0 rfl vi_worth_of_0 dd_expression dc_expression) se_int) (sa_cons hΦ (se_vB 1 rfl vi_worth_of_1 dd_held dc_held) sa_nil)) dd_worth_of) rfl (.inl rfl))
  (sb_one (ss_ret hΦ (se_call (f := "joined_worth") (m := .val) hΦ Tn.t_joined_worth hr (takes_of rfl rfl rfl rfl) gl_worth_of_joined_worth (sa_cons hΦ (se_ix hΦ hu (se_vB 0 rfl vi_worth_of_0 dd_expression dc_expression) se_int) (sa_cons hΦ (se_vB 2 rfl vi_worth_of_2 dd_a dc_a) (sa_cons hΦ (se_call (f := "worth_of") (m := .val) hΦ Tn.t_worth_of hr (takes_of rfl rfl rfl rfl) gl_worth_of_worth_of (sa_cons hΦ (se_ix hΦ hu (se_vB 0 rfl vi_worth_of_0 dd_expression dc_expression) se_int) (sa_cons hΦ (se_vB 1 rfl vi_worth_of_1 dd_held dc_held) sa_nil)) dd_worth_of) sa_nil))) dd_joined_worth))))))
abbrev s_rows_within : Stmt := top 13
abbrev N_rows_within : List Str := [Str.ofString "row"]
abbrev ps_rows_within : List Str := [Str.ofString "row"]
theorem sc_rows_within : FnScope N_rows_within ps_rows_within (defScope s_rows_within) := ⟨rfl, rfl, rfl, by decide +kernel, rfl, by decide +kernel, by decide +kernel⟩
theorem vi_rows_within_0 : Vis (defScope s_rows_within) (Str.ofString "row") := .inl (by decide +kernel)
theorem lo_rows_within_0 : Loc (defScope s_rows_within) (Str.ofString "row") := .inl (by decide +kernel)
theorem ll_rows_within_0 : (defScope s_rows_within).names.lookup (Str.ofString "row") = some .local := by decide +kernel
theorem b_rows_within {P : Program} {w : World} {K : Fr} {mg : Str → Option Value} {base : Heap} {n k : Nat} (T : Tx K mg) (Tn : Tab P w K mg base (phi PR n) k) (cdv : Value) (A : Around) (outer : List PySem.Env) (s : Shared) (H : Hp) (E : XK) {a : Addr} (hr : Room k (A.deeper (envOfC (Str.ofString "rows_within") (defScope s_rows_within) s.heap.objs.size a cdv))) :
    SB (cxOf (L2.CX P w) P w K mg base N_rows_within (Str.ofString "rows_within") (defScope s_rows_within) a cdv A outer s H E) (phi PR n) (fun cls d _ H => E cls d H) (defBody s_rows_within) D.rows_within.body := by
  have hΦ := phi_mono PR n
  have hu := roomH_of hr
  exact (sb_cons hΦ (ss_ite hΦ (st_eq hΦ hu .eq (se_ix hΦ hu (se_vB 0 rfl vi_rows_within_0 dd_row dc_row) se_int) (se_str (strOk_of "when"))) (sb_one (ss_ret hΦ (se_bin hΦ .add (se_ix hΦ hu (se_vB 0 rfl vi_rows_within_0 dd_row dc_row) se_int) (se_ix hΦ hu (se_vB 0 rfl vi_rows_within_0 dd_row dc_row) se_int)))) sb_nil)
  (sb_cons hΦ (ss_ite hΦ (st_eq hΦ hu .eq (se_ix hΦ hu (se_vB 0 rfl vi_rows_within_0 dd_row dc_row) se_int) (se_str (strOk_of "turn"))) (sb_one (ss_ret hΦ (se_ix hΦ hu (se_vB 0 rfl vi_rows_within_0 dd_row dc_row) se_int))) sb_nil)
  (sb_one (ss_ret hΦ (se_tup hΦ sa_nil)))))
abbrev s_read_through : Stmt := top 14
abbrev N_read_through : List Str := [Str.ofString "rows", Str.ofString "found", Str.ofString "row"]
abbrev ps_read_through : List Str := [Str.ofString "rows"]
theorem sc_read_through : FnScope N_read_through ps_read_through (defScope s_read_through) := ⟨rfl, rfl, rfl, by decide +kernel, rfl, by decide +kernel, by decide +kernel⟩
theorem vi_read_through_0 : Vis (defScope s_read_through) (Str.ofString "rows") := .inl (by decide +kernel)
theorem lo_read_through_0 : Loc (defScope s_read_through) (Str.ofString "rows") := .inl (by decide +kernel)
theorem ll_read_through_0 : (defScope s_read_through).names.lookup (Str.ofString "rows") = some .local := by decide +kernel
theorem vi_read_through_1 : Vis (defScope s_read_through) (Str.ofString "found") := .inl (by decide +kernel)
theorem lo_read_through_1 : Loc (defScope s_read_through) (Str.ofString "found") := .inl (by decide +kernel)
theorem ll_read_through_1 : (defScope s_read_through).names.lookup (Str.ofString "found") = some .local := by decide +kernel
theorem vi_read_through_2 : Vis (defScope s_read_through) (Str.ofString "row") := .inl (by decide +kernel)
theorem lo_read_through_2 : Loc (defScope s_read_through) (Str.ofString "row") := .inl (by decide +kernel)
theorem ll_read_through_2 : (defScope s_read_through).names.lookup (Str.ofString "row") = some .local := by decide +kernel
theorem gl_read_through_read_through : (defScope s_read_through).names.lookup (Str.ofString "read_through") = some .globalImplicit := by decide +kernel
theorem gl_read_through_rows_within : (defScope s_read_through).names.lookup (Str.ofString "rows_within") = some .globalImplicit := by decide +kernel
theorem b_read_through {P : Program} {w : World} {K : Fr} {mg : Str → Option Value} {base : Heap} {n k : Nat} (T : Tx K mg) (Tn : Tab P w K mg base (phi PR n) k) (cdv : Value) (A : Around) (outer : List PySem.Env) (s : Shared) (H : Hp) (E : XK) {a : Addr} (hr : Room k (A.deeper (envOfC (Str.ofString "read_through") (defScope s_read_through) s.heap.objs.size a cdv))) :
    SB (cxOf (L2.CX P w) P w K mg base N_read_through (Str.ofString "read_through") (defScope s_read_through) a cdv A outer s H E) (phi PR n) (fun cls d _ H => E cls d H) (defBody s_read_through) D.read_through.body := by
  have hΦ := phi_mono PR n
  have hu := roomH_of hr
  exact (sb_cons hΦ (ss_asg (i := 1) hΦ sc_read_through.nd rfl (lo_read_through_1) (SF.new hΦ (sf_lst hΦ sa_nil)) rfl (.inl rfl))
  (sb_cons hΦ (ss_for (t := (.n 2)) hΦ (passes_of rfl) rfl (si_e hΦ (se_vB 0 rfl vi_read_through_0 dd_rows dc_rows)) (pg_name (i := 2) sc_read_through.nd rfl (lo_read_through_2) (.inl rfl)) (sb_cons hΦ (ss_ex hΦ (se_append hΦ (se_vB 1 rfl vi_read_through_1 dd_found dc_found) (se_vB 2 rfl vi_read_through_2 dd_row dc_row)))
  (sb_one (ss_ex hΦ (se_extend hΦ (se_vB 1 rfl vi_read_through_1 dd_found dc_found) (se_call (f := "read_through") (m := .val) hΦ Tn.t_read_through hr (takes_of rfl rfl rfl rfl) gl_read_through_read_through (sa_cons hΦ (se_call (f := "rows_within") (m := .val) hΦ Tn.t_rows_within hr (takes_of rfl rfl rfl rfl) gl_read_through_rows_within (sa_cons hΦ (se_vB 2 rfl vi_read_through_2 dd_row dc_row) sa_nil) dd_rows_within) sa_nil) dd_read_through))))))
  (sb_one (ss_ret hΦ (se_vB 1 rfl vi_read_through_1 dd_found dc_found)))))
abbrev s_rows_of : Stmt := top 15
abbrev N_rows_of : List Str := [Str.ofString "deed"]
abbrev ps_rows_of : List Str := [Str.ofString "deed"]
theorem sc_rows_of : FnScope N_rows_of ps_rows_of (defScope s_rows_of) := ⟨rfl, rfl, rfl, by decide +kernel, rfl, by decide +kernel, by decide +kernel⟩
theorem vi_rows_of_0 : Vis (defScope s_rows_of) (Str.ofString "deed") := .inl (by decide +kernel)
theorem lo_rows_of_0 : Loc (defScope s_rows_of) (Str.ofString "deed") := .inl (by decide +kernel)
theorem ll_rows_of_0 : (defScope s_rows_of).names.lookup (Str.ofString "deed") = some .local := by decide +kernel
theorem gl_rows_of_read_through : (defScope s_rows_of).names.lookup (Str.ofString "read_through") = some .globalImplicit := by decide +kernel
theorem b_rows_of {P : Program} {w : World} {K : Fr} {mg : Str → Option Value} {base : Heap} {n k : Nat} (T : Tx K mg) (Tn : Tab P w K mg base (phi PR n) k) (cdv : Value) (A : Around) (outer : List PySem.Env) (s : Shared) (H : Hp) (E : XK) {a : Addr} (hr : Room k (A.deeper (envOfC (Str.ofString "rows_of") (defScope s_rows_of) s.heap.objs.size a cdv))) :
    SB (cxOf (L2.CX P w) P w K mg base N_rows_of (Str.ofString "rows_of") (defScope s_rows_of) a cdv A outer s H E) (phi PR n) (fun cls d _ H => E cls d H) (defBody s_rows_of) D.rows_of.body := by
  have hΦ := phi_mono PR n
  have hu := roomH_of hr
  exact (sb_one (ss_ret hΦ (se_call (f := "read_through") (m := .val) hΦ Tn.t_read_through hr (takes_of rfl rfl rfl rfl) gl_rows_of_read_through (sa_cons hΦ (se_ix hΦ hu (se_vB 0 rfl vi_rows_of_0 dd_deed dc_deed) se_int) sa_nil) dd_read_through)))
abbrev s_deed_of : Stmt := top 16
abbrev N_deed_of : List Str := [Str.ofString "book", Str.ofString "name", Str.ofString "deed"]
abbrev ps_deed_of : List Str := [Str.ofString "book", Str.ofString "name"]
theorem sc_deed_of : FnScope N_deed_of ps_deed_of (defScope s_deed_of) := ⟨rfl, rfl, rfl, by decide +kernel, rfl, by decide +kernel, by decide +kernel⟩
theorem vi_deed_of_0 : Vis (defScope s_deed_of) (Str.ofString "book") := .inl (by decide +kernel)
theorem lo_deed_of_0 : Loc (defScope s_deed_of) (Str.ofString "book") := .inl (by decide +kernel)
theorem ll_deed_of_0 : (defScope s_deed_of).names.lookup (Str.ofString "book") = some .local := by decide +kernel
theorem vi_deed_of_1 : Vis (defScope s_deed_of) (Str.ofString "name") := .inl (by decide +kernel)
theorem lo_deed_of_1 : Loc (defScope s_deed_of) (Str.ofString "name") := .inl (by decide +kernel)
theorem ll_deed_of_1 : (defScope s_deed_of).names.lookup (Str.ofString "name") = some .local := by decide +kernel
theorem vi_deed_of_2 : Vis (defScope s_deed_of) (Str.ofString "deed") := .inl (by decide +kernel)
theorem lo_deed_of_2 : Loc (defScope s_deed_of) (Str.ofString "deed") := .inl (by decide +kernel)
theorem ll_deed_of_2 : (defScope s_deed_of).names.lookup (Str.ofString "deed") = some .local := by decide +kernel
theorem gl_deed_of_NoDeed : (defScope s_deed_of).names.lookup (Str.ofString "NoDeed") = some .globalImplicit := by decide +kernel
theorem b_deed_of {P : Program} {w : World} {K : Fr} {mg : Str → Option Value} {base : Heap} {n k : Nat} (T : Tx K mg) (Tn : Tab P w K mg base (phi PR n) k) (cdv : Value) (A : Around) (outer : List PySem.Env) (s : Shared) (H : Hp) (E : XK) {a : Addr} (hr : Room k (A.deeper (envOfC (Str.ofString "deed_of") (defScope s_deed_of) s.heap.objs.size a cdv))) :
    SB (cxOf (L2.CX P w) P w K mg base N_deed_of (Str.ofString "deed_of") (defScope s_deed_of) a cdv A outer s H E) (phi PR n) (fun cls d _ H => E cls d H) (defBody s_deed_of) D.deed_of.body := by
  have hΦ := phi_mono PR n
  have hu := roomH_of hr
  obtain ⟨CNoDeed, xNoDeed⟩ := T.zNoDeed
  exact (sb_cons hΦ (ss_for (t := (.n 2)) hΦ (passes_of rfl) rfl (si_e hΦ (se_vB 0 rfl vi_deed_of_0 dd_book dc_book)) (pg_name (i := 2) sc_deed_of.nd rfl (lo_deed_of_2) (.inl rfl)) (sb_one (ss_ite hΦ (st_eq hΦ hu .eq (se_ix hΦ hu (se_vB 2 rfl vi_deed_of_2 dd_deed dc_deed) se_int) (se_vB 1 rfl vi_deed_of_1 dd_name dc_name)) (sb_one (ss_ret hΦ (se_vB 2 rfl vi_deed_of_2 dd_deed dc_deed))) sb_nil)))
  (sb_one (ss_raise (c := "NoDeed") PySem.F.excBase_ValueError xNoDeed.1 xNoDeed.2.1 xNoDeed.2.2.1 (raises_own xNoDeed.2.2.2.1 xNoDeed.2.2.2.2) gl_deed_of_NoDeed T.iNoDeed rfl (takes_of rfl rfl rfl rfl) dd_NoDeed)))
abbrev s_look_at_names : Stmt := top 17
abbrev N_look_at_names : List Str := [Str.ofString "deeds", Str.ofString "names", Str.ofString "name", Str.ofString "params", Str.ofString "rows", Str.ofString "give"]
abbrev ps_look_at_names : List Str := [Str.ofString "deeds"]
theorem sc_look_at_names : FnScope N_look_at_names ps_look_at_names (defScope s_look_at_names) := ⟨rfl, rfl, rfl, by decide +kernel, rfl, by decide +kernel, by decide +kernel⟩
theorem vi_look_at_names_0 : Vis (defScope s_look_at_names) (Str.ofString "deeds") := .inl (by decide +kernel)
theorem lo_look_at_names_0 : Loc (defScope s_look_at_names) (Str.ofString "deeds") := .inl (by decide +kernel)
theorem ll_look_at_names_0 : (defScope s_look_at_names).names.lookup (Str.ofString "deeds") = some .local := by decide +kernel
theorem vi_look_at_names_1 : Vis (defScope s_look_at_names) (Str.ofString "names") := .inl (by decide +kernel)
theorem lo_look_at_names_1 : Loc (defScope s_look_at_names) (Str.ofString "names") := .inl (by decide +kernel)
theorem ll_look_at_names_1 : (defScope s_look_at_names).names.lookup (Str.ofString "names") = some .local := by decide +kernel
theorem vi_look_at_names_2 : Vis (defScope s_look_at_names) (Str.ofString "name") := .inl (by decide +kernel)
theorem lo_look_at_names_2 : Loc (defScope s_look_at_names) (Str.ofString "name") := .inl (by decide +kernel)
theorem ll_look_at_names_2 : (defScope s_look_at_names).names.lookup (Str.ofString "name") = some .local := by decide +kernel
theorem vi_look_at_names_3 : Vis (defScope s_look_at_names) (Str.ofString "params") := .inl (by decide +kernel)
theorem lo_look_at_names_3 : Loc (defScope s_look_at_names) (Str.ofString "params") := .inl (by decide +kernel)
theorem ll_look_at_names_3 : (defScope s_look_at_names).names.lookup (Str.ofString "params") = some .local := by decide +kernel
theorem vi_look_at_names_4 : Vis (defScope s_look_at_names) (Str.ofString "rows") := .inl (by decide +kernel)
theorem lo_look_at_names_4 : Loc (defScope s_look_at_names) (Str.ofString "rows") := .inl (by decide +kernel)
theorem ll_look_at_names_4 : (defScope s_look_at_names).names.lookup (Str.ofString "rows") = some .local := by decide +kernel
theorem vi_look_at_names_5 : Vis (defScope s_look_at_names) (Str.ofString "give") := .inl (by decide +kernel)
theorem lo_look_at_names_5 : Loc (defScope s_look_at_names) (Str.ofString "give") := .inl (by decide +kernel)
theorem ll_look_at_names_5 : (defScope s_look_at_names).names.lookup (Str.ofString "give") = some .local := by decide +kernel
theorem gl_look_at_names_Twice : (defScope s_look_at_names).names.lookup (Str.ofString "Twice") = some .globalImplicit := by decide +kernel
theorem gl_look_at_names_len : (defScope s_look_at_names).names.lookup (Str.ofString "len") = some .globalImplicit := by decide +kernel
theorem gl_look_at_names_set : (defScope s_look_at_names).names.lookup (Str.ofString "set") = some .globalImplicit := by decide +kernel
theorem b_look_at_names {P : Program} {w : World} {K : Fr} {mg : Str → Option Value} {base : Heap} {n k : Nat} (T : Tx K mg) (Tn : Tab P w K mg base (phi PR n) k) (cdv : Value) (A : Around) (outer : List PySem.Env) (s : Shared) (H : Hp) (E : XK) {a : Addr} (hr : Room k (A.deeper (envOfC (Str.ofString "look_at_names") (defScope s_look_at_names) s.heap.objs.size a cdv))) :
    SB (cxOf (L2.CX P w) P w K mg base N_look_at_names (Str.ofString "look_at_names") (defScope s_look_at_names) a cdv A outer s H E) (phi PR n) (fun cls d _ H => E cls d H) (defBody s_look_at_names) D.look_at_names.body := by
  have hΦ := phi_mono PR n
  have hu := roomH_of hr
  obtain ⟨CTwice, xTwice⟩ := T.zTwice
  exact (sb_cons hΦ (ss_asg (i := 1) hΦ sc_look_at_names.nd rfl (lo_look_at_names_1) (SF.new hΦ (sf_lst hΦ sa_nil)) rfl (.inl rfl))
  (sb_one (ss_for (t := (.t [(.n 2), (.n 3), (.n 4), (.n 5)])) hΦ (passes_of rfl) rfl (si_e hΦ (se_vB 0 rfl vi_look_at_names_0 dd_deeds dc_deeds)) (pg_seq rfl (pgs_cons (pg_name (i := 2) sc_look_at_names.nd rfl (lo_look_at_names_2) (.inl rfl)) (pgs_cons (pg_name (i := 3) sc_look_at_names.nd rfl (lo_look_at_names_3) (.inl rfl)) (pgs_cons (pg_name (i := 4) sc_look_at_names.nd rfl (lo_look_at_names_4) (.inl rfl)) (pgs_cons (pg_name (i := 5) sc_look_at_names.nd rfl (lo_look_at_names_5) (.inl rfl)) pgs_nil))))) (sb_cons hΦ (ss_ite hΦ (SW.t (sw_or hΦ (st_in hΦ hu .isin (se_vB 2 rfl vi_look_at_names_2 dd_name dc_name) (se_vB 1 rfl vi_look_at_names_1 dd_names dc_names)) (sw_or1 (st_cmp hΦ .lt (se_lenset hΦ gl_look_at_names_len T.b_len bt_len (by decide) dd_len gl_look_at_names_set T.b_set bt_set (by decide) dd_set (se_vB 3 rfl vi_look_at_names_3 dd_params dc_params)) (se_len hΦ gl_look_at_names_len T.b_len bt_len (by decide) dd_len (se_vB 3 rfl vi_look_at_names_3 dd_params dc_params)))))) (sb_one (ss_raise (c := "Twice") PySem.F.excBase_ValueError xTwice.1 xTwice.2.1 xTwice.2.2.1 (raises_own xTwice.2.2.2.1 xTwice.2.2.2.2) gl_look_at_names_Twice T.iTwice rfl (takes_of rfl rfl rfl rfl) dd_Twice)) sb_nil)
  (sb_one (ss_ex hΦ (se_append hΦ (se_vB 1 rfl vi_look_at_names_1 dd_names dc_names) (se_vB 2 rfl vi_look_at_names_2 dd_name dc_name))))))))
abbrev s_look_at_call : Stmt := top 18
abbrev N_look_at_call : List Str := [Str.ofString "deeds", Str.ofString "row", Str.ofString "marks"]
abbrev ps_look_at_call : List Str := [Str.ofString "deeds", Str.ofString "row", Str.ofString "marks"]
theorem sc_look_at_call : FnScope N_look_at_call ps_look_at_call (defScope s_look_at_call) := ⟨rfl, rfl, rfl, by decide +kernel, rfl, by decide +kernel, by decide +kernel⟩
theorem vi_look_at_call_0 : Vis (defScope s_look_at_call) (Str.ofString "deeds") := .inl (by decide +kernel)
theorem lo_look_at_call_0 : Loc (defScope s_look_at_call) (Str.ofString "deeds") := .inl (by decide +kernel)
theorem ll_look_at_call_0 : (defScope s_look_at_call).names.lookup (Str.ofString "deeds") = some .local := by decide +kernel
theorem vi_look_at_call_1 : Vis (defScope s_look_at_call) (Str.ofString "row") := .inl (by decide +kernel)
theorem lo_look_at_call_1 : Loc (defScope s_look_at_call) (Str.ofString "row") := .inl (by decide +kernel)
theorem ll_look_at_call_1 : (defScope s_look_at_call).names.lookup (Str.ofString "row") = some .local := by decide +kernel
theorem vi_look_at_call_2 : Vis (defScope s_look_at_call) (Str.ofString "marks") := .inl (by decide +kernel)
theorem lo_look_at_call_2 : Loc (defScope s_look_at_call) (Str.ofString "marks") := .inl (by decide +kernel)
theorem ll_look_at_call_2 : (defScope s_look_at_call).names.lookup (Str.ofString "marks") = some .local := by decide +kernel
theorem gl_look_at_call_Twice : (defScope s_look_at_call).names.lookup (Str.ofString "Twice") = some .globalImplicit := by decide +kernel
theorem gl_look_at_call_WrongCount : (defScope s_look_at_call).names.lookup (Str.ofString "WrongCount") = some .globalImplicit := by decide +kernel
theorem gl_look_at_call_deed_of : (defScope s_look_at_call).names.lookup (Str.ofString "deed_of") = some .globalImplicit := by decide +kernel
theorem gl_look_at_call_len : (defScope s_look_at_call).names.lookup (Str.ofString "len") = some .globalImplicit := by decide +kernel
theorem b_look_at_call {P : Program} {w : World} {K : Fr} {mg : Str → Option Value} {base : Heap} {n k : Nat} (T : Tx K mg) (Tn : Tab P w K mg base (phi PR n) k) (cdv : Value) (A : Around) (outer : List PySem.Env) (s : Shared) (H : Hp) (E : XK) {a : Addr} (hr : Room k (A.deeper (envOfC (Str.ofString "look_at_call") (defScope s_look_at_call) s.heap.objs.size a cdv))) :
    SB (cxOf (L2.CX P w) P w K mg base N_look_at_call (Str.ofString "look_at_call") (defScope s_look_at_call) a cdv A outer s H E) (phi PR n) (fun cls d _ H => E cls d H) (defBody s_look_at_call) D.look_at_call.body := by
  have hΦ := phi_mono PR n
  have hu := roomH_of hr
  obtain ⟨CTwice, xTwice⟩ := T.zTwice
  obtain ⟨CWrongCount, xWrongCount⟩ := T.zWrongCount
  exact (sb_cons hΦ (ss_ite hΦ (st_eq hΦ hu .ne (se_len hΦ gl_look_at_call_len T.b_len bt_len (by decide) dd_len (se_ix hΦ hu (se_vB 1 rfl vi_look_at_call_1 dd_row dc_row) se_int)) (se_len hΦ gl_look_at_call_len T.b_len bt_len (by decide) dd_len (se_ix hΦ hu (se_call (f := "deed_of") (m := .val) hΦ Tn.t_deed_of hr (takes_of rfl rfl rfl rfl) gl_look_at_call_deed_of (sa_cons hΦ (se_vB 0 rfl vi_look_at_call_0 dd_deeds dc_deeds) (sa_cons hΦ (se_ix hΦ hu (se_vB 1 rfl vi_look_at_call_1 dd_row dc_row) se_int) sa_nil)) dd_deed_of) se_int))) (sb_one (ss_raise (c := "WrongCount") PySem.F.excBase_ValueError xWrongCount.1 xWrongCount.2.1 xWrongCount.2.2.1 (raises_own xWrongCount.2.2.2.1 xWrongCount.2.2.2.2) gl_look_at_call_WrongCount T.iWrongCount rfl (takes_of rfl rfl rfl rfl) dd_WrongCount)) sb_nil)
  (sb_one (ss_ite hΦ (st_in hΦ hu .isin (se_ix hΦ hu (se_vB 1 rfl vi_look_at_call_1 dd_row dc_row) se_int) (se_vB 2 rfl vi_look_at_call_2 dd_marks dc_marks)) (sb_one (ss_raise (c := "Twice") PySem.F.excBase_ValueError xTwice.1 xTwice.2.1 xTwice.2.2.1 (raises_own xTwice.2.2.2.1 xTwice.2.2.2.2) gl_look_at_call_Twice T.iTwice rfl (takes_of rfl rfl rfl rfl) dd_Twice)) sb_nil)))
abbrev s_made_book : Stmt := top 19
abbrev N_made_book : List Str := [Str.ofString "deeds", Str.ofString "marks", Str.ofString "deed", Str.ofString "row"]
abbrev ps_made_book : List Str := [Str.ofString "deeds"]
theorem sc_made_book : FnScope N_made_book ps_made_book (defScope s_made_book) := ⟨rfl, rfl, rfl, by decide +kernel, rfl, by decide +kernel, by decide +kernel⟩
theorem vi_made_book_0 : Vis (defScope s_made_book) (Str.ofString "deeds") := .inl (by decide +kernel)
theorem lo_made_book_0 : Loc (defScope s_made_book) (Str.ofString "deeds") := .inl (by decide +kernel)
theorem ll_made_book_0 : (defScope s_made_book).names.lookup (Str.ofString "deeds") = some .local := by decide +kernel
theorem vi_made_book_1 : Vis (defScope s_made_book) (Str.ofString "marks") := .inl (by decide +kernel)
theorem lo_made_book_1 : Loc (defScope s_made_book) (Str.ofString "marks") := .inl (by decide +kernel)
theorem ll_made_book_1 : (defScope s_made_book).names.lookup (Str.ofString "marks") = some .local := by decide +kernel
theorem vi_made_book_2 : Vis (defScope s_made_book) (Str.ofString "deed") := .inl (by decide +kernel)
theorem lo_made_book_2 : Loc (defScope s_made_book) (Str.ofString "deed") := .inl (by decide +kernel)
theorem ll_made_book_2 : (defScope s_made_book).names.lookup (Str.ofString "deed") = some .local := by decide +kernel
theorem vi_made_book_3 : Vis (defScope s_made_book) (Str.ofString "row") := .inl (by decide +kernel)
theorem lo_made_book_3 : Loc (defScope s_made_book) (Str.ofString "row") := .inl (by decide +kernel)
theorem ll_made_book_3 : (defScope s_made_book).names.lookup (Str.ofString "row") = some .local := by decide +kernel
theorem gl_made_book_look_at_call : (defScope s_made_book).names.lookup (Str.ofString "look_at_call") = some .globalImplicit := by decide +kernel
theorem gl_made_book_look_at_names : (defScope s_made_book).names.lookup (Str.ofString "look_at_names") = some .globalImplicit := by decide +kernel
theorem gl_made_book_rows_of : (defScope s_made_book).names.lookup (Str.ofString "rows_of") = some .globalImplicit := by decide +kernel
theorem gl_made_book_tuple : (defScope s_made_book).names.lookup (Str.ofString "tuple") = some .globalImplicit := by decide +kernel
theorem b_made_book {P : Program} {w : World} {K : Fr} {mg : Str → Option Value} {base : Heap} {n k : Nat} (T : Tx K mg) (Tn : Tab P w K mg base (phi PR n) k) (cdv : Value) (A : Around) (outer : List PySem.Env) (s : Shared) (H : Hp) (E : XK) {a : Addr} (hr : Room k (A.deeper (envOfC (Str.ofString "made_book") (defScope s_made_book) s.heap.objs.size a cdv))) :
    SB (cxOf (L2.CX P w) P w K mg base N_made_book (Str.ofString "made_book") (defScope s_made_book) a cdv A outer s H E) (phi PR n) (fun cls d _ H => E cls d H) (defBody s_made_book) D.made_book.body := by
  have hΦ := phi_mono PR n
  have hu := roomH_of hr
  exact (sb_cons hΦ (ss_ex hΦ (se_call (f := "look_at_names") (m := .val) hΦ Tn.t_look_at_names hr (takes_of rfl rfl rfl rfl) gl_made_book_look_at_names (sa_cons hΦ (se_vB 0 rfl vi_made_book_0 dd_deeds dc_deeds) sa_nil) dd_look_at_names))
  (sb_cons hΦ (ss_asg (i := 1) hΦ sc_made_book.nd rfl (lo_made_book_1) (SF.new hΦ (sf_lst hΦ sa_nil)) rfl (.inl rfl))
  (sb_cons hΦ (ss_for (t := (.n 2)) hΦ (passes_of rfl) rfl (si_e hΦ (se_vB 0 rfl vi_made_book_0 dd_deeds dc_deeds)) (pg_name (i := 2) sc_made_book.nd rfl (lo_made_book_2) (.inl rfl)) (sb_one (ss_for (t := (.n 3)) hΦ (passes_of rfl) rfl (si_e hΦ (se_call (f := "rows_of") (m := .val) hΦ Tn.t_rows_of hr (takes_of rfl rfl rfl rfl) gl_made_book_rows_of (sa_cons hΦ (se_vB 2 rfl vi_made_book_2 dd_deed dc_deed) sa_nil) dd_rows_of)) (pg_name (i := 3) sc_made_book.nd rfl (lo_made_book_3) (.inl rfl)) (sb_one (ss_ite hΦ (st_eq hΦ hu .eq (se_ix hΦ hu (se_vB 3 rfl vi_made_book_3 dd_row dc_row) se_int) (se_str (strOk_of "call"))) (sb_cons hΦ (ss_ex hΦ (se_call (f := "look_at_call") (m := .val) hΦ Tn.t_look_at_call hr (takes_of rfl rfl rfl rfl) gl_made_book_look_at_call (sa_cons hΦ (se_vB 0 rfl vi_made_book_0 dd_deeds dc_deeds) (sa_cons hΦ (se_vB 3 rfl vi_made_book_3 dd_row dc_row) (sa_cons hΦ (se_vB 1 rfl vi_made_book_1 dd_marks dc_marks) sa_nil))) dd_look_at_call))
  (sb_one (ss_ex hΦ (se_append hΦ (se_vB 1 rfl vi_made_book_1 dd_marks dc_marks) (se_ix hΦ hu (se_vB 3 rfl vi_made_book_3 dd_row dc_row) se_int))))) sb_nil)))))
  (sb_one (ss_ret hΦ (se_tuple hΦ gl_made_book_tuple T.b_tuple bt_tuple (by decide) dd_tuple (se_vB 0 rfl vi_made_book_0 dd_deeds dc_deeds)))))))
abbrev s_Running___init__ : Stmt := inClass (top 24) 0
abbrev N_Running___init__ : List Str := [Str.ofString "self", Str.ofString "book"]
abbrev ps_Running___init__ : List Str := [Str.ofString "self", Str.ofString "book"]
theorem sc_Running___init__ : FnScope N_Running___init__ ps_Running___init__ (defScope s_Running___init__) := ⟨rfl, rfl, rfl, by decide +kernel, rfl, by decide +kernel, by decide +kernel⟩
theorem vi_Running___init___0 : Vis (defScope s_Running___init__) (Str.ofString "self") := .inl (by decide +kernel)
theorem lo_Running___init___0 : Loc (defScope s_Running___init__) (Str.ofString "self") := .inl (by decide +kernel)
theorem ll_Running___init___0 : (defScope s_Running___init__).names.lookup (Str.ofString "self") = some .local := by decide +kernel
theorem vi_Running___init___1 : Vis (defScope s_Running___init__) (Str.ofString "book") := .inl (by decide +kernel)
theorem lo_Running___init___1 : Loc (defScope s_Running___init__) (Str.ofString "book") := .inl (by decide +kernel)
theorem ll_Running___init___1 : (defScope s_Running___init__).names.lookup (Str.ofString "book") = some .local := by decide +kernel
theorem b_Running___init__ {P : Program} {w : World} {K : Fr} {mg : Str → Option Value} {base : Heap} {n k : Nat} (T : Tx K mg) (cdv : Value) (A : Around) (outer : List PySem.Env) (s : Shared) (H : Hp) (E : XK) {a : Addr} (hr : Room k (A.deeper (envOfC (Str.ofString "Running.__init__") (defScope s_Running___init__) s.heap.objs.size a cdv))) :
    SB (cxOf (L2.CX P w) P w K mg base N_Running___init__ (Str.ofString "Running.__init__") (defScope s_Running___init__) a cdv A outer s H E) (phi PR n) (fun cls d _ H => E cls d H) (defBody s_Running___init__) D.Running___init__.body := by
  have hΦ := phi_mono PR n
  have hu := roomH_of hr
  exact (sb_cons hΦ (ss_setattr (f := "book") hΦ T.cok (se_vB 0 rfl vi_Running___init___0 dd_self dc_self) (se_vB 1 rfl vi_Running___init___1 dd_book dc_book))
  (sb_cons hΦ (ss_setattr (f := "said") hΦ T.cok (se_vB 0 rfl vi_Running___init___0 dd_self dc_self) (SF.new hΦ (sf_lst hΦ sa_nil)))
  (sb_cons hΦ (ss_setattr (f := "begun_rows") hΦ T.cok (se_vB 0 rfl vi_Running___init___0 dd_self dc_self) se_int)
  (sb_cons hΦ (ss_setattr (f := "begun_rounds") hΦ T.cok (se_vB 0 rfl vi_Running___init___0 dd_self dc_self) se_int)
  (sb_cons hΦ (ss_setattr (f := "made_calls") hΦ T.cok (se_vB 0 rfl vi_Running___init___0 dd_self dc_self) se_int)
  (sb_cons hΦ (ss_setattr (f := "counts") hΦ T.cok (se_vB 0 rfl vi_Running___init___0 dd_self dc_self) (SF.new hΦ sf_dct0))
  (sb_cons hΦ (ss_setattr (f := "way") hΦ T.cok (se_vB 0 rfl vi_Running___init___0 dd_self dc_self) (se_tup hΦ sa_nil))
  (sb_one (ss_setattr (f := "ways") hΦ T.cok (se_vB 0 rfl vi_Running___init___0 dd_self dc_self) (SF.new hΦ sf_dct0))))))))))
abbrev s_Running_begin_round : Stmt := inClass (top 24) 1
abbrev N_Running_begin_round : List Str := [Str.ofString "self"]
abbrev ps_Running_begin_round : List Str := [Str.ofString "self"]
theorem sc_Running_begin_round : FnScope N_Running_begin_round ps_Running_begin_round (defScope s_Running_begin_round) := ⟨rfl, rfl, rfl, by decide +kernel, rfl, by decide +kernel, by decide +kernel⟩
theorem vi_Running_begin_round_0 : Vis (defScope s_Running_begin_round) (Str.ofString "self") := .inl (by decide +kernel)
theorem lo_Running_begin_round_0 : Loc (defScope s_Running_begin_round) (Str.ofString "self") := .inl (by decide +kernel)
theorem ll_Running_begin_round_0 : (defScope s_Running_begin_round).names.lookup (Str.ofString "self") = some .local := by decide +kernel
theorem gl_Running_begin_round_MOST_ROUNDS : (defScope s_Running_begin_round).names.lookup (Str.ofString "MOST_ROUNDS") = some .globalImplicit := by decide +kernel
theorem gl_Running_begin_round_TooLong : (defScope s_Running_begin_round).names.lookup (Str.ofString "TooLong") = some .globalImplicit := by decide +kernel
theorem b_Running_begin_round {P : Program} {w : World} {K : Fr} {mg : Str → Option Value} {base : Heap} {n k : Nat} (T : Tx K mg) (Tn : Tab P w K mg base (phi PR n) k) (cdv : Value) (A : Around) (outer : List PySem.Env) (s : Shared) (H : Hp) (E : XK) {a : Addr} (hr : Room k (A.deeper (envOfC (Str.ofString "Running.begin_round") (defScope s_Running_begin_round) s.heap.objs.size a cdv))) :
    SB (cxOf (L2.CX P w) P w K mg base N_Running_begin_round (Str.ofString "Running.begin_round") (defScope s_Running_begin_round) a cdv A outer s H E) (phi PR n) (fun cls d _ H => E cls d H) (defBody s_Running_begin_round) D.Running_begin_round.body := by
  have hΦ := phi_mono PR n
  have hu := roomH_of hr
  obtain ⟨CTooLong, xTooLong⟩ := T.zTooLong
  exact (sb_cons hΦ (ss_ite hΦ (st_eq hΦ hu .eq (se_attr (f := "begun_rounds") hΦ T.cok (se_vB 0 rfl vi_Running_begin_round_0 dd_self dc_self)) (se_globI gl_Running_begin_round_MOST_ROUNDS T.g_MOST_ROUNDS dd_MOST_ROUNDS)) (sb_one (ss_raise (c := "TooLong") PySem.F.excBase_ValueError xTooLong.1 xTooLong.2.1 xTooLong.2.2.1 (raises_own xTooLong.2.2.2.1 xTooLong.2.2.2.2) gl_Running_begin_round_TooLong T.iTooLong rfl (takes_of rfl rfl rfl rfl) dd_TooLong)) sb_nil)
  (sb_one (ss_setattr (f := "begun_rounds") hΦ T.cok (se_vB 0 rfl vi_Running_begin_round_0 dd_self dc_self) (se_bin hΦ .add (se_attr (f := "begun_rounds") hΦ T.cok (se_vB 0 rfl vi_Running_begin_round_0 dd_self dc_self)) se_int))))
abbrev s_Running_make_call : Stmt := inClass (top 24) 2
abbrev N_Running_make_call : List Str := [Str.ofString "self", Str.ofString "mark"]
abbrev ps_Running_make_call : List Str := [Str.ofString "self", Str.ofString "mark"]
theorem sc_Running_make_call : FnScope N_Running_make_call ps_Running_make_call (defScope s_Running_make_call) := ⟨rfl, rfl, rfl, by decide +kernel, rfl, by decide +kernel, by decide +kernel⟩
theorem vi_Running_make_call_0 : Vis (defScope s_Running_make_call) (Str.ofString "self") := .inl (by decide +kernel)
theorem lo_Running_make_call_0 : Loc (defScope s_Running_make_call) (Str.ofString "self") := .inl (by decide +kernel)
theorem ll_Running_make_call_0 : (defScope s_Running_make_call).names.lookup (Str.ofString "self") = some .local := by decide +kernel
theorem vi_Running_make_call_1 : Vis (defScope s_Running_make_call) (Str.ofString "mark") := .inl (by decide +kernel)
theorem lo_Running_make_call_1 : Loc (defScope s_Running_make_call) (Str.ofString "mark") := .inl (by decide +kernel)
theorem ll_Running_make_call_1 : (defScope s_Running_make_call).names.lookup (Str.ofString "mark") = some .local := by decide +kernel
theorem gl_Running_make_call_MOST_CALLS : (defScope s_Running_make_call).names.lookup (Str.ofString "MOST_CALLS") = some .globalImplicit := by decide +kernel
theorem gl_Running_make_call_MOST_DEEP : (defScope s_Running_make_call).names.lookup (Str.ofString "MOST_DEEP") = some .globalImplicit := by decide +kernel
theorem gl_Running_make_call_TooDeep : (defScope s_Running_make_call).names.lookup (Str.ofString "TooDeep") = some .globalImplicit := by decide +kernel
theorem gl_Running_make_call_TooLong : (defScope s_Running_make_call).names.lookup (Str.ofString "TooLong") = some .globalImplicit := by decide +kernel
theorem gl_Running_make_call_len : (defScope s_Running_make_call).names.lookup (Str.ofString "len") = some .globalImplicit := by decide +kernel
theorem b_Running_make_call {P : Program} {w : World} {K : Fr} {mg : Str → Option Value} {base : Heap} {n k : Nat} (T : Tx K mg) (Tn : Tab P w K mg base (phi PR n) k) (cdv : Value) (A : Around) (outer : List PySem.Env) (s : Shared) (H : Hp) (E : XK) {a : Addr} (hr : Room k (A.deeper (envOfC (Str.ofString "Running.make_call") (defScope s_Running_make_call) s.heap.objs.size a cdv))) :
    SB (cxOf (L2.CX P w) P w K mg base N_Running_make_call (Str.ofString "Running.make_call") (defScope s_Running_make_call) a cdv A outer s H E) (phi PR n) (fun cls d _ H => E cls d H) (defBody s_Running_make_call) D.Running_make_call.body := by
  have hΦ := phi_mono PR n
  have hu := roomH_of hr
  obtain ⟨CTooDeep, xTooDeep⟩ := T.zTooDeep
  obtain ⟨CTooLong, xTooLong⟩ := T.zTooLong
  exact (sb_cons hΦ (ss_ite hΦ (st_eq hΦ hu .eq (se_bin hΦ .add (se_len hΦ gl_Running_make_call_len T.b_len bt_len (by decide) dd_len (se_attr (f := "way") hΦ T.cok (se_vB 0 rfl vi_Running_make_call_0 dd_self dc_self))) se_int) (se_globI gl_Running_make_call_MOST_DEEP T.g_MOST_DEEP dd_MOST_DEEP)) (sb_one (ss_raise (c := "TooDeep") PySem.F.excBase_ValueError xTooDeep.1 xTooDeep.2.1 xTooDeep.2.2.1 (raises_own xTooDeep.2.2.2.1 xTooDeep.2.2.2.2) gl_Running_make_call_TooDeep T.iTooDeep rfl (takes_of rfl rfl rfl rfl) dd_TooDeep)) sb_nil)
  (sb_cons hΦ (ss_ite hΦ (st_eq hΦ hu .eq (se_attr (f := "made_calls") hΦ T.cok (se_vB 0 rfl vi_Running_make_call_0 dd_self dc_self)) (se_globI gl_Running_make_call_MOST_CALLS T.g_MOST_CALLS dd_MOST_CALLS)) (sb_one (ss_raise (c := "TooLong") PySem.F.excBase_ValueError xTooLong.1 xTooLong.2.1 xTooLong.2.2.1 (raises_own xTooLong.2.2.2.1 xTooLong.2.2.2.2) gl_Running_make_call_TooLong T.iTooLong rfl (takes_of rfl rfl rfl rfl) dd_TooLong)) sb_nil)
  (sb_cons hΦ (ss_setattr (f := "made_calls") hΦ T.cok (se_vB 0 rfl vi_Running_make_call_0 dd_self dc_self) (se_bin hΦ .add (se_attr (f := "made_calls") hΦ T.cok (se_vB 0 rfl vi_Running_make_call_0 dd_self dc_self)) se_int))
  (sb_cons hΦ (ss_setix hu hΦ (se_bin hΦ .add (se_get hu hΦ (se_attr (f := "counts") hΦ T.cok (se_vB 0 rfl vi_Running_make_call_0 dd_self dc_self)) (se_vB 1 rfl vi_Running_make_call_1 dd_mark dc_mark) se_int) se_int) (se_attr (f := "counts") hΦ T.cok (se_vB 0 rfl vi_Running_make_call_0 dd_self dc_self)) (se_vB 1 rfl vi_Running_make_call_1 dd_mark dc_mark))
  (sb_cons hΦ (ss_setattr (f := "way") hΦ T.cok (se_vB 0 rfl vi_Running_make_call_0 dd_self dc_self) (se_bin hΦ .add (se_attr (f := "way") hΦ T.cok (se_vB 0 rfl vi_Running_make_call_0 dd_self dc_self)) (se_tup hΦ (sa_cons hΦ (se_vB 1 rfl vi_Running_make_call_1 dd_mark dc_mark) sa_nil))))
  (sb_one (ss_setix hu hΦ (se_bin hΦ .add (se_get hu hΦ (se_attr (f := "ways") hΦ T.cok (se_vB 0 rfl vi_Running_make_call_0 dd_self dc_self)) (se_attr (f := "way") hΦ T.cok (se_vB 0 rfl vi_Running_make_call_0 dd_self dc_self)) se_int) se_int) (se_attr (f := "ways") hΦ T.cok (se_vB 0 rfl vi_Running_make_call_0 dd_self dc_self)) (se_attr (f := "way") hΦ T.cok (se_vB 0 rfl vi_Running_make_call_0 dd_self dc_self)))))))))
abbrev s_Running_done_deed : Stmt := inClass (top 24) 3
abbrev N_Running_done_deed : List Str := [Str.ofString "self", Str.ofString "deed", Str.ofString "values", Str.ofString "held", Str.ofString "param", Str.ofString "value"]
abbrev ps_Running_done_deed : List Str := [Str.ofString "self", Str.ofString "deed", Str.ofString "values"]
theorem sc_Running_done_deed : FnScope N_Running_done_deed ps_Running_done_deed (defScope s_Running_done_deed) := ⟨rfl, rfl, rfl, by decide +kernel, rfl, by decide +kernel, by decide +kernel⟩
theorem vi_Running_done_deed_0 : Vis (defScope s_Running_done_deed) (Str.ofString "self") := .inl (by decide +kernel)
theorem lo_Running_done_deed_0 : Loc (defScope s_Running_done_deed) (Str.ofString "self") := .inl (by decide +kernel)
theorem ll_Running_done_deed_0 : (defScope s_Running_done_deed).names.lookup (Str.ofString "self") = some .local := by decide +kernel
theorem vi_Running_done_deed_1 : Vis (defScope s_Running_done_deed) (Str.ofString "deed") := .inl (by decide +kernel)
theorem lo_Running_done_deed_1 : Loc (defScope s_Running_done_deed) (Str.ofString "deed") := .inl (by decide +kernel)
theorem ll_Running_done_deed_1 : (defScope s_Running_done_deed).names.lookup (Str.ofString "deed") = some .local := by decide +kernel
theorem vi_Running_done_deed_2 : Vis (defScope s_Running_done_deed) (Str.ofString "values") := .inl (by decide +kernel)
theorem lo_Running_done_deed_2 : Loc (defScope s_Running_done_deed) (Str.ofString "values") := .inl (by decide +kernel)
theorem ll_Running_done_deed_2 : (defScope s_Running_done_deed).names.lookup (Str.ofString "values") = some .local := by decide +kernel
theorem vi_Running_done_deed_3 : Vis (defScope s_Running_done_deed) (Str.ofString "held") := .inl (by decide +kernel)
theorem lo_Running_done_deed_3 : Loc (defScope s_Running_done_deed) (Str.ofString "held") := .inl (by decide +kernel)
theorem ll_Running_done_deed_3 : (defScope s_Running_done_deed).names.lookup (Str.ofString "held") = some .local := by decide +kernel
theorem vi_Running_done_deed_4 : Vis (defScope s_Running_done_deed) (Str.ofString "param") := .inl (by decide +kernel)
theorem lo_Running_done_deed_4 : Loc (defScope s_Running_done_deed) (Str.ofString "param") := .inl (by decide +kernel)
theorem ll_Running_done_deed_4 : (defScope s_Running_done_deed).names.lookup (Str.ofString "param") = some .local := by decide +kernel
theorem vi_Running_done_deed_5 : Vis (defScope s_Running_done_deed) (Str.ofString "value") := .inl (by decide +kernel)
theorem lo_Running_done_deed_5 : Loc (defScope s_Running_done_deed) (Str.ofString "value") := .inl (by decide +kernel)
theorem ll_Running_done_deed_5 : (defScope s_Running_done_deed).names.lookup (Str.ofString "value") = some .local := by decide +kernel
theorem gl_Running_done_deed_worth_of : (defScope s_Running_done_deed).names.lookup (Str.ofString "worth_of") = some .globalImplicit := by decide +kernel
theorem gl_Running_done_deed_zip : (defScope s_Running_done_deed).names.lookup (Str.ofString "zip") = some .globalImplicit := by decide +kernel
theorem b_Running_done_deed {P : Program} {w : World} {K : Fr} {mg : Str → Option Value} {base : Heap} {n k : Nat} (T : Tx K mg) (Tn : Tab P w K mg base (phi PR n) k) (cdv : Value) (A : Around) (outer : List PySem.Env) (s : Shared) (H : Hp) (E : XK) {a : Addr} (hr : Room k (A.deeper (envOfC (Str.ofString "Running.done_deed") (defScope s_Running_done_deed) s.heap.objs.size a cdv))) :
    SB (cxOf (L2.CX P w) P w K mg base N_Running_done_deed (Str.ofString "Running.done_deed") (defScope s_Running_done_deed) a cdv A outer s H E) (phi PR n) (fun cls d _ H => E cls d H) (defBody s_Running_done_deed) D.Running_done_deed.body := by
  have hΦ := phi_mono PR n
  have hu := roomH_of hr
  exact (sb_cons hΦ (ss_asg (i := 3) hΦ sc_Running_done_deed.nd rfl (lo_Running_done_deed_3) (SF.new hΦ sf_dct0) rfl (.inl rfl))
  (sb_cons hΦ (ss_for (t := (.t [(.n 4), (.n 5)])) hΦ (passes_of rfl) rfl (si_zip hΦ gl_Running_done_deed_zip T.b_zip (se_ix hΦ hu (se_vB 1 rfl vi_Running_done_deed_1 dd_deed dc_deed) se_int) (se_vB 2 rfl vi_Running_done_deed_2 dd_values dc_values)) (pg_seq rfl (pgs_cons (pg_name (i := 4) sc_Running_done_deed.nd rfl (lo_Running_done_deed_4) (.inl rfl)) (pgs_cons (pg_name (i := 5) sc_Running_done_deed.nd rfl (lo_Running_done_deed_5) (.inl rfl)) pgs_nil))) (sb_one (ss_setix hu hΦ (se_vB 5 rfl vi_Running_done_deed_5 dd_value dc_value) (se_vB 3 rfl vi_Running_done_deed_3 dd_held dc_held) (se_vB 4 rfl vi_Running_done_deed_4 dd_param dc_param))))
  (sb_cons hΦ (ss_ex hΦ (se_mth (c := "Running") (m := "do_rows") (f := "Running_do_rows") (md := .val) hΦ T.cok Tn.t_Running_do_rows (by decide) (by decide) hr (takes_of rfl rfl rfl rfl) (se_vB 0 rfl vi_Running_done_deed_0 dd_self dc_self) (sa_cons hΦ (se_ix hΦ hu (se_vB 1 rfl vi_Running_done_deed_1 dd_deed dc_deed) se_int) (sa_cons hΦ (se_vB 3 rfl vi_Running_done_deed_3 dd_held dc_held) sa_nil))))
  (sb_one (ss_ret hΦ (se_call (f := "worth_of") (m := .val) hΦ Tn.t_worth_of hr (takes_of rfl rfl rfl rfl) gl_Running_done_deed_worth_of (sa_cons hΦ (se_ix hΦ hu (se_vB 1 rfl vi_Running_done_deed_1 dd_deed dc_deed) se_int) (sa_cons hΦ (se_vB 3 rfl vi_Running_done_deed_3 dd_held dc_held) sa_nil)) dd_worth_of))))))
abbrev s_Running_do_rows : Stmt := inClass (top 24) 4
abbrev N_Running_do_rows : List Str := [Str.ofString "self", Str.ofString "rows", Str.ofString "held", Str.ofString "row"]
abbrev ps_Running_do_rows : List Str := [Str.ofString "self", Str.ofString "rows", Str.ofString "held"]
theorem sc_Running_do_rows : FnScope N_Running_do_rows ps_Running_do_rows (defScope s_Running_do_rows) := ⟨rfl, rfl, rfl, by decide +kernel, rfl, by decide +kernel, by decide +kernel⟩
theorem vi_Running_do_rows_0 : Vis (defScope s_Running_do_rows) (Str.ofString "self") := .inl (by decide +kernel)
theorem lo_Running_do_rows_0 : Loc (defScope s_Running_do_rows) (Str.ofString "self") := .inl (by decide +kernel)
theorem ll_Running_do_rows_0 : (defScope s_Running_do_rows).names.lookup (Str.ofString "self") = some .local := by decide +kernel
theorem vi_Running_do_rows_1 : Vis (defScope s_Running_do_rows) (Str.ofString "rows") := .inl (by decide +kernel)
theorem lo_Running_do_rows_1 : Loc (defScope s_Running_do_rows) (Str.ofString "rows") := .inl (by decide +kernel)
theorem ll_Running_do_rows_1 : (defScope s_Running_do_rows).names.lookup (Str.ofString "rows") = some .local := by decide +kernel
theorem vi_Running_do_rows_2 : Vis (defScope s_Running_do_rows) (Str.ofString "held") := .inl (by decide +kernel)
theorem lo_Running_do_rows_2 : Loc (defScope s_Running_do_rows) (Str.ofString "held") := .inl (by decide +kernel)
theorem ll_Running_do_rows_2 : (defScope s_Running_do_rows).names.lookup (Str.ofString "held") = some .local := by decide +kernel
theorem vi_Running_do_rows_3 : Vis (defScope s_Running_do_rows) (Str.ofString "row") := .inl (by decide +kernel)
theorem lo_Running_do_rows_3 : Loc (defScope s_Running_do_rows) (Str.ofString "row") := .inl (by decide +kernel)
theorem ll_Running_do_rows_3 : (defScope s_Running_do_rows).names.lookup (Str.ofString "row") = some .local := by decide +kernel
theorem gl_Running_do_rows_worth_of : (defScope s_Running_do_rows).names.lookup (Str.ofString "worth_of") = some .globalImplicit := by decide +kernel
theorem b_Running_do_rows {P : Program} {w : World} {K : Fr} {mg : Str → Option Value} {base : Heap} {n k : Nat} (T : Tx K mg) (Tn : Tab P w K mg base (phi PR n) k) (cdv : Value) (A : Around) (outer : List PySem.Env) (s : Shared) (H : Hp) (E : XK) {a : Addr} (hr : Room k (A.deeper (envOfC (Str.ofString "Running.do_rows") (defScope s_Running_do_rows) s.heap.objs.size a cdv))) :
    SB (cxOf (L2.CX P w) P w K mg base N_Running_do_rows (Str.ofString "Running.do_rows") (defScope s_Running_do_rows) a cdv A outer s H E) (phi PR n) (fun cls d _ H => E cls d H) (defBody s_Running_do_rows) D.Running_do_rows.body := by
  have hΦ := phi_mono PR n
  have hu := roomH_of hr
  exact (sb_one (ss_for (t := (.n 3)) hΦ (passes_of rfl) rfl (si_e hΦ (se_vB 1 rfl vi_Running_do_rows_1 dd_rows dc_rows)) (pg_name (i := 3) sc_Running_do_rows.nd rfl (lo_Running_do_rows_3) (.inl rfl)) (sb_cons hΦ (ss_setattr (f := "begun_rows") hΦ T.cok (se_vB 0 rfl vi_Running_do_rows_0 dd_self dc_self) (se_bin hΦ .add (se_attr (f := "begun_rows") hΦ T.cok (se_vB 0 rfl vi_Running_do_rows_0 dd_self dc_self)) se_int))
  (sb_one (ss_ite hΦ (st_eq hΦ hu .eq (se_ix hΦ hu (se_vB 3 rfl vi_Running_do_rows_3 dd_row dc_row) se_int) (se_str (strOk_of "set"))) (sb_one (ss_setix hu hΦ (se_call (f := "worth_of") (m := .val) hΦ Tn.t_worth_of hr (takes_of rfl rfl rfl rfl) gl_Running_do_rows_worth_of (sa_cons hΦ (se_ix hΦ hu (se_vB 3 rfl vi_Running_do_rows_3 dd_row dc_row) se_int) (sa_cons hΦ (se_vB 2 rfl vi_Running_do_rows_2 dd_held dc_held) sa_nil)) dd_worth_of) (se_vB 2 rfl vi_Running_do_rows_2 dd_held dc_held) (se_ix hΦ hu (se_vB 3 rfl vi_Running_do_rows_3 dd_row dc_row) se_int))) (sb_one (ss_ite hΦ (st_eq hΦ hu .eq (se_ix hΦ hu (se_vB 3 rfl vi_Running_do_rows_3 dd_row dc_row) se_int) (se_str (strOk_of "say"))) (sb_cons hΦ (ss_ex hΦ (se_mth0 (c := "Running") (m := "begin_round") (f := "Running_begin_round") (md := .val) hΦ T.cok Tn.t_Running_begin_round (by decide) (by decide) hr (takes_of rfl rfl rfl rfl) (se_vB 0 rfl vi_Running_do_rows_0 dd_self dc_self)))
  (sb_one (ss_ex hΦ (se_append hΦ (se_attr (f := "said") hΦ T.cok (se_vB 0 rfl vi_Running_do_rows_0 dd_self dc_self)) (se_call (f := "worth_of") (m := .val) hΦ Tn.t_worth_of hr (takes_of rfl rfl rfl rfl) gl_Running_do_rows_worth_of (sa_cons hΦ (se_ix hΦ hu (se_vB 3 rfl vi_Running_do_rows_3 dd_row dc_row) se_int) (sa_cons hΦ (se_vB 2 rfl vi_Running_do_rows_2 dd_held dc_held) sa_nil)) dd_worth_of))))) (sb_one (ss_ite hΦ (st_eq hΦ hu .eq (se_ix hΦ hu (se_vB 3 rfl vi_Running_do_rows_3 dd_row dc_row) se_int) (se_str (strOk_of "call"))) (sb_one (ss_ex hΦ (se_mth (c := "Running") (m := "do_call") (f := "Running_do_call") (md := .val) hΦ T.cok Tn.t_Running_do_call (by decide) (by decide) hr (takes_of rfl rfl rfl rfl) (se_vB 0 rfl vi_Running_do_rows_0 dd_self dc_self) (sa_cons hΦ (se_vB 3 rfl vi_Running_do_rows_3 dd_row dc_row) (sa_cons hΦ (se_vB 2 rfl vi_Running_do_rows_2 dd_held dc_held) sa_nil))))) (sb_one (ss_ite hΦ (st_eq hΦ hu .eq (se_ix hΦ hu (se_vB 3 rfl vi_Running_do_rows_3 dd_row dc_row) se_int) (se_str (strOk_of "when"))) (sb_one (ss_ex hΦ (se_mth (c := "Running") (m := "do_when") (f := "Running_do_when") (md := .val) hΦ T.cok Tn.t_Running_do_when (by decide) (by decide) hr (takes_of rfl rfl rfl rfl) (se_vB 0 rfl vi_Running_do_rows_0 dd_self dc_self) (sa_cons hΦ (se_vB 3 rfl vi_Running_do_rows_3 dd_row dc_row) (sa_cons hΦ (se_vB 2 rfl vi_Running_do_rows_2 dd_held dc_held) sa_nil))))) (sb_one (ss_ex hΦ (se_mth (c := "Running") (m := "do_turn") (f := "Running_do_turn") (md := .val) hΦ T.cok Tn.t_Running_do_turn (by decide) (by decide) hr (takes_of rfl rfl rfl rfl) (se_vB 0 rfl vi_Running_do_rows_0 dd_self dc_self) (sa_cons hΦ (se_vB 3 rfl vi_Running_do_rows_3 dd_row dc_row) (sa_cons hΦ (se_vB 2 rfl vi_Running_do_rows_2 dd_held dc_held) sa_nil))))))))))))))))
abbrev s_Running_do_call : Stmt := inClass (top 24) 5
abbrev N_Running_do_call : List Str := [Str.ofString "self", Str.ofString "row", Str.ofString "held", Str.ofString "values", Str.ofString "arg"]
abbrev ps_Running_do_call : List Str := [Str.ofString "self", Str.ofString "row", Str.ofString "held"]
theorem sc_Running_do_call : FnScope N_Running_do_call ps_Running_do_call (defScope s_Running_do_call) := ⟨rfl, rfl, rfl, by decide +kernel, rfl, by decide +kernel, by decide +kernel⟩
theorem vi_Running_do_call_0 : Vis (defScope s_Running_do_call) (Str.ofString "self") := .inl (by decide +kernel)
theorem lo_Running_do_call_0 : Loc (defScope s_Running_do_call) (Str.ofString "self") := .inl (by decide +kernel)
theorem ll_Running_do_call_0 : (defScope s_Running_do_call).names.lookup (Str.ofString "self") = some .local := by decide +kernel
theorem vi_Running_do_call_1 : Vis (defScope s_Running_do_call) (Str.ofString "row") := .inl (by decide +kernel)
theorem lo_Running_do_call_1 : Loc (defScope s_Running_do_call) (Str.ofString "row") := .inl (by decide +kernel)
theorem ll_Running_do_call_1 : (defScope s_Running_do_call).names.lookup (Str.ofString "row") = some .local := by decide +kernel
theorem vi_Running_do_call_2 : Vis (defScope s_Running_do_call) (Str.ofString "held") := .inr (.inl (by decide +kernel))
theorem lo_Running_do_call_2 : Loc (defScope s_Running_do_call) (Str.ofString "held") := .inr (by decide +kernel)
theorem vi_Running_do_call_3 : Vis (defScope s_Running_do_call) (Str.ofString "values") := .inl (by decide +kernel)
theorem lo_Running_do_call_3 : Loc (defScope s_Running_do_call) (Str.ofString "values") := .inl (by decide +kernel)
theorem ll_Running_do_call_3 : (defScope s_Running_do_call).names.lookup (Str.ofString "values") = some .local := by decide +kernel
theorem gl_Running_do_call_deed_of : (defScope s_Running_do_call).names.lookup (Str.ofString "deed_of") = some .globalImplicit := by decide +kernel
theorem b_Running_do_call {P : Program} {w : World} {K : Fr} {mg : Str → Option Value} {base : Heap} {n k : Nat} (T : Tx K mg) (Tn : Tab P w K mg base (phi PR n) k) (cdv : Value) (A : Around) (outer : List PySem.Env) (s : Shared) (H : Hp) (E : XK) {a : Addr} (hr : Room k (A.deeper (envOfC (Str.ofString "Running.do_call") (defScope s_Running_do_call) s.heap.objs.size a cdv))) :
    SB (cxOf (L2.CX P w) P w K mg base N_Running_do_call (Str.ofString "Running.do_call") (defScope s_Running_do_call) a cdv A outer s H E) (phi PR n) (fun cls d _ H => E cls d H) (defBody s_Running_do_call) D.Running_do_call.body := by
  have hΦ := phi_mono PR n
  have hu := roomH_of hr
  exact (sb_cons hΦ (ss_asgC (i := 3) (own := [("arg", 4)]) (t := (.n 4)) (e := (.call "worth_of" .val (.cons (.v 4) (.cons (.v 2) .nil)))) (cond := (.c (.bl true))) hΦ rfl sc_Running_do_call.nd rfl ll_Running_do_call_3 (sw_true rfl rfl rfl (by decide +kernel)) (si_e hΦ (se_ix hΦ hu (se_vB 1 rfl vi_Running_do_call_1 dd_row dc_row) se_int)) (blkOk_by (N := N_Running_do_call) (sc := defScope s_Running_do_call) (by decide +kernel)) (fun _ _ _ _ _ => (pg_name (i := 4) sc_Running_do_call.nd rfl (.inl rfl) (by first | exact .inr rfl | exact .inl rfl))) (fun _ _ _ _ _ => pts_yes) (fun _ _ _ _ _ => (se_call (f := "worth_of") (m := .val) hΦ Tn.t_worth_of hr takes0 (by first | rfl | kernel_rfl) (sa_cons hΦ (se_vB 4 rfl (by first | exact .inl rfl | exact .inr (.inl rfl) | exact .inr (.inr rfl)) dd_arg dc_arg) (sa_cons hΦ (se_vB 2 rfl (by first | exact .inl rfl | exact .inr (.inl rfl) | exact .inr (.inr rfl)) dd_held dc_held) sa_nil)) dd_worth_of)) (by decide))
  (sb_cons hΦ (ss_ex hΦ (se_mth (c := "Running") (m := "make_call") (f := "Running_make_call") (md := .val) hΦ T.cok Tn.t_Running_make_call (by decide) (by decide) hr (takes_of rfl rfl rfl rfl) (se_vB 0 rfl vi_Running_do_call_0 dd_self dc_self) (sa_cons hΦ (se_ix hΦ hu (se_vB 1 rfl vi_Running_do_call_1 dd_row dc_row) se_int) sa_nil)))
  (sb_cons hΦ (ss_setix hu hΦ (se_mth (c := "Running") (m := "done_deed") (f := "Running_done_deed") (md := .val) hΦ T.cok Tn.t_Running_done_deed (by decide) (by decide) hr (takes_of rfl rfl rfl rfl) (se_vB 0 rfl vi_Running_do_call_0 dd_self dc_self) (sa_cons hΦ (se_call (f := "deed_of") (m := .val) hΦ Tn.t_deed_of hr (takes_of rfl rfl rfl rfl) gl_Running_do_call_deed_of (sa_cons hΦ (se_attr (f := "book") hΦ T.cok (se_vB 0 rfl vi_Running_do_call_0 dd_self dc_self)) (sa_cons hΦ (se_ix hΦ hu (se_vB 1 rfl vi_Running_do_call_1 dd_row dc_row) se_int) sa_nil)) dd_deed_of) (sa_cons hΦ (se_vB 3 rfl vi_Running_do_call_3 dd_values dc_values) sa_nil))) (se_vB 2 rfl vi_Running_do_call_2 dd_held dc_held) (se_ix hΦ hu (se_vB 1 rfl vi_Running_do_call_1 dd_row dc_row) se_int))
  (sb_one (ss_setattr (f := "way") hΦ T.cok (se_vB 0 rfl vi_Running_do_call_0 dd_self dc_self) (se_sl hΦ (se_attr (f := "way") hΦ T.cok (se_vB 0 rfl vi_Running_do_call_0 dd_self dc_self)) so_none (so_some hΦ (se_neg hΦ se_int))))))))
abbrev s_Running_do_when : Stmt := inClass (top 24) 6
abbrev N_Running_do_when : List Str := [Str.ofString "self", Str.ofString "row", Str.ofString "held"]
abbrev ps_Running_do_when : List Str := [Str.ofString "self", Str.ofString "row", Str.ofString "held"]
theorem sc_Running_do_when : FnScope N_Running_do_when ps_Running_do_when (defScope s_Running_do_when) := ⟨rfl, rfl, rfl, by decide +kernel, rfl, by decide +kernel, by decide +kernel⟩
theorem vi_Running_do_when_0 : Vis (defScope s_Running_do_when) (Str.ofString "self") := .inl (by decide +kernel)
theorem lo_Running_do_when_0 : Loc (defScope s_Running_do_when) (Str.ofString "self") := .inl (by decide +kernel)
theorem ll_Running_do_when_0 : (defScope s_Running_do_when).names.lookup (Str.ofString "self") = some .local := by decide +kernel
theorem vi_Running_do_when_1 : Vis (defScope s_Running_do_when) (Str.ofString "row") := .inl (by decide +kernel)
theorem lo_Running_do_when_1 : Loc (defScope s_Running_do_when) (Str.ofString "row") := .inl (by decide +kernel)
theorem ll_Running_do_when_1 : (defScope s_Running_do_when).names.lookup (Str.ofString "row") = some .local := by decide +kernel
theorem vi_Running_do_when_2 : Vis (defScope s_Running_do_when) (Str.ofString "held") := .inl (by decide +kernel)
theorem lo_Running_do_when_2 : Loc (defScope s_Running_do_when) (Str.ofString "held") := .inl (by decide +kernel)
theorem ll_Running_do_when_2 : (defScope s_Running_do_when).names.lookup (Str.ofString "held") = some .local := by decide +kernel
theorem gl_Running_do_when_worth_of : (defScope s_Running_do_when).names.lookup (Str.ofString "worth_of") = some .globalImplicit := by decide +kernel
theorem b_Running_do_when {P : Program} {w : World} {K : Fr} {mg : Str → Option Value} {base : Heap} {n k : Nat} (T : Tx K mg) (Tn : Tab P w K mg base (phi PR n) k) (cdv : Value) (A : Around) (outer : List PySem.Env) (s : Shared) (H : Hp) (E : XK) {a : Addr} (hr : Room k (A.deeper (envOfC (Str.ofString "Running.do_when") (defScope s_Running_do_when) s.heap.objs.size a cdv))) :
    SB (cxOf (L2.CX P w) P w K mg base N_Running_do_when (Str.ofString "Running.do_when") (defScope s_Running_do_when) a cdv A outer s H E) (phi PR n) (fun cls d _ H => E cls d H) (defBody s_Running_do_when) D.Running_do_when.body := by
  have hΦ := phi_mono PR n
  have hu := roomH_of hr
  exact (sb_cons hΦ (ss_ex hΦ (se_mth0 (c := "Running") (m := "begin_round") (f := "Running_begin_round") (md := .val) hΦ T.cok Tn.t_Running_begin_round (by decide) (by decide) hr (takes_of rfl rfl rfl rfl) (se_vB 0 rfl vi_Running_do_when_0 dd_self dc_self)))
  (sb_one (ss_ite hΦ (st_eq hΦ hu .ne (se_call (f := "worth_of") (m := .val) hΦ Tn.t_worth_of hr (takes_of rfl rfl rfl rfl) gl_Running_do_when_worth_of (sa_cons hΦ (se_ix hΦ hu (se_vB 1 rfl vi_Running_do_when_1 dd_row dc_row) se_int) (sa_cons hΦ (se_vB 2 rfl vi_Running_do_when_2 dd_held dc_held) sa_nil)) dd_worth_of) se_int) (sb_one (ss_ex hΦ (se_mth (c := "Running") (m := "do_rows") (f := "Running_do_rows") (md := .val) hΦ T.cok Tn.t_Running_do_rows (by decide) (by decide) hr (takes_of rfl rfl rfl rfl) (se_vB 0 rfl vi_Running_do_when_0 dd_self dc_self) (sa_cons hΦ (se_ix hΦ hu (se_vB 1 rfl vi_Running_do_when_1 dd_row dc_row) se_int) (sa_cons hΦ (se_vB 2 rfl vi_Running_do_when_2 dd_held dc_held) sa_nil))))) (sb_one (ss_ex hΦ (se_mth (c := "Running") (m := "do_rows") (f := "Running_do_rows") (md := .val) hΦ T.cok Tn.t_Running_do_rows (by decide) (by decide) hr (takes_of rfl rfl rfl rfl) (se_vB 0 rfl vi_Running_do_when_0 dd_self dc_self) (sa_cons hΦ (se_ix hΦ hu (se_vB 1 rfl vi_Running_do_when_1 dd_row dc_row) se_int) (sa_cons hΦ (se_vB 2 rfl vi_Running_do_when_2 dd_held dc_held) sa_nil))))))))
abbrev s_Running_do_turn : Stmt := inClass (top 24) 7
abbrev N_Running_do_turn : List Str := [Str.ofString "self", Str.ofString "row", Str.ofString "held", Str.ofString "time"]
abbrev ps_Running_do_turn : List Str := [Str.ofString "self", Str.ofString "row", Str.ofString "held"]
theorem sc_Running_do_turn : FnScope N_Running_do_turn ps_Running_do_turn (defScope s_Running_do_turn) := ⟨rfl, rfl, rfl, by decide +kernel, rfl, by decide +kernel, by decide +kernel⟩
theorem vi_Running_do_turn_0 : Vis (defScope s_Running_do_turn) (Str.ofString "self") := .inl (by decide +kernel)
theorem lo_Running_do_turn_0 : Loc (defScope s_Running_do_turn) (Str.ofString "self") := .inl (by decide +kernel)
theorem ll_Running_do_turn_0 : (defScope s_Running_do_turn).names.lookup (Str.ofString "self") = some .local := by decide +kernel
theorem vi_Running_do_turn_1 : Vis (defScope s_Running_do_turn) (Str.ofString "row") := .inl (by decide +kernel)
theorem lo_Running_do_turn_1 : Loc (defScope s_Running_do_turn) (Str.ofString "row") := .inl (by decide +kernel)
theorem ll_Running_do_turn_1 : (defScope s_Running_do_turn).names.lookup (Str.ofString "row") = some .local := by decide +kernel
theorem vi_Running_do_turn_2 : Vis (defScope s_Running_do_turn) (Str.ofString "held") := .inl (by decide +kernel)
theorem lo_Running_do_turn_2 : Loc (defScope s_Running_do_turn) (Str.ofString "held") := .inl (by decide +kernel)
theorem ll_Running_do_turn_2 : (defScope s_Running_do_turn).names.lookup (Str.ofString "held") = some .local := by decide +kernel
theorem vi_Running_do_turn_3 : Vis (defScope s_Running_do_turn) (Str.ofString "time") := .inl (by decide +kernel)
theorem lo_Running_do_turn_3 : Loc (defScope s_Running_do_turn) (Str.ofString "time") := .inl (by decide +kernel)
theorem ll_Running_do_turn_3 : (defScope s_Running_do_turn).names.lookup (Str.ofString "time") = some .local := by decide +kernel
theorem gl_Running_do_turn_range : (defScope s_Running_do_turn).names.lookup (Str.ofString "range") = some .globalImplicit := by decide +kernel
theorem gl_Running_do_turn_worth_of : (defScope s_Running_do_turn).names.lookup (Str.ofString "worth_of") = some .globalImplicit := by decide +kernel
theorem b_Running_do_turn {P : Program} {w : World} {K : Fr} {mg : Str → Option Value} {base : Heap} {n k : Nat} (T : Tx K mg) (Tn : Tab P w K mg base (phi PR n) k) (cdv : Value) (A : Around) (outer : List PySem.Env) (s : Shared) (H : Hp) (E : XK) {a : Addr} (hr : Room k (A.deeper (envOfC (Str.ofString "Running.do_turn") (defScope s_Running_do_turn) s.heap.objs.size a cdv))) :
    SB (cxOf (L2.CX P w) P w K mg base N_Running_do_turn (Str.ofString "Running.do_turn") (defScope s_Running_do_turn) a cdv A outer s H E) (phi PR n) (fun cls d _ H => E cls d H) (defBody s_Running_do_turn) D.Running_do_turn.body := by
  have hΦ := phi_mono PR n
  have hu := roomH_of hr
  exact (sb_one (ss_for (t := (.n 3)) hΦ (passes_of rfl) rfl (si_range hΦ gl_Running_do_turn_range T.b_range (se_bin hΦ .mod (se_call (f := "worth_of") (m := .val) hΦ Tn.t_worth_of hr (takes_of rfl rfl rfl rfl) gl_Running_do_turn_worth_of (sa_cons hΦ (se_ix hΦ hu (se_vB 1 rfl vi_Running_do_turn_1 dd_row dc_row) se_int) (sa_cons hΦ (se_vB 2 rfl vi_Running_do_turn_2 dd_held dc_held) sa_nil)) dd_worth_of) se_int)) (pg_name (i := 3) sc_Running_do_turn.nd rfl (lo_Running_do_turn_3) (.inl rfl)) (sb_cons hΦ (ss_ex hΦ (se_mth0 (c := "Running") (m := "begin_round") (f := "Running_begin_round") (md := .val) hΦ T.cok Tn.t_Running_begin_round (by decide) (by decide) hr (takes_of rfl rfl rfl rfl) (se_vB 0 rfl vi_Running_do_turn_0 dd_self dc_self)))
  (sb_one (ss_ex hΦ (se_mth (c := "Running") (m := "do_rows") (f := "Running_do_rows") (md := .val) hΦ T.cok Tn.t_Running_do_rows (by decide) (by decide) hr (takes_of rfl rfl rfl rfl) (se_vB 0 rfl vi_Running_do_turn_0 dd_self dc_self) (sa_cons hΦ (se_ix hΦ hu (se_vB 1 rfl vi_Running_do_turn_1 dd_row dc_row) se_int) (sa_cons hΦ (se_vB 2 rfl vi_Running_do_turn_2 dd_held dc_held) sa_nil))))))))
abbrev s_rising_counts : Stmt := top 25
abbrev N_rising_counts : List Str := [Str.ofString "counts", Str.ofString "found", Str.ofString "mark"]
abbrev ps_rising_counts : List Str := [Str.ofString "counts"]
theorem sc_rising_counts : FnScope N_rising_counts ps_rising_counts (defScope s_rising_counts) := ⟨rfl, rfl, rfl, by decide +kernel, rfl, by decide +kernel, by decide +kernel⟩
theorem vi_rising_counts_0 : Vis (defScope s_rising_counts) (Str.ofString "counts") := .inl (by decide +kernel)
theorem lo_rising_counts_0 : Loc (defScope s_rising_counts) (Str.ofString "counts") := .inl (by decide +kernel)
theorem ll_rising_counts_0 : (defScope s_rising_counts).names.lookup (Str.ofString "counts") = some .local := by decide +kernel
theorem vi_rising_counts_1 : Vis (defScope s_rising_counts) (Str.ofString "found") := .inl (by decide +kernel)
theorem lo_rising_counts_1 : Loc (defScope s_rising_counts) (Str.ofString "found") := .inl (by decide +kernel)
theorem ll_rising_counts_1 : (defScope s_rising_counts).names.lookup (Str.ofString "found") = some .local := by decide +kernel
theorem vi_rising_counts_2 : Vis (defScope s_rising_counts) (Str.ofString "mark") := .inl (by decide +kernel)
theorem lo_rising_counts_2 : Loc (defScope s_rising_counts) (Str.ofString "mark") := .inl (by decide +kernel)
theorem ll_rising_counts_2 : (defScope s_rising_counts).names.lookup (Str.ofString "mark") = some .local := by decide +kernel
theorem gl_rising_counts_sorted : (defScope s_rising_counts).names.lookup (Str.ofString "sorted") = some .globalImplicit := by decide +kernel
theorem b_rising_counts {P : Program} {w : World} {K : Fr} {mg : Str → Option Value} {base : Heap} {n k : Nat} (T : Tx K mg) (Tn : Tab P w K mg base (phi PR n) k) (cdv : Value) (A : Around) (outer : List PySem.Env) (s : Shared) (H : Hp) (E : XK) {a : Addr} (hr : Room k (A.deeper (envOfC (Str.ofString "rising_counts") (defScope s_rising_counts) s.heap.objs.size a cdv))) :
    SB (cxOf (L2.CX P w) P w K mg base N_rising_counts (Str.ofString "rising_counts") (defScope s_rising_counts) a cdv A outer s H E) (phi PR n) (fun cls d _ H => E cls d H) (defBody s_rising_counts) D.rising_counts.body := by
  have hΦ := phi_mono PR n
  have hu := roomH_of hr
  exact (sb_cons hΦ (ss_asg (i := 1) hΦ sc_rising_counts.nd rfl (lo_rising_counts_1) (SF.new hΦ sf_dct0) rfl (.inl rfl))
  (sb_cons hΦ (ss_for (t := (.n 2)) hΦ (passes_of rfl) rfl (si_e hΦ (SF.val hΦ (se_keysS hΦ gl_rising_counts_sorted T.b_sorted (se_vB 0 rfl vi_rising_counts_0 dd_counts dc_counts)))) (pg_name (i := 2) sc_rising_counts.nd rfl (lo_rising_counts_2) (.inl rfl)) (sb_one (ss_setix hu hΦ (se_ix hΦ hu (se_vB 0 rfl vi_rising_counts_0 dd_counts dc_counts) (se_vB 2 rfl vi_rising_counts_2 dd_mark dc_mark)) (se_vB 1 rfl vi_rising_counts_1 dd_found dc_found) (se_vB 2 rfl vi_rising_counts_2 dd_mark dc_mark))))
  (sb_one (ss_ret hΦ (se_vB 1 rfl vi_rising_counts_1 dd_found dc_found)))))
abbrev s_ran_ways : Stmt := top 26
abbrev N_ran_ways : List Str := [Str.ofString "book", Str.ofString "values", Str.ofString "running", Str.ofString "value"]
abbrev ps_ran_ways : List Str := [Str.ofString "book", Str.ofString "values"]
theorem sc_ran_ways : FnScope N_ran_ways ps_ran_ways (defScope s_ran_ways) := ⟨rfl, rfl, rfl, by decide +kernel, rfl, by decide +kernel, by decide +kernel⟩
theorem vi_ran_ways_0 : Vis (defScope s_ran_ways) (Str.ofString "book") := .inl (by decide +kernel)
theorem lo_ran_ways_0 : Loc (defScope s_ran_ways) (Str.ofString "book") := .inl (by decide +kernel)
theorem ll_ran_ways_0 : (defScope s_ran_ways).names.lookup (Str.ofString "book") = some .local := by decide +kernel
theorem vi_ran_ways_1 : Vis (defScope s_ran_ways) (Str.ofString "values") := .inl (by decide +kernel)
theorem lo_ran_ways_1 : Loc (defScope s_ran_ways) (Str.ofString "values") := .inl (by decide +kernel)
theorem ll_ran_ways_1 : (defScope s_ran_ways).names.lookup (Str.ofString "values") = some .local := by decide +kernel
theorem vi_ran_ways_2 : Vis (defScope s_ran_ways) (Str.ofString "running") := .inl (by decide +kernel)
theorem lo_ran_ways_2 : Loc (defScope s_ran_ways) (Str.ofString "running") := .inl (by decide +kernel)
theorem ll_ran_ways_2 : (defScope s_ran_ways).names.lookup (Str.ofString "running") = some .local := by decide +kernel
theorem vi_ran_ways_3 : Vis (defScope s_ran_ways) (Str.ofString "value") := .inl (by decide +kernel)
theorem lo_ran_ways_3 : Loc (defScope s_ran_ways) (Str.ofString "value") := .inl (by decide +kernel)
theorem ll_ran_ways_3 : (defScope s_ran_ways).names.lookup (Str.ofString "value") = some .local := by decide +kernel
theorem gl_ran_ways_Broken : (defScope s_ran_ways).names.lookup (Str.ofString "Broken") = some .globalImplicit := by decide +kernel
theorem gl_ran_ways_Running : (defScope s_ran_ways).names.lookup (Str.ofString "Running") = some .globalImplicit := by decide +kernel
theorem gl_ran_ways_WrongCount : (defScope s_ran_ways).names.lookup (Str.ofString "WrongCount") = some .globalImplicit := by decide +kernel
theorem gl_ran_ways_len : (defScope s_ran_ways).names.lookup (Str.ofString "len") = some .globalImplicit := by decide +kernel
theorem gl_ran_ways_rising_counts : (defScope s_ran_ways).names.lookup (Str.ofString "rising_counts") = some .globalImplicit := by decide +kernel
theorem b_ran_ways {P : Program} {w : World} {K : Fr} {mg : Str → Option Value} {base : Heap} {n k : Nat} (T : Tx K mg) (Tn : Tab P w K mg base (phi PR n) k) (hk2 : 2 ≤ k) (cdv : Value) (A : Around) (outer : List PySem.Env) (s : Shared) (H : Hp) (E : XK) {a : Addr} (hr : Room k (A.deeper (envOfC (Str.ofString "ran_ways") (defScope s_ran_ways) s.heap.objs.size a cdv))) :
    SB (cxOf (L2.CX P w) P w K mg base N_ran_ways (Str.ofString "ran_ways") (defScope s_ran_ways) a cdv A outer s H E) (phi PR n) (fun cls d _ H => E cls d H) (defBody s_ran_ways) D.ran_ways.body := by
  have hΦ := phi_mono PR n
  have hu := roomH_of hr
  obtain ⟨CWrongCount, xWrongCount⟩ := T.zWrongCount
  obtain ⟨MBroken, mBroken⟩ := T.cBroken
  exact (sb_cons hΦ (ss_ite hΦ (st_eq hΦ hu .ne (se_len hΦ gl_ran_ways_len T.b_len bt_len (by decide) dd_len (se_vB 1 rfl vi_ran_ways_1 dd_values dc_values)) (se_len hΦ gl_ran_ways_len T.b_len bt_len (by decide) dd_len (se_ix hΦ hu (se_ix hΦ hu (se_vB 0 rfl vi_ran_ways_0 dd_book dc_book) se_int) se_int))) (sb_one (ss_raise (c := "WrongCount") PySem.F.excBase_ValueError xWrongCount.1 xWrongCount.2.1 xWrongCount.2.2.1 (raises_own xWrongCount.2.2.2.1 xWrongCount.2.2.2.2) gl_ran_ways_WrongCount T.iWrongCount rfl (takes_of rfl rfl rfl rfl) dd_WrongCount)) sb_nil)
  (sb_cons hΦ (ss_asg (i := 2) hΦ sc_ran_ways.nd rfl (lo_ran_ways_2) (se_mk (c := "Running") (f := "Running___init__") (k := 1) hΦ Tn.t_Running___init__ (hr.mono hk2) (takes_of rfl rfl rfl rfl) gl_ran_ways_Running (sa_cons hΦ (se_vB 0 rfl vi_ran_ways_0 dd_book dc_book) sa_nil) dd_Running) rfl (.inl rfl))
  (sb_cons hΦ (ss_try1 (h := "Broken") hΦ rfl rfl (by decide) mBroken gl_ran_ways_Broken dd_Broken (takes_of rfl rfl rfl rfl) (fun W1 pn1 xe1 tk1 pas1 => (sb_one (ss_asg (i := 3) hΦ sc_ran_ways.nd rfl (lo_ran_ways_3) (se_mth (c := "Running") (m := "done_deed") (f := "Running_done_deed") (md := .val) hΦ T.cok Tn.t_Running_done_deed (by decide) (by decide) hr tk1 (se_vB 2 rfl vi_ran_ways_2 dd_running dc_running) (sa_cons hΦ (se_ix hΦ hu (se_vB 0 rfl vi_ran_ways_0 dd_book dc_book) se_int) (sa_cons hΦ (se_vB 1 rfl vi_ran_ways_1 dd_values dc_values) sa_nil))) rfl (.inl rfl)))) (fun a1 oe1 cls1 d1 pn1 hz1 hf1 => (sb_one (ss_ret hΦ (se_tup hΦ (sa_cons hΦ (se_tup hΦ (sa_cons hΦ (se_str (strOk_of "broken")) (sa_cons hΦ (se_attr (f := "said") hΦ T.cok (se_vB 2 rfl vi_ran_ways_2 dd_running dc_running)) sa_nil))) (sa_cons hΦ (se_attr (f := "ways") hΦ T.cok (se_vB 2 rfl vi_ran_ways_2 dd_running dc_running)) sa_nil)))))))
  (sb_one (ss_ret hΦ (se_tup hΦ (sa_cons hΦ (se_tup hΦ (sa_cons hΦ (se_str (strOk_of "done")) (sa_cons hΦ (se_attr (f := "said") hΦ T.cok (se_vB 2 rfl vi_ran_ways_2 dd_running dc_running)) (sa_cons hΦ (se_vB 3 rfl vi_ran_ways_3 dd_value dc_value) (sa_cons hΦ (se_attr (f := "begun_rows") hΦ T.cok (se_vB 2 rfl vi_ran_ways_2 dd_running dc_running)) (sa_cons hΦ (se_call (f := "rising_counts") (m := .val) hΦ Tn.t_rising_counts hr (takes_of rfl rfl rfl rfl) gl_ran_ways_rising_counts (sa_cons hΦ (se_attr (f := "counts") hΦ T.cok (se_vB 2 rfl vi_ran_ways_2 dd_running dc_running)) sa_nil) dd_rising_counts) sa_nil)))))) (sa_cons hΦ (se_attr (f := "ways") hΦ T.cok (se_vB 2 rfl vi_ran_ways_2 dd_running dc_running)) sa_nil))))))))
abbrev s_run_book : Stmt := top 27
abbrev N_run_book : List Str := [Str.ofString "book", Str.ofString "values"]
abbrev ps_run_book : List Str := [Str.ofString "book", Str.ofString "values"]
theorem sc_run_book : FnScope N_run_book ps_run_book (defScope s_run_book) := ⟨rfl, rfl, rfl, by decide +kernel, rfl, by decide +kernel, by decide +kernel⟩
theorem vi_run_book_0 : Vis (defScope s_run_book) (Str.ofString "book") := .inl (by decide +kernel)
theorem lo_run_book_0 : Loc (defScope s_run_book) (Str.ofString "book") := .inl (by decide +kernel)
theorem ll_run_book_0 : (defScope s_run_book).names.lookup (Str.ofString "book") = some .local := by decide +kernel
theorem vi_run_book_1 : Vis (defScope s_run_book) (Str.ofString "values") := .inl (by decide +kernel)
theorem lo_run_book_1 : Loc (defScope s_run_book) (Str.ofString "values") := .inl (by decide +kernel)
theorem ll_run_book_1 : (defScope s_run_book).names.lookup (Str.ofString "values") = some .local := by decide +kernel
theorem gl_run_book_ran_ways : (defScope s_run_book).names.lookup (Str.ofString "ran_ways") = some .globalImplicit := by decide +kernel
theorem b_run_book {P : Program} {w : World} {K : Fr} {mg : Str → Option Value} {base : Heap} {n k : Nat} (T : Tx K mg) (Tn : Tab P w K mg base (phi PR n) k) (cdv : Value) (A : Around) (outer : List PySem.Env) (s : Shared) (H : Hp) (E : XK) {a : Addr} (hr : Room k (A.deeper (envOfC (Str.ofString "run_book") (defScope s_run_book) s.heap.objs.size a cdv))) :
    SB (cxOf (L2.CX P w) P w K mg base N_run_book (Str.ofString "run_book") (defScope s_run_book) a cdv A outer s H E) (phi PR n) (fun cls d _ H => E cls d H) (defBody s_run_book) D.run_book.body := by
  have hΦ := phi_mono PR n
  have hu := roomH_of hr
  exact (sb_one (ss_ret hΦ (se_ix hΦ hu (se_call (f := "ran_ways") (m := .val) hΦ Tn.t_ran_ways hr (takes_of rfl rfl rfl rfl) gl_run_book_ran_ways (sa_cons hΦ (se_vB 0 rfl vi_run_book_0 dd_book dc_book) (sa_cons hΦ (se_vB 1 rfl vi_run_book_1 dd_values dc_values) sa_nil)) dd_ran_ways) se_int)))
abbrev s__law_pot : Stmt := top 29
abbrev N__law_pot : List Str := [Str.ofString "cell", Str.ofString "k", Str.ofString "mark", Str.ofString "found", Str.ofString "turn"]
abbrev ps__law_pot : List Str := [Str.ofString "cell", Str.ofString "k"]
theorem sc__law_pot : FnScope N__law_pot ps__law_pot (defScope s__law_pot) := ⟨rfl, rfl, rfl, by decide +kernel, rfl, by decide +kernel, by decide +kernel⟩
theorem vi__law_pot_0 : Vis (defScope s__law_pot) (Str.ofString "cell") := .inl (by decide +kernel)
theorem lo__law_pot_0 : Loc (defScope s__law_pot) (Str.ofString "cell") := .inl (by decide +kernel)
theorem ll__law_pot_0 : (defScope s__law_pot).names.lookup (Str.ofString "cell") = some .local := by decide +kernel
theorem vi__law_pot_1 : Vis (defScope s__law_pot) (Str.ofString "k") := .inl (by decide +kernel)
theorem lo__law_pot_1 : Loc (defScope s__law_pot) (Str.ofString "k") := .inl (by decide +kernel)
theorem ll__law_pot_1 : (defScope s__law_pot).names.lookup (Str.ofString "k") = some .local := by decide +kernel
theorem vi__law_pot_2 : Vis (defScope s__law_pot) (Str.ofString "mark") := .inl (by decide +kernel)
theorem lo__law_pot_2 : Loc (defScope s__law_pot) (Str.ofString "mark") := .inl (by decide +kernel)
theorem ll__law_pot_2 : (defScope s__law_pot).names.lookup (Str.ofString "mark") = some .local := by decide +kernel
theorem vi__law_pot_3 : Vis (defScope s__law_pot) (Str.ofString "found") := .inl (by decide +kernel)
theorem lo__law_pot_3 : Loc (defScope s__law_pot) (Str.ofString "found") := .inl (by decide +kernel)
theorem ll__law_pot_3 : (defScope s__law_pot).names.lookup (Str.ofString "found") = some .local := by decide +kernel
theorem vi__law_pot_4 : Vis (defScope s__law_pot) (Str.ofString "turn") := .inl (by decide +kernel)
theorem lo__law_pot_4 : Loc (defScope s__law_pot) (Str.ofString "turn") := .inl (by decide +kernel)
theorem ll__law_pot_4 : (defScope s__law_pot).names.lookup (Str.ofString "turn") = some .local := by decide +kernel
theorem gl__law_pot_range : (defScope s__law_pot).names.lookup (Str.ofString "range") = some .globalImplicit := by decide +kernel
theorem b__law_pot {P : Program} {w : World} {K : Fr} {mg : Str → Option Value} {base : Heap} {n k : Nat} (T : Tx K mg) (Tn : Tab P w K mg base (phi PR n) k) (cdv : Value) (A : Around) (outer : List PySem.Env) (s : Shared) (H : Hp) (E : XK) {a : Addr} (hr : Room k (A.deeper (envOfC (Str.ofString "_law_pot") (defScope s__law_pot) s.heap.objs.size a cdv))) :
    SB (cxOf (L2.CX P w) P w K mg base N__law_pot (Str.ofString "_law_pot") (defScope s__law_pot) a cdv A outer s H E) (phi PR n) (fun cls d _ H => E cls d H) (defBody s__law_pot) D._law_pot.body := by
  have hΦ := phi_mono PR n
  have hu := roomH_of hr
  exact (sb_cons hΦ (ss_asg (i := 2) hΦ sc__law_pot.nd rfl (lo__law_pot_2) (se_bin hΦ .mod (se_bin hΦ .add (se_vB 0 rfl vi__law_pot_0 dd_cell dc_cell) (se_bin hΦ .mul se_int (se_bin hΦ .add (se_vB 1 rfl vi__law_pot_1 dd_k dc_k) se_int))) se_int) rfl (.inl rfl))
  (sb_cons hΦ (ss_asg (i := 3) hΦ sc__law_pot.nd rfl (lo__law_pot_3) (SF.new hΦ (sf_lst hΦ (sa_cons hΦ se_int sa_nil))) rfl (.inl rfl))
  (sb_cons hΦ (ss_for (t := (.n 4)) hΦ (passes_of rfl) rfl (si_range hΦ gl__law_pot_range T.b_range se_int) (pg_name (i := 4) sc__law_pot.nd rfl (lo__law_pot_4) (.inl rfl)) (sb_cons hΦ (ss_asg (i := 2) hΦ sc__law_pot.nd rfl (lo__law_pot_2) (se_bin hΦ .mod (se_bin hΦ .add (se_bin hΦ .add (se_bin hΦ .add (se_bin hΦ .mul (se_vB 2 rfl vi__law_pot_2 dd_mark dc_mark) (se_vB 2 rfl vi__law_pot_2 dd_mark dc_mark)) (se_bin hΦ .mul se_int (se_vB 2 rfl vi__law_pot_2 dd_mark dc_mark))) (se_bin hΦ .mul se_int (se_vB 4 rfl vi__law_pot_4 dd_turn dc_turn))) (se_vB 1 rfl vi__law_pot_1 dd_k dc_k)) se_int) rfl (.inl rfl))
  (sb_one (ss_setix hu hΦ (se_bin hΦ .add (se_bin hΦ .mul (se_ix hΦ hu (se_vB 3 rfl vi__law_pot_3 dd_found dc_found) se_int) se_int) (se_vB 2 rfl vi__law_pot_2 dd_mark dc_mark)) (se_vB 3 rfl vi__law_pot_3 dd_found dc_found) se_int))))
  (sb_cons hΦ (ss_ite hΦ (st_cmp hΦ .ge (se_vB 0 rfl vi__law_pot_0 dd_cell dc_cell) (se_bin hΦ .pow se_int se_int)) (sb_one (ss_ex hΦ (se_append hΦ (se_vB 3 rfl vi__law_pot_3 dd_found dc_found) (se_vB 0 rfl vi__law_pot_0 dd_cell dc_cell)))) sb_nil)
  (sb_one (ss_ret hΦ (se_vB 3 rfl vi__law_pot_3 dd_found dc_found)))))))
abbrev s__law_take : Stmt := top 30
abbrev N__law_take : List Str := [Str.ofString "pot", Str.ofString "many", Str.ofString "found"]
abbrev ps__law_take : List Str := [Str.ofString "pot", Str.ofString "many"]
theorem sc__law_take : FnScope N__law_take ps__law_take (defScope s__law_take) := ⟨rfl, rfl, rfl, by decide +kernel, rfl, by decide +kernel, by decide +kernel⟩
theorem vi__law_take_0 : Vis (defScope s__law_take) (Str.ofString "pot") := .inl (by decide +kernel)
theorem lo__law_take_0 : Loc (defScope s__law_take) (Str.ofString "pot") := .inl (by decide +kernel)
theorem ll__law_take_0 : (defScope s__law_take).names.lookup (Str.ofString "pot") = some .local := by decide +kernel
theorem vi__law_take_1 : Vis (defScope s__law_take) (Str.ofString "many") := .inl (by decide +kernel)
theorem lo__law_take_1 : Loc (defScope s__law_take) (Str.ofString "many") := .inl (by decide +kernel)
theorem ll__law_take_1 : (defScope s__law_take).names.lookup (Str.ofString "many") = some .local := by decide +kernel
theorem vi__law_take_2 : Vis (defScope s__law_take) (Str.ofString "found") := .inl (by decide +kernel)
theorem lo__law_take_2 : Loc (defScope s__law_take) (Str.ofString "found") := .inl (by decide +kernel)
theorem ll__law_take_2 : (defScope s__law_take).names.lookup (Str.ofString "found") = some .local := by decide +kernel
theorem gl__law_take_len : (defScope s__law_take).names.lookup (Str.ofString "len") = some .globalImplicit := by decide +kernel
theorem b__law_take {P : Program} {w : World} {K : Fr} {mg : Str → Option Value} {base : Heap} {n k : Nat} (T : Tx K mg) (Tn : Tab P w K mg base (phi PR n) k) (cdv : Value) (A : Around) (outer : List PySem.Env) (s : Shared) (H : Hp) (E : XK) {a : Addr} (hr : Room k (A.deeper (envOfC (Str.ofString "_law_take") (defScope s__law_take) s.heap.objs.size a cdv))) :
    SB (cxOf (L2.CX P w) P w K mg base N__law_take (Str.ofString "_law_take") (defScope s__law_take) a cdv A outer s H E) (phi PR n) (fun cls d _ H => E cls d H) (defBody s__law_take) D._law_take.body := by
  have hΦ := phi_mono PR n
  have hu := roomH_of hr
  exact (sb_cons hΦ (ss_asg (i := 2) hΦ sc__law_take.nd rfl (lo__law_take_2) (se_bin hΦ .mod (se_ix hΦ hu (se_vB 0 rfl vi__law_take_0 dd_pot dc_pot) (se_neg hΦ se_int)) (se_vB 1 rfl vi__law_take_1 dd_many dc_many)) rfl (.inl rfl))
  (sb_cons hΦ (ss_setix hu hΦ (se_bin hΦ .fdiv (se_ix hΦ hu (se_vB 0 rfl vi__law_take_0 dd_pot dc_pot) (se_neg hΦ se_int)) (se_vB 1 rfl vi__law_take_1 dd_many dc_many)) (se_vB 0 rfl vi__law_take_0 dd_pot dc_pot) (se_neg hΦ se_int))
  (sb_cons hΦ (ss_ite hΦ (SW.t (sw_and hΦ (st_eq hΦ hu .eq (se_ix hΦ hu (se_vB 0 rfl vi__law_take_0 dd_pot dc_pot) (se_neg hΦ se_int)) se_int) (sw_and1 (st_cmp hΦ .gt (se_len hΦ gl__law_take_len T.b_len bt_len (by decide) dd_len (se_vB 0 rfl vi__law_take_0 dd_pot dc_pot)) se_int)))) (sb_one (ss_ex hΦ (se_pop0 hΦ (se_vB 0 rfl vi__law_take_0 dd_pot dc_pot)))) sb_nil)
  (sb_one (ss_ret hΦ (se_vB 2 rfl vi__law_take_2 dd_found dc_found))))))
abbrev s__law_value : Stmt := top 31
abbrev N__law_value : List Str := [Str.ofString "pot"]
abbrev ps__law_value : List Str := [Str.ofString "pot"]
theorem sc__law_value : FnScope N__law_value ps__law_value (defScope s__law_value) := ⟨rfl, rfl, rfl, by decide +kernel, rfl, by decide +kernel, by decide +kernel⟩
theorem vi__law_value_0 : Vis (defScope s__law_value) (Str.ofString "pot") := .inl (by decide +kernel)
theorem lo__law_value_0 : Loc (defScope s__law_value) (Str.ofString "pot") := .inl (by decide +kernel)
theorem ll__law_value_0 : (defScope s__law_value).names.lookup (Str.ofString "pot") = some .local := by decide +kernel
theorem gl__law_value__law_take : (defScope s__law_value).names.lookup (Str.ofString "_law_take") = some .globalImplicit := by decide +kernel
theorem b__law_value {P : Program} {w : World} {K : Fr} {mg : Str → Option Value} {base : Heap} {n k : Nat} (T : Tx K mg) (Tn : Tab P w K mg base (phi PR n) k) (cdv : Value) (A : Around) (outer : List PySem.Env) (s : Shared) (H : Hp) (E : XK) {a : Addr} (hr : Room k (A.deeper (envOfC (Str.ofString "_law_value") (defScope s__law_value) s.heap.objs.size a cdv))) :
    SB (cxOf (L2.CX P w) P w K mg base N__law_value (Str.ofString "_law_value") (defScope s__law_value) a cdv A outer s H E) (phi PR n) (fun cls d _ H => E cls d H) (defBody s__law_value) D._law_value.body := by
  have hΦ := phi_mono PR n
  have hu := roomH_of hr
  exact (sb_cons hΦ (ss_ite hΦ (st_eq hΦ hu .eq (se_call (f := "_law_take") (m := .val) hΦ Tn.t__law_take hr (takes_of rfl rfl rfl rfl) gl__law_value__law_take (sa_cons hΦ (se_vB 0 rfl vi__law_value_0 dd_pot dc_pot) (sa_cons hΦ se_int sa_nil)) dd__law_take) se_int) (sb_one (ss_ret hΦ (se_call (f := "_law_take") (m := .val) hΦ Tn.t__law_take hr (takes_of rfl rfl rfl rfl) gl__law_value__law_take (sa_cons hΦ (se_vB 0 rfl vi__law_value_0 dd_pot dc_pot) (sa_cons hΦ se_int sa_nil)) dd__law_take))) sb_nil)
  (sb_one (ss_ret hΦ (se_call (f := "_law_take") (m := .val) hΦ Tn.t__law_take hr (takes_of rfl rfl rfl rfl) gl__law_value__law_take (sa_cons hΦ (se_vB 0 rfl vi__law_value_0 dd_pot dc_pot) (sa_cons hΦ (se_bin hΦ .pow se_int se_int) sa_nil)) dd__law_take))))
abbrev s__law_kind_right : Stmt := top 32
abbrev N__law_kind_right : List Str := [Str.ofString "found", Str.ofString "whole", Str.ofString "one"]
abbrev ps__law_kind_right : List Str := [Str.ofString "found"]
theorem sc__law_kind_right : FnScope N__law_kind_right ps__law_kind_right (defScope s__law_kind_right) := ⟨rfl, rfl, rfl, by decide +kernel, rfl, by decide +kernel, by decide +kernel⟩
theorem vi__law_kind_right_0 : Vis (defScope s__law_kind_right) (Str.ofString "found") := .inl (by decide +kernel)
theorem lo__law_kind_right_0 : Loc (defScope s__law_kind_right) (Str.ofString "found") := .inl (by decide +kernel)
theorem ll__law_kind_right_0 : (defScope s__law_kind_right).names.lookup (Str.ofString "found") = some .local := by decide +kernel
theorem vi__law_kind_right_1 : Vis (defScope s__law_kind_right) (Str.ofString "whole") := .inl (by decide +kernel)
theorem lo__law_kind_right_1 : Loc (defScope s__law_kind_right) (Str.ofString "whole") := .inl (by decide +kernel)
theorem ll__law_kind_right_1 : (defScope s__law_kind_right).names.lookup (Str.ofString "whole") = some .local := by decide +kernel
theorem gl__law_kind_right_all : (defScope s__law_kind_right).names.lookup (Str.ofString "all") = some .globalImplicit := by decide +kernel
theorem gl__law_kind_right_dict : (defScope s__law_kind_right).names.lookup (Str.ofString "dict") = some .globalImplicit := by decide +kernel
theorem gl__law_kind_right_isinstance : (defScope s__law_kind_right).names.lookup (Str.ofString "isinstance") = some .globalImplicit := by decide +kernel
theorem gl__law_kind_right_len : (defScope s__law_kind_right).names.lookup (Str.ofString "len") = some .globalImplicit := by decide +kernel
theorem gl__law_kind_right_list : (defScope s__law_kind_right).names.lookup (Str.ofString "list") = some .globalImplicit := by decide +kernel
theorem gl__law_kind_right_tuple : (defScope s__law_kind_right).names.lookup (Str.ofString "tuple") = some .globalImplicit := by decide +kernel
theorem b__law_kind_right {P : Program} {w : World} {K : Fr} {mg : Str → Option Value} {base : Heap} {n k : Nat} (T : Tx K mg) (Tn : Tab P w K mg base (phi PR n) k) (cdv : Value) (A : Around) (outer : List PySem.Env) (s : Shared) (H : Hp) (E : XK) {a : Addr} (hr : Room k (A.deeper (envOfC (Str.ofString "_law_kind_right") (defScope s__law_kind_right) s.heap.objs.size a cdv))) :
    SB (cxOf (L2.CX P w) P w K mg base N__law_kind_right (Str.ofString "_law_kind_right") (defScope s__law_kind_right) a cdv A outer s H E) (phi PR n) (fun cls d _ H => E cls d H) (defBody s__law_kind_right) D._law_kind_right.body := by
  have hΦ := phi_mono PR n
  have hu := roomH_of hr
  exact (sb_cons hΦ (ss_ite hΦ (SW.t (sw_or hΦ (st_not hΦ (st_of hΦ (se_isT hΦ .tuple gl__law_kind_right_isinstance T.b_isinstance bt_isinstance (by decide) dd_isinstance (se_vB 0 rfl vi__law_kind_right_0 dd_found dc_found) (pe_bltn gl__law_kind_right_tuple T.b_tuple bt_tuple rfl)))) (sw_or hΦ (st_in hΦ hu .notin (se_len hΦ gl__law_kind_right_len T.b_len bt_len (by decide) dd_len (se_vB 0 rfl vi__law_kind_right_0 dd_found dc_found)) (se_tup hΦ (sa_cons hΦ se_int (sa_cons hΦ se_int sa_nil)))) (sw_or1 (st_not hΦ (st_of hΦ (se_isT hΦ .list gl__law_kind_right_isinstance T.b_isinstance bt_isinstance (by decide) dd_isinstance (se_ix hΦ hu (se_vB 0 rfl vi__law_kind_right_0 dd_found dc_found) se_int) (pe_bltn gl__law_kind_right_list T.b_list bt_list rfl)))))))) (sb_one (ss_ret hΦ se_bl)) sb_nil)
  (sb_cons hΦ (ss_asg (i := 1) hΦ sc__law_kind_right.nd rfl (lo__law_kind_right_1) (SF.val hΦ (sf_list hΦ gl__law_kind_right_list T.b_list bt_list (by decide) dd_list (se_ix hΦ hu (se_vB 0 rfl vi__law_kind_right_0 dd_found dc_found) se_int))) rfl (.inl rfl))
  (sb_cons hΦ (ss_ite hΦ (st_eq hΦ hu .eq (se_len hΦ gl__law_kind_right_len T.b_len bt_len (by decide) dd_len (se_vB 0 rfl vi__law_kind_right_0 dd_found dc_found)) se_int) (sb_cons hΦ (ss_ite hΦ (st_not hΦ (st_of hΦ (se_isT hΦ .dict gl__law_kind_right_isinstance T.b_isinstance bt_isinstance (by decide) dd_isinstance (se_ix hΦ hu (se_vB 0 rfl vi__law_kind_right_0 dd_found dc_found) se_int) (pe_bltn gl__law_kind_right_dict T.b_dict bt_dict rfl)))) (sb_one (ss_ret hΦ se_bl)) sb_nil)
  (sb_one (ss_asg (i := 1) hΦ sc__law_kind_right.nd rfl (lo__law_kind_right_1) (se_bin hΦ .add (se_bin hΦ .add (se_bin hΦ .add (se_vB 1 rfl vi__law_kind_right_1 dd_whole dc_whole) (SF.val hΦ (sf_lst hΦ (sa_cons hΦ (se_ix hΦ hu (se_vB 0 rfl vi__law_kind_right_0 dd_found dc_found) se_int) (sa_cons hΦ (se_ix hΦ hu (se_vB 0 rfl vi__law_kind_right_0 dd_found dc_found) se_int) sa_nil))))) (SF.val hΦ (se_keysL hΦ gl__law_kind_right_list T.b_list (se_ix hΦ hu (se_vB 0 rfl vi__law_kind_right_0 dd_found dc_found) se_int)))) (SF.val hΦ (se_valsL hΦ gl__law_kind_right_list T.b_list (se_ix hΦ hu (se_vB 0 rfl vi__law_kind_right_0 dd_found dc_found) se_int)))) rfl (.inl rfl)))) sb_nil)
  (sb_one (ss_ret hΦ (se_all hΦ gl__law_kind_right_all T.b_all bt_all (by decide) dd_all (SF.val hΦ (sf_comp (own := [("one", 2)]) (t := (.n 2)) (e := (.and (.isT (.v 2) .int) (.not (.isT (.v 2) .bool)))) (cond := (.c (.bl true))) hΦ rfl sc__law_kind_right.nd (si_e hΦ (se_vB 1 rfl vi__law_kind_right_1 dd_whole dc_whole)) (blkOk_by (N := N__law_kind_right) (sc := defScope s__law_kind_right) (by decide +kernel)) (fun _ _ _ _ _ => (pg_name (i := 2) sc__law_kind_right.nd rfl (.inl rfl) (by first | exact .inr rfl | exact .inl rfl))) (fun _ _ _ _ _ => pts_yes) (fun _ _ _ _ _ => (se_and hΦ (se_isT hΦ .int (by first | rfl | kernel_rfl) T.b_isinstance bt_isinstance (by decide) dd_isinstance (se_vB 2 rfl (by first | exact .inl rfl | exact .inr (.inl rfl) | exact .inr (.inr rfl)) dd_one dc_one) (pe_bltn (by first | rfl | kernel_rfl) T.b_int bt_int rfl)) (se_one (se_not hΦ (se_isT hΦ .bool (by first | rfl | kernel_rfl) T.b_isinstance bt_isinstance (by decide) dd_isinstance (se_vB 2 rfl (by first | exact .inl rfl | exact .inr (.inl rfl) | exact .inr (.inr rfl)) dd_one dc_one) (pe_bltn (by first | rfl | kernel_rfl) T.b_bool bt_bool rfl)))))) (by decide)))))))))
abbrev s__law_due : Stmt := top 33
abbrev N__law_due : List Str := [Str.ofString "many", Str.ofString "inner", Str.ofString "times", Str.ofString "step", Str.ofString "even", Str.ofString "said", Str.ofString "n", Str.ofString "t", Str.ofString "c", Str.ofString "rows", Str.ofString "turn"]
abbrev ps__law_due : List Str := [Str.ofString "many", Str.ofString "inner", Str.ofString "times", Str.ofString "step", Str.ofString "even"]
theorem sc__law_due : FnScope N__law_due ps__law_due (defScope s__law_due) := ⟨rfl, rfl, rfl, by decide +kernel, rfl, by decide +kernel, by decide +kernel⟩
theorem vi__law_due_0 : Vis (defScope s__law_due) (Str.ofString "many") := .inl (by decide +kernel)
theorem lo__law_due_0 : Loc (defScope s__law_due) (Str.ofString "many") := .inl (by decide +kernel)
theorem ll__law_due_0 : (defScope s__law_due).names.lookup (Str.ofString "many") = some .local := by decide +kernel
theorem vi__law_due_1 : Vis (defScope s__law_due) (Str.ofString "inner") := .inl (by decide +kernel)
theorem lo__law_due_1 : Loc (defScope s__law_due) (Str.ofString "inner") := .inl (by decide +kernel)
theorem ll__law_due_1 : (defScope s__law_due).names.lookup (Str.ofString "inner") = some .local := by decide +kernel
theorem vi__law_due_2 : Vis (defScope s__law_due) (Str.ofString "times") := .inl (by decide +kernel)
theorem lo__law_due_2 : Loc (defScope s__law_due) (Str.ofString "times") := .inl (by decide +kernel)
theorem ll__law_due_2 : (defScope s__law_due).names.lookup (Str.ofString "times") = some .local := by decide +kernel
theorem vi__law_due_3 : Vis (defScope s__law_due) (Str.ofString "step") := .inl (by decide +kernel)
theorem lo__law_due_3 : Loc (defScope s__law_due) (Str.ofString "step") := .inl (by decide +kernel)
theorem ll__law_due_3 : (defScope s__law_due).names.lookup (Str.ofString "step") = some .local := by decide +kernel
theorem vi__law_due_4 : Vis (defScope s__law_due) (Str.ofString "even") := .inl (by decide +kernel)
theorem lo__law_due_4 : Loc (defScope s__law_due) (Str.ofString "even") := .inl (by decide +kernel)
theorem ll__law_due_4 : (defScope s__law_due).names.lookup (Str.ofString "even") = some .local := by decide +kernel
theorem vi__law_due_5 : Vis (defScope s__law_due) (Str.ofString "said") := .inl (by decide +kernel)
theorem lo__law_due_5 : Loc (defScope s__law_due) (Str.ofString "said") := .inl (by decide +kernel)
theorem ll__law_due_5 : (defScope s__law_due).names.lookup (Str.ofString "said") = some .local := by decide +kernel
theorem vi__law_due_6 : Vis (defScope s__law_due) (Str.ofString "n") := .inl (by decide +kernel)
theorem lo__law_due_6 : Loc (defScope s__law_due) (Str.ofString "n") := .inl (by decide +kernel)
theorem ll__law_due_6 : (defScope s__law_due).names.lookup (Str.ofString "n") = some .local := by decide +kernel
theorem vi__law_due_7 : Vis (defScope s__law_due) (Str.ofString "t") := .inl (by decide +kernel)
theorem lo__law_due_7 : Loc (defScope s__law_due) (Str.ofString "t") := .inl (by decide +kernel)
theorem ll__law_due_7 : (defScope s__law_due).names.lookup (Str.ofString "t") = some .local := by decide +kernel
theorem vi__law_due_8 : Vis (defScope s__law_due) (Str.ofString "c") := .inl (by decide +kernel)
theorem lo__law_due_8 : Loc (defScope s__law_due) (Str.ofString "c") := .inl (by decide +kernel)
theorem ll__law_due_8 : (defScope s__law_due).names.lookup (Str.ofString "c") = some .local := by decide +kernel
theorem vi__law_due_9 : Vis (defScope s__law_due) (Str.ofString "rows") := .inl (by decide +kernel)
theorem lo__law_due_9 : Loc (defScope s__law_due) (Str.ofString "rows") := .inl (by decide +kernel)
theorem ll__law_due_9 : (defScope s__law_due).names.lookup (Str.ofString "rows") = some .local := by decide +kernel
theorem vi__law_due_10 : Vis (defScope s__law_due) (Str.ofString "turn") := .inl (by decide +kernel)
theorem lo__law_due_10 : Loc (defScope s__law_due) (Str.ofString "turn") := .inl (by decide +kernel)
theorem ll__law_due_10 : (defScope s__law_due).names.lookup (Str.ofString "turn") = some .local := by decide +kernel
theorem gl__law_due_range : (defScope s__law_due).names.lookup (Str.ofString "range") = some .globalImplicit := by decide +kernel
theorem b__law_due {P : Program} {w : World} {K : Fr} {mg : Str → Option Value} {base : Heap} {n k : Nat} (T : Tx K mg) (Tn : Tab P w K mg base (phi PR n) k) (cdv : Value) (A : Around) (outer : List PySem.Env) (s : Shared) (H : Hp) (E : XK) {a : Addr} (hr : Room k (A.deeper (envOfC (Str.ofString "_law_due") (defScope s__law_due) s.heap.objs.size a cdv))) :
    SB (cxOf (L2.CX P w) P w K mg base N__law_due (Str.ofString "_law_due") (defScope s__law_due) a cdv A outer s H E) (phi PR n) (fun cls d _ H => E cls d H) (defBody s__law_due) D._law_due_v5.body := by
  have hΦ := phi_mono PR n
  have hu := roomH_of hr
  exact (sb_cons hΦ (ss_asg (i := 5) hΦ sc__law_due.nd rfl (lo__law_due_5) (SF.new hΦ (sf_lst hΦ sa_nil)) rfl (.inl rfl))
  (sb_cons hΦ (ss_asg (i := 6) hΦ sc__law_due.nd rfl (lo__law_due_6) (se_bin hΦ .mul (se_bin hΦ .mod (se_vB 0 rfl vi__law_due_0 dd_many dc_many) se_int) (se_bin hΦ .mod (se_vB 1 rfl vi__law_due_1 dd_inner dc_inner) se_int)) rfl (.inl rfl))
  (sb_cons hΦ (ss_par3 (i := 7) (j := 8) (k := 9) hΦ rfl sc__law_due.nd rfl rfl rfl (by decide) (by decide) (by decide) ll__law_due_7 ll__law_due_8 ll__law_due_9 (sa_cons hΦ se_int (sa_cons hΦ se_int (sa_cons hΦ (se_bin hΦ .add se_int (se_bin hΦ .mul (se_bin hΦ .mod (se_vB 0 rfl vi__law_due_0 dd_many dc_many) se_int) (se_bin hΦ .add se_int (se_bin hΦ .mod (se_vB 1 rfl vi__law_due_1 dd_inner dc_inner) se_int)))) sa_nil))) (by first | rfl | kernel_rfl))
  (sb_cons hΦ (ss_for (t := (.n 10)) hΦ (passes_of rfl) rfl (si_range hΦ gl__law_due_range T.b_range (se_bin hΦ .mod (se_vB 2 rfl vi__law_due_2 dd_times dc_times) se_int)) (pg_name (i := 10) sc__law_due.nd rfl (lo__law_due_10) (.inl rfl)) (sb_cons hΦ (ss_asg (i := 9) hΦ sc__law_due.nd rfl (lo__law_due_9) (se_bin hΦ .add (se_vB 9 rfl vi__law_due_9 dd_rows dc_rows) se_int) rfl (.inl rfl))
  (sb_cons hΦ (ss_asg (i := 8) hΦ sc__law_due.nd rfl (lo__law_due_8) (se_bin hΦ .add (se_vB 8 rfl vi__law_due_8 dd_c dc_c) se_int) rfl (.inl rfl))
  (sb_one (ss_ite hΦ (st_eq hΦ hu .eq (se_eq hΦ hu .eq (se_bin hΦ .mod (se_vB 8 rfl vi__law_due_8 dd_c dc_c) se_int) se_int) (se_vB 4 rfl vi__law_due_4 dd_even dc_even)) (sb_one (ss_asg (i := 7) hΦ sc__law_due.nd rfl (lo__law_due_7) (se_bin hΦ .mod (se_bin hΦ .add (se_vB 7 rfl vi__law_due_7 dd_t dc_t) (se_vB 3 rfl vi__law_due_3 dd_step dc_step)) se_int) rfl (.inl rfl))) (sb_one (ss_ex hΦ (se_append hΦ (se_vB 5 rfl vi__law_due_5 dd_said dc_said) (se_vB 7 rfl vi__law_due_7 dd_t dc_t)))))))))
  (sb_one (ss_ret hΦ (se_tup hΦ (sa_cons hΦ (se_str (strOk_of "done")) (sa_cons hΦ (se_vB 5 rfl vi__law_due_5 dd_said dc_said) (sa_cons hΦ (se_bin hΦ .mod (se_bin hΦ .add (se_vB 7 rfl vi__law_due_7 dd_t dc_t) (se_vB 6 rfl vi__law_due_6 dd_n dc_n)) se_int) (sa_cons hΦ (se_vB 9 rfl vi__law_due_9 dd_rows dc_rows) (sa_cons hΦ (SF.val hΦ sf_dct0) sa_nil))))))))))))
abbrev s_law : Stmt := top 34
abbrev N_law : List Str := [Str.ofString "script", Str.ofString "k", Str.ofString "cell", Str.ofString "pot", Str.ofString "many", Str.ofString "inner", Str.ofString "times", Str.ofString "step", Str.ofString "even", Str.ofString "asked", Str.ofString "adds", Str.ofString "when", Str.ofString "changed", Str.ofString "counts", Str.ofString "rounds", Str.ofString "rows", Str.ofString "book", Str.ofString "found", Str.ofString "turn"]
abbrev ps_law : List Str := [Str.ofString "script"]
theorem sc_law : FnScope N_law ps_law (defScope s_law) := ⟨rfl, rfl, rfl, by decide +kernel, rfl, by decide +kernel, by decide +kernel⟩
theorem vi_law_0 : Vis (defScope s_law) (Str.ofString "script") := .inl (by decide +kernel)
theorem lo_law_0 : Loc (defScope s_law) (Str.ofString "script") := .inl (by decide +kernel)
theorem ll_law_0 : (defScope s_law).names.lookup (Str.ofString "script") = some .local := by decide +kernel
theorem vi_law_1 : Vis (defScope s_law) (Str.ofString "k") := .inl (by decide +kernel)
theorem lo_law_1 : Loc (defScope s_law) (Str.ofString "k") := .inl (by decide +kernel)
theorem ll_law_1 : (defScope s_law).names.lookup (Str.ofString "k") = some .local := by decide +kernel
theorem vi_law_2 : Vis (defScope s_law) (Str.ofString "cell") := .inl (by decide +kernel)
theorem lo_law_2 : Loc (defScope s_law) (Str.ofString "cell") := .inl (by decide +kernel)
theorem ll_law_2 : (defScope s_law).names.lookup (Str.ofString "cell") = some .local := by decide +kernel
theorem vi_law_3 : Vis (defScope s_law) (Str.ofString "pot") := .inr (.inl (by decide +kernel))
theorem lo_law_3 : Loc (defScope s_law) (Str.ofString "pot") := .inr (by decide +kernel)
theorem vi_law_4 : Vis (defScope s_law) (Str.ofString "many") := .inl (by decide +kernel)
theorem lo_law_4 : Loc (defScope s_law) (Str.ofString "many") := .inl (by decide +kernel)
theorem ll_law_4 : (defScope s_law).names.lookup (Str.ofString "many") = some .local := by decide +kernel
theorem vi_law_5 : Vis (defScope s_law) (Str.ofString "inner") := .inl (by decide +kernel)
theorem lo_law_5 : Loc (defScope s_law) (Str.ofString "inner") := .inl (by decide +kernel)
theorem ll_law_5 : (defScope s_law).names.lookup (Str.ofString "inner") = some .local := by decide +kernel
theorem vi_law_6 : Vis (defScope s_law) (Str.ofString "times") := .inl (by decide +kernel)
theorem lo_law_6 : Loc (defScope s_law) (Str.ofString "times") := .inl (by decide +kernel)
theorem ll_law_6 : (defScope s_law).names.lookup (Str.ofString "times") = some .local := by decide +kernel
theorem vi_law_7 : Vis (defScope s_law) (Str.ofString "step") := .inl (by decide +kernel)
theorem lo_law_7 : Loc (defScope s_law) (Str.ofString "step") := .inl (by decide +kernel)
theorem ll_law_7 : (defScope s_law).names.lookup (Str.ofString "step") = some .local := by decide +kernel
theorem vi_law_8 : Vis (defScope s_law) (Str.ofString "even") := .inl (by decide +kernel)
theorem lo_law_8 : Loc (defScope s_law) (Str.ofString "even") := .inl (by decide +kernel)
theorem ll_law_8 : (defScope s_law).names.lookup (Str.ofString "even") = some .local := by decide +kernel
theorem vi_law_9 : Vis (defScope s_law) (Str.ofString "asked") := .inl (by decide +kernel)
theorem lo_law_9 : Loc (defScope s_law) (Str.ofString "asked") := .inl (by decide +kernel)
theorem ll_law_9 : (defScope s_law).names.lookup (Str.ofString "asked") = some .local := by decide +kernel
theorem vi_law_10 : Vis (defScope s_law) (Str.ofString "adds") := .inl (by decide +kernel)
theorem lo_law_10 : Loc (defScope s_law) (Str.ofString "adds") := .inl (by decide +kernel)
theorem ll_law_10 : (defScope s_law).names.lookup (Str.ofString "adds") = some .local := by decide +kernel
theorem vi_law_11 : Vis (defScope s_law) (Str.ofString "when") := .inl (by decide +kernel)
theorem lo_law_11 : Loc (defScope s_law) (Str.ofString "when") := .inl (by decide +kernel)
theorem ll_law_11 : (defScope s_law).names.lookup (Str.ofString "when") = some .local := by decide +kernel
theorem vi_law_12 : Vis (defScope s_law) (Str.ofString "changed") := .inl (by decide +kernel)
theorem lo_law_12 : Loc (defScope s_law) (Str.ofString "changed") := .inl (by decide +kernel)
theorem ll_law_12 : (defScope s_law).names.lookup (Str.ofString "changed") = some .local := by decide +kernel
theorem vi_law_13 : Vis (defScope s_law) (Str.ofString "counts") := .inl (by decide +kernel)
theorem lo_law_13 : Loc (defScope s_law) (Str.ofString "counts") := .inl (by decide +kernel)
theorem ll_law_13 : (defScope s_law).names.lookup (Str.ofString "counts") = some .local := by decide +kernel
theorem vi_law_14 : Vis (defScope s_law) (Str.ofString "rounds") := .inl (by decide +kernel)
theorem lo_law_14 : Loc (defScope s_law) (Str.ofString "rounds") := .inl (by decide +kernel)
theorem ll_law_14 : (defScope s_law).names.lookup (Str.ofString "rounds") = some .local := by decide +kernel
theorem vi_law_15 : Vis (defScope s_law) (Str.ofString "rows") := .inl (by decide +kernel)
theorem lo_law_15 : Loc (defScope s_law) (Str.ofString "rows") := .inl (by decide +kernel)
theorem ll_law_15 : (defScope s_law).names.lookup (Str.ofString "rows") = some .local := by decide +kernel
theorem vi_law_16 : Vis (defScope s_law) (Str.ofString "book") := .inl (by decide +kernel)
theorem lo_law_16 : Loc (defScope s_law) (Str.ofString "book") := .inl (by decide +kernel)
theorem ll_law_16 : (defScope s_law).names.lookup (Str.ofString "book") = some .local := by decide +kernel
theorem vi_law_17 : Vis (defScope s_law) (Str.ofString "found") := .inl (by decide +kernel)
theorem lo_law_17 : Loc (defScope s_law) (Str.ofString "found") := .inl (by decide +kernel)
theorem ll_law_17 : (defScope s_law).names.lookup (Str.ofString "found") = some .local := by decide +kernel
theorem gl_law__law_due : (defScope s_law).names.lookup (Str.ofString "_law_due") = some .globalImplicit := by decide +kernel
theorem gl_law__law_kind_right : (defScope s_law).names.lookup (Str.ofString "_law_kind_right") = some .globalImplicit := by decide +kernel
theorem gl_law__law_pot : (defScope s_law).names.lookup (Str.ofString "_law_pot") = some .globalImplicit := by decide +kernel
theorem gl_law__law_take : (defScope s_law).names.lookup (Str.ofString "_law_take") = some .globalImplicit := by decide +kernel
theorem gl_law_enumerate : (defScope s_law).names.lookup (Str.ofString "enumerate") = some .globalImplicit := by decide +kernel
theorem gl_law_made_book : (defScope s_law).names.lookup (Str.ofString "made_book") = some .globalImplicit := by decide +kernel
theorem gl_law_range : (defScope s_law).names.lookup (Str.ofString "range") = some .globalImplicit := by decide +kernel
theorem gl_law_run_book : (defScope s_law).names.lookup (Str.ofString "run_book") = some .globalImplicit := by decide +kernel
theorem b_law {P : Program} {w : World} {K : Fr} {mg : Str → Option Value} {base : Heap} {n k : Nat} (T : Tx K mg) (Tn : Tab P w K mg base (phi PR n) k) (cdv : Value) (A : Around) (outer : List PySem.Env) (s : Shared) (H : Hp) (E : XK) {a : Addr} (hr : Room k (A.deeper (envOfC (Str.ofString "law") (defScope s_law) s.heap.objs.size a cdv))) :
    SB (cxOf (L2.CX P w) P w K mg base N_law (Str.ofString "law") (defScope s_law) a cdv A outer s H E) (phi PR n) (fun cls d _ H => E cls d H) (defBody s_law) D.law_k18.body := by
  have hΦ := phi_mono PR n
  have hu := roomH_of hr
  exact (sb_cons hΦ (ss_for (t := (.t [(.n 1), (.n 2)])) hΦ (passes_of rfl) rfl (si_enum hΦ gl_law_enumerate T.b_enumerate (se_bin hΦ .add (SF.val hΦ (sf_lst hΦ (sa_cons hΦ se_int sa_nil))) (se_vB 0 rfl vi_law_0 dd_script dc_script))) (pg_seq rfl (pgs_cons (pg_name (i := 1) sc_law.nd rfl (lo_law_1) (.inl rfl)) (pgs_cons (pg_name (i := 2) sc_law.nd rfl (lo_law_2) (.inl rfl)) pgs_nil))) (sb_cons hΦ (ss_asg (i := 3) hΦ sc_law.nd rfl (lo_law_3) (se_call (f := "_law_pot") (m := .obj) hΦ Tn.t__law_pot hr (takes_of rfl rfl rfl rfl) gl_law__law_pot (sa_cons hΦ (se_vB 2 rfl vi_law_2 dd_cell dc_cell) (sa_cons hΦ (se_vB 1 rfl vi_law_1 dd_k dc_k) sa_nil)) dd__law_pot) rfl (.inl rfl))
  (sb_cons hΦ (ss_asgT (t := (.t [(.n 4), (.n 5), (.n 6), (.n 7)])) hΦ (SF.val hΦ (sf_comp (own := [("turn", 18)]) (t := (.n 18)) (e := (.call "_law_value" .val (.cons (.v 3) .nil))) (cond := (.c (.bl true))) hΦ rfl sc_law.nd (si_range hΦ gl_law_range T.b_range se_int) (blkOk_by (N := N_law) (sc := defScope s_law) (by decide +kernel)) (fun _ _ _ _ _ => (pg_name (i := 18) sc_law.nd rfl (.inl rfl) (by first | exact .inr rfl | exact .inl rfl))) (fun _ _ _ _ _ => pts_yes) (fun _ _ _ _ _ => (se_call (f := "_law_value") (m := .val) hΦ Tn.t__law_value hr takes0 (by first | rfl | kernel_rfl) (sa_cons hΦ (se_vB 3 rfl (by first | exact .inl rfl | exact .inr (.inl rfl) | exact .inr (.inr rfl)) dd_pot dc_pot) sa_nil) dd__law_value)) (by decide))) (pg_seq rfl (pgs_cons (pg_name (i := 4) sc_law.nd rfl (lo_law_4) (.inl rfl)) (pgs_cons (pg_name (i := 5) sc_law.nd rfl (lo_law_5) (.inl rfl)) (pgs_cons (pg_name (i := 6) sc_law.nd rfl (lo_law_6) (.inl rfl)) (pgs_cons (pg_name (i := 7) sc_law.nd rfl (lo_law_7) (.inl rfl)) pgs_nil))))))
  (sb_cons hΦ (ss_asg (i := 8) hΦ sc_law.nd rfl (lo_law_8) (se_eq hΦ hu .eq (se_call (f := "_law_take") (m := .val) hΦ Tn.t__law_take hr (takes_of rfl rfl rfl rfl) gl_law__law_take (sa_cons hΦ (se_vB 3 rfl vi_law_3 dd_pot dc_pot) (sa_cons hΦ se_int sa_nil)) dd__law_take) se_int) rfl (.inl rfl))
  (sb_cons hΦ (ss_asg (i := 9) hΦ sc_law.nd rfl (lo_law_9) (se_tup hΦ (sa_cons hΦ (se_str (strOk_of "rest")) (sa_cons hΦ (se_tup hΦ (sa_cons hΦ (se_str (strOk_of "name")) (sa_cons hΦ (se_str (strOk_of "c")) sa_nil))) (sa_cons hΦ (se_tup hΦ (sa_cons hΦ (se_str (strOk_of "number")) (sa_cons hΦ se_int sa_nil))) sa_nil)))) rfl (.inl rfl))
  (sb_cons hΦ (ss_ite hΦ (st_of hΦ (se_vB 8 rfl vi_law_8 dd_even dc_even)) (sb_one (ss_asg (i := 9) hΦ sc_law.nd rfl (lo_law_9) (se_tup hΦ (sa_cons hΦ (se_str (strOk_of "same")) (sa_cons hΦ (se_vB 9 rfl vi_law_9 dd_asked dc_asked) (sa_cons hΦ (se_tup hΦ (sa_cons hΦ (se_str (strOk_of "number")) (sa_cons hΦ se_int sa_nil))) sa_nil)))) rfl (.inl rfl))) sb_nil)
  (sb_cons hΦ (ss_asg (i := 10) hΦ sc_law.nd rfl (lo_law_10) (se_tup hΦ (sa_cons hΦ (se_str (strOk_of "set")) (sa_cons hΦ (se_str (strOk_of "t")) (sa_cons hΦ (se_tup hΦ (sa_cons hΦ (se_str (strOk_of "plus")) (sa_cons hΦ (se_tup hΦ (sa_cons hΦ (se_str (strOk_of "name")) (sa_cons hΦ (se_str (strOk_of "t")) sa_nil))) (sa_cons hΦ (se_tup hΦ (sa_cons hΦ (se_str (strOk_of "number")) (sa_cons hΦ (se_vB 7 rfl vi_law_7 dd_step dc_step) sa_nil))) sa_nil)))) sa_nil)))) rfl (.inl rfl))
  (sb_cons hΦ (ss_asg (i := 11) hΦ sc_law.nd rfl (lo_law_11) (se_tup hΦ (sa_cons hΦ (se_str (strOk_of "when")) (sa_cons hΦ (se_vB 9 rfl vi_law_9 dd_asked dc_asked) (sa_cons hΦ (se_tup hΦ (sa_cons hΦ (se_vB 10 rfl vi_law_10 dd_adds dc_adds) sa_nil)) (sa_cons hΦ (se_tup hΦ (sa_cons hΦ (se_tup hΦ (sa_cons hΦ (se_str (strOk_of "say")) (sa_cons hΦ (se_tup hΦ (sa_cons hΦ (se_str (strOk_of "name")) (sa_cons hΦ (se_str (strOk_of "t")) sa_nil))) sa_nil))) sa_nil)) sa_nil))))) rfl (.inl rfl))
  (sb_cons hΦ (ss_asg (i := 12) hΦ sc_law.nd rfl (lo_law_12) (se_tup hΦ (sa_cons hΦ (se_str (strOk_of "set")) (sa_cons hΦ (se_str (strOk_of "m")) (sa_cons hΦ (se_tup hΦ (sa_cons hΦ (se_str (strOk_of "plus")) (sa_cons hΦ (se_tup hΦ (sa_cons hΦ (se_str (strOk_of "name")) (sa_cons hΦ (se_str (strOk_of "m")) sa_nil))) (sa_cons hΦ (se_tup hΦ (sa_cons hΦ (se_str (strOk_of "number")) (sa_cons hΦ se_int sa_nil))) sa_nil)))) sa_nil)))) rfl (.inl rfl))
  (sb_cons hΦ (ss_asg (i := 13) hΦ sc_law.nd rfl (lo_law_13) (se_tup hΦ (sa_cons hΦ (se_str (strOk_of "turn")) (sa_cons hΦ (se_tup hΦ (sa_cons hΦ (se_str (strOk_of "number")) (sa_cons hΦ (se_vB 5 rfl vi_law_5 dd_inner dc_inner) sa_nil))) (sa_cons hΦ (se_tup hΦ (sa_cons hΦ (se_tup hΦ (sa_cons hΦ (se_str (strOk_of "set")) (sa_cons hΦ (se_str (strOk_of "n")) (sa_cons hΦ (se_tup hΦ (sa_cons hΦ (se_str (strOk_of "plus")) (sa_cons hΦ (se_tup hΦ (sa_cons hΦ (se_str (strOk_of "name")) (sa_cons hΦ (se_str (strOk_of "n")) sa_nil))) (sa_cons hΦ (se_tup hΦ (sa_cons hΦ (se_str (strOk_of "number")) (sa_cons hΦ se_int sa_nil))) sa_nil)))) sa_nil)))) sa_nil)) sa_nil)))) rfl (.inl rfl))
  (sb_cons hΦ (ss_asg (i := 14) hΦ sc_law.nd rfl (lo_law_14) (se_tup hΦ (sa_cons hΦ (se_str (strOk_of "turn")) (sa_cons hΦ (se_tup hΦ (sa_cons hΦ (se_str (strOk_of "number")) (sa_cons hΦ (se_vB 6 rfl vi_law_6 dd_times dc_times) sa_nil))) (sa_cons hΦ (se_tup hΦ (sa_cons hΦ (se_tup hΦ (sa_cons hΦ (se_str (strOk_of "set")) (sa_cons hΦ (se_str (strOk_of "c")) (sa_cons hΦ (se_tup hΦ (sa_cons hΦ (se_str (strOk_of "plus")) (sa_cons hΦ (se_tup hΦ (sa_cons hΦ (se_str (strOk_of "name")) (sa_cons hΦ (se_str (strOk_of "c")) sa_nil))) (sa_cons hΦ (se_tup hΦ (sa_cons hΦ (se_str (strOk_of "number")) (sa_cons hΦ se_int sa_nil))) sa_nil)))) sa_nil)))) (sa_cons hΦ (se_vB 11 rfl vi_law_11 dd_when dc_when) sa_nil))) sa_nil)))) rfl (.inl rfl))
  (sb_cons hΦ (ss_asg (i := 15) hΦ sc_law.nd rfl (lo_law_15) (se_tup hΦ (sa_cons hΦ (se_tup hΦ (sa_cons hΦ (se_str (strOk_of "set")) (sa_cons hΦ (se_str (strOk_of "m")) (sa_cons hΦ (se_tup hΦ (sa_cons hΦ (se_str (strOk_of "number")) (sa_cons hΦ (se_vB 4 rfl vi_law_4 dd_many dc_many) sa_nil))) sa_nil)))) (sa_cons hΦ (se_tup hΦ (sa_cons hΦ (se_str (strOk_of "turn")) (sa_cons hΦ (se_tup hΦ (sa_cons hΦ (se_str (strOk_of "name")) (sa_cons hΦ (se_str (strOk_of "m")) sa_nil))) (sa_cons hΦ (se_tup hΦ (sa_cons hΦ (se_vB 12 rfl vi_law_12 dd_changed dc_changed) (sa_cons hΦ (se_vB 13 rfl vi_law_13 dd_counts dc_counts) sa_nil))) sa_nil)))) (sa_cons hΦ (se_vB 14 rfl vi_law_14 dd_rounds dc_rounds) sa_nil)))) rfl (.inl rfl))
  (sb_cons hΦ (ss_asg (i := 16) hΦ sc_law.nd rfl (lo_law_16) (se_call (f := "made_book") (m := .val) hΦ Tn.t_made_book hr (takes_of rfl rfl rfl rfl) gl_law_made_book (sa_cons hΦ (SF.val hΦ (sf_lst hΦ (sa_cons hΦ (se_tup hΦ (sa_cons hΦ (se_str (strOk_of "only")) (sa_cons hΦ (se_tup hΦ sa_nil) (sa_cons hΦ (se_vB 15 rfl vi_law_15 dd_rows dc_rows) (sa_cons hΦ (se_tup hΦ (sa_cons hΦ (se_str (strOk_of "plus")) (sa_cons hΦ (se_tup hΦ (sa_cons hΦ (se_str (strOk_of "name")) (sa_cons hΦ (se_str (strOk_of "t")) sa_nil))) (sa_cons hΦ (se_tup hΦ (sa_cons hΦ (se_str (strOk_of "name")) (sa_cons hΦ (se_str (strOk_of "n")) sa_nil))) sa_nil)))) sa_nil))))) sa_nil))) sa_nil) dd_made_book) rfl (.inl rfl))
  (sb_cons hΦ (ss_asg (i := 17) hΦ sc_law.nd rfl (lo_law_17) (se_call (f := "run_book") (m := .val) hΦ Tn.t_run_book hr (takes_of rfl rfl rfl rfl) gl_law_run_book (sa_cons hΦ (se_vB 16 rfl vi_law_16 dd_book dc_book) (sa_cons hΦ (SF.val hΦ (sf_lst hΦ sa_nil)) sa_nil)) dd_run_book) rfl (.inl rfl))
  (sb_one (ss_ite hΦ (SW.t (sw_or hΦ (st_not hΦ (st_of hΦ (se_call (f := "_law_kind_right") (m := .val) hΦ Tn.t__law_kind_right hr (takes_of rfl rfl rfl rfl) gl_law__law_kind_right (sa_cons hΦ (se_vB 17 rfl vi_law_17 dd_found dc_found) sa_nil) dd__law_kind_right))) (sw_or1 (st_eq hΦ hu .ne (se_vB 17 rfl vi_law_17 dd_found dc_found) (se_call (f := "_law_due") (m := .val) hΦ Tn.t__law_due hr (takes_of rfl rfl rfl rfl) gl_law__law_due (sa_cons hΦ (se_vB 4 rfl vi_law_4 dd_many dc_many) (sa_cons hΦ (se_vB 5 rfl vi_law_5 dd_inner dc_inner) (sa_cons hΦ (se_vB 6 rfl vi_law_6 dd_times dc_times) (sa_cons hΦ (se_vB 7 rfl vi_law_7 dd_step dc_step) (sa_cons hΦ (se_vB 8 rfl vi_law_8 dd_even dc_even) sa_nil))))) dd__law_due))))) (sb_one (ss_ret hΦ se_bl)) sb_nil))))))))))))))))
  (sb_one (ss_ret hΦ se_bl)))
end Mi.k18
namespace Mi.k18
open PySem (Str)
open Mi
def depth : Nat := 24
theorem worthP : WorthP PR := ⟨pr_joined_worth, pr_worth_of⟩
theorem runP : RunP2 PR := ⟨⟨worthP, pr_Running_begin_round, pr_Running_do_rows, pr_Running_do_when, pr_Running_do_turn⟩, pr_Running_done_deed, pr_Running___init__, pr_rising_counts, pr_ran_ways, pr_run_book⟩
abbrev sm : Str := Str.ofString "m"
abbrev sn : Str := Str.ofString "n"
abbrev st : Str := Str.ofString "t"
abbrev sc : Str := Str.ofString "c"
def up (x : Str) (i : Int) : Rw := .set x (.op .plus (.nam x) (.num i))
def asked0 : Ex := .op .rest (.nam sc) (.num 2)
def asked (even : Bool) : Ex := if even = true then .op .same asked0 (.num 0) else asked0
def row2 (inner : Int) : Rw := .turn (.nam sm) [up sm 3, .turn (.num inner) [up sn 1]]
def row3 (times step : Int) (even : Bool) : Rw := .turn (.num times) [up sc 1, .when (asked even) [up st step] [.say (.nam st)]]
def rows (many inner times step : Int) (even : Bool) : List Rw := [.set sm (.num many), row2 inner, row3 times step even]
def give : Ex := .op .plus (.nam st) (.nam sn)
theorem up_run {x : Str} {i : Int} {s : Rs} : (up x i).run s = ({ s with held := hput x ((look s.held x + i).fmod 1000000) s.held }, none) := set_run (worth_op (worth_nam _ _) (worth_num _ _))
theorem fmod10 (v : Int) : 0 ≤ v.fmod 10 ∧ v.fmod 10 < 10 := fmod_lt (by decide)
theorem fsmall {a : Int} (h : 0 ≤ a) (h1 : a < 1000000) : a.fmod 1000000 = a := by
  rw [Int.fmod_eq_emod_of_nonneg _ (by decide)]
  exact Int.emod_eq_of_lt h h1
theorem nm_ne : sm ≠ sn ∧ sm ≠ st ∧ sm ≠ sc ∧ sn ≠ st ∧ sn ≠ sc ∧ st ≠ sc := by simp
/-- behind the first two rows -/
theorem front (many inner : Int) : ∃ s', runs [.set sm (.num many), row2 inner] ⟨[], [], 0, 0⟩ = (s', none) ∧ s'.said = [] ∧ s'.rows = 2 + many.fmod 10 * (2 + inner.fmod 10) ∧ s'.rounds ≤ 90 ∧ 0 ≤ s'.rounds ∧ look s'.held sn = many.fmod 10 * inner.fmod 10 ∧ look s'.held st = 0 ∧ look s'.held sc = 0 := by
  obtain ⟨n1, n2, n3, n4, n5, n6⟩ := nm_ne
  have hM := fmod10 many
  have hI := fmod10 inner
  have inner_run : ∀ s : Rs, s.rounds + inner.fmod 10 ≤ 1000 → 0 ≤ look s.held sn → look s.held sn + inner.fmod 10 < 1000000 → ∃ s', loopN (roundOf (runs [up sn 1])) (inner.fmod 10).toNat s = (s', none) ∧ s'.said = s.said ∧ s'.rows = s.rows + inner.fmod 10 ∧ s'.rounds = s.rounds + inner.fmod 10 ∧ look s'.held sn = look s.held sn + inner.fmod 10 ∧ look s'.held sm = look s.held sm ∧ look s'.held st = look s.held st ∧ look s'.held sc = look s.held sc := fun s h1 h2 h3 => by
    obtain ⟨s', e, i⟩ := loop_inv (f := roundOf (runs [up sn 1])) (fun k s' => s'.said = s.said ∧ s'.rows = s.rows + k ∧ s'.rounds = s.rounds + k ∧ look s'.held sn = look s.held sn + k ∧ look s'.held sm = look s.held sm ∧ look s'.held st = look s.held st ∧ look s'.held sc = look s.held sc) (s := s) ⟨rfl, by simp, by simp, by simp, rfl, rfl, rfl⟩ (inner.fmod 10).toNat fun k s1 hk ⟨a1, a2, a3, a4, a5, a6, a7⟩ => by
      refine ⟨{ s1 with rounds := s1.rounds + 1, rows := s1.rows + 1, held := hput sn ((look s1.held sn + 1).fmod 1000000) s1.held }, ?_, a1, ?_, ?_, ?_, ?_, ?_, ?_⟩
      · rw [round_on (begin_on (by rw [a3]; omega))]
        exact runs_go up_run (runs_nil _)
      · show s1.rows + 1 = _; rw [a2]; push_cast; omega
      · show s1.rounds + 1 = _; rw [a3]; push_cast; omega
      · show look (hput _ _ _) _ = _
        rw [look_put, if_pos rfl, a4, fsmall (by omega) (by omega)]
        push_cast; omega
      · show look (hput _ _ _) _ = _
        rw [look_put, if_neg n1, a5]
      · show look (hput _ _ _) _ = _
        rw [look_put, if_neg n4.symm, a6]
      · show look (hput _ _ _) _ = _
        rw [look_put, if_neg n5.symm, a7]
    have ek : ((inner.fmod 10).toNat : Int) = inner.fmod 10 := by omega
    rw [ek] at i
    exact ⟨s', e, i⟩
  obtain ⟨s', e, b1, b2, b3, b4, b5, b6⟩ := loop_inv (f := roundOf (runs [up sm 3, .turn (.num inner) [up sn 1]])) (fun k s' => s'.said = [] ∧ s'.rows = 2 + k * (2 + inner.fmod 10) ∧ s'.rounds = k * (1 + inner.fmod 10) ∧ look s'.held sn = k * inner.fmod 10 ∧ look s'.held st = 0 ∧ look s'.held sc = 0)
    (s := ⟨hput sm many [], [], 2, 0⟩) ⟨rfl, by simp, by simp, by show look (hput sm many []) sn = _; rw [look_put, if_neg n1.symm]; simp [look], by show look (hput sm many []) st = _; rw [look_put, if_neg n2.symm]; simp [look], by show look (hput sm many []) sc = _; rw [look_put, if_neg n3.symm]; simp [look]⟩ (many.fmod 10).toNat fun k s1 hk ⟨a1, a2, a3, a4, a5, a6⟩ => by
    have hk9 : (k : Int) ≤ 9 := by omega
    have hb : (k : Int) * (1 + inner.fmod 10) ≤ 9 * 10 := Int.mul_le_mul hk9 (by omega) (by omega) (by decide)
    have hb0 : 0 ≤ (k : Int) * (1 + inner.fmod 10) := Int.mul_nonneg (by omega) (by omega)
    have hc : (k : Int) * inner.fmod 10 ≤ 9 * 9 := Int.mul_le_mul hk9 (by omega) (by omega) (by decide)
    have hc0 : 0 ≤ (k : Int) * inner.fmod 10 := Int.mul_nonneg (by omega) (by omega)
    have p1 : look (hput sm ((look s1.held sm + 3).fmod 1000000) s1.held) sn = look s1.held sn := by rw [look_put, if_neg n1.symm]
    obtain ⟨s2, e2, c1, c2, c3, c4, c5, c6, c7⟩ := inner_run ⟨hput sm ((look s1.held sm + 3).fmod 1000000) s1.held, s1.said, s1.rows + 1 + 1, s1.rounds + 1⟩ (by show s1.rounds + 1 + _ ≤ _; rw [a3]; omega) (by show 0 ≤ look (hput _ _ _) _; rw [p1, a4]; exact hc0) (by show look (hput _ _ _) _ + _ < _; rw [p1, a4]; omega)
    refine ⟨s2, ?_, ?_, ?_, ?_, ?_, ?_, ?_⟩
    · rw [round_on (begin_on (by rw [a3]; omega))]
      refine runs_go up_run (runs_go (s1 := s2) ?_ (runs_nil _))
      rw [turn_run (worth_num _ _)]
      exact e2
    · rw [c1]; exact a1
    · rw [c2]; show s1.rows + 1 + 1 + _ = _; rw [a2]; push_cast; rw [Int.add_mul]; omega
    · rw [c3]; show s1.rounds + 1 + _ = _; rw [a3]; push_cast; rw [Int.add_mul]; omega
    · rw [c4]; show look (hput _ _ _) _ + _ = _; rw [p1, a4]; push_cast; rw [Int.add_mul]; omega
    · rw [c6]; show look (hput _ _ _) _ = _; rw [look_put, if_neg n2.symm, a5]
    · rw [c7]; show look (hput _ _ _) _ = _; rw [look_put, if_neg n3.symm, a6]
  have ek : ((many.fmod 10).toNat : Int) = many.fmod 10 := by omega
  rw [ek] at b2 b3 b4
  have hb : many.fmod 10 * (1 + inner.fmod 10) ≤ 9 * 10 := Int.mul_le_mul (by omega) (by omega) (by omega) (by decide)
  have hb0 : 0 ≤ many.fmod 10 * (1 + inner.fmod 10) := Int.mul_nonneg (by omega) (by omega)
  refine ⟨s', ?_, b1, b2, by rw [b3]; omega, by rw [b3]; exact hb0, b4, b5, b6⟩
  refine runs_go (s1 := ⟨hput sm many [], [], 1, 0⟩) (set_run (worth_num _ _)) (runs_go (s1 := s') ?_ (runs_nil _))
  unfold row2
  have : worth (.nam sm) (hput sm many []) = some many := by rw [worth_nam, look_put, if_pos rfl]
  rw [turn_run this]
  exact e
/-- what the third row asks: 1 or 0, or the rest -/
theorem asked_worth (even : Bool) (l : Hd) : ∃ v, worth (asked even) l = some v ∧ (v = 0 ↔ ¬ (decide ((look l sc).fmod 2 = 0) = even)) := by
  have h0 : worth asked0 l = some ((look l sc).fmod 2) := by
    unfold asked0
    rw [worth_op (worth_nam _ _) (worth_num _ _)]
    simp [jn]
  have h2 := fmod_lt (a := look l sc) (m := 2) (by decide)
  cases even with
  | false =>
    refine ⟨(look l sc).fmod 2, h0, ?_⟩
    simp
  | true =>
    refine ⟨if (look l sc).fmod 2 = 0 then 1 else 0, ?_, ?_⟩
    · unfold asked
      rw [if_pos rfl, worth_op h0 (worth_num _ _)]
      rfl
    · split <;> simp_all
/-- one round of the third row -/
theorem step3 {times step : Int} {even : Bool} {s : Rs} {k : Nat} (hc : look s.held sc = k) (hk : k < 10) (hr : s.rounds ≤ 900) (h0 : 0 ≤ s.rounds) : ∃ s', roundOf (runs [up sc 1, .when (asked even) [up st step] [.say (.nam st)]]) s = (s', none) ∧ look s'.held sc = ((k + 1 : Nat) : Int) ∧ look s'.held sn = look s.held sn ∧ s'.rows = s.rows + 3 ∧ s'.rounds ≤ s.rounds + 3 ∧ 0 ≤ s'.rounds ∧
    ((decide (((k + 1 : Nat) : Int).fmod 2 = 0) = even ∧ s'.said = s.said ∧ look s'.held st = (look s.held st + step).fmod 1000000) ∨ (¬ decide (((k + 1 : Nat) : Int).fmod 2 = 0) = even ∧ s'.said = s.said ++ [look s.held st] ∧ look s'.held st = look s.held st)) := by
  obtain ⟨n1, n2, n3, n4, n5, n6⟩ := nm_ne
  have ec : (look s.held sc + 1).fmod 1000000 = ((k + 1 : Nat) : Int) := by rw [hc, fsmall (by omega) (by omega)]; push_cast; rfl
  obtain ⟨v, hv, hz⟩ := asked_worth even (hput sc ((k + 1 : Nat) : Int) s.held)
  rw [look_put, if_pos rfl] at hz
  have up1 : (up sc 1).run { { s with rounds := s.rounds + 1 } with rows := s.rows + 1 } = (⟨hput sc ((k + 1 : Nat) : Int) s.held, s.said, s.rows + 1, s.rounds + 1⟩, none) := by
    rw [up_run]
    show (({ held := hput sc ((look s.held sc + 1).fmod 1000000) s.held, said := s.said, rows := s.rows + 1, rounds := s.rounds + 1 } : Rs), none) = _
    rw [ec]
  have wh : (Rw.when (asked even) [up st step] [.say (.nam st)]).run ⟨hput sc ((k + 1 : Nat) : Int) s.held, s.said, s.rows + 1 + 1, s.rounds + 1⟩ = if v = 0 then runs [.say (.nam st)] ⟨hput sc ((k + 1 : Nat) : Int) s.held, s.said, s.rows + 1 + 1, s.rounds + 1 + 1⟩ else runs [up st step] ⟨hput sc ((k + 1 : Nat) : Int) s.held, s.said, s.rows + 1 + 1, s.rounds + 1 + 1⟩ := when_run hv (by show s.rounds + 1 < 1000; omega)
  have p1 : look (hput sc ((k + 1 : Nat) : Int) s.held) st = look s.held st := by rw [look_put, if_neg n6]
  have p2 : look (hput sc ((k + 1 : Nat) : Int) s.held) sn = look s.held sn := by rw [look_put, if_neg n5]
  have p3 : look (hput sc ((k + 1 : Nat) : Int) s.held) sc = ((k + 1 : Nat) : Int) := by rw [look_put, if_pos rfl]
  by_cases hv0 : v = 0
  · rw [if_pos hv0] at wh
    refine ⟨⟨hput sc ((k + 1 : Nat) : Int) s.held, s.said ++ [look s.held st], s.rows + 1 + 1 + 1, s.rounds + 1 + 1 + 1⟩, ?_, p3, p2, by show s.rows + 1 + 1 + 1 = _; omega, by show s.rounds + 1 + 1 + 1 ≤ _; omega, by show 0 ≤ s.rounds + 1 + 1 + 1; omega, .inr ⟨hz.mp hv0, rfl, p1⟩⟩
    rw [round_on (begin_on (by omega))]
    refine runs_go up1 (runs_go (s1 := ⟨hput sc ((k + 1 : Nat) : Int) s.held, s.said ++ [look s.held st], s.rows + 1 + 1 + 1, s.rounds + 1 + 1 + 1⟩) ?_ (runs_nil _))
    show (Rw.when (asked even) [up st step] [.say (.nam st)]).run ⟨hput sc ((k + 1 : Nat) : Int) s.held, s.said, s.rows + 1 + 1, s.rounds + 1⟩ = _
    rw [wh]
    refine runs_go (s1 := ⟨hput sc ((k + 1 : Nat) : Int) s.held, s.said ++ [look s.held st], s.rows + 1 + 1 + 1, s.rounds + 1 + 1 + 1⟩) ?_ (runs_nil _)
    rw [say_run (worth_nam _ _) (by show s.rounds + 1 + 1 < 1000; omega)]
    show (({ held := _, said := s.said ++ [look (hput sc ((k + 1 : Nat) : Int) s.held) st], rows := _, rounds := _ } : Rs), none) = _
    rw [p1]
  · rw [if_neg hv0] at wh
    have hd : decide (((k + 1 : Nat) : Int).fmod 2 = 0) = even := Decidable.not_not.mp fun e => hv0 (hz.mpr e)
    refine ⟨⟨hput st ((look s.held st + step).fmod 1000000) (hput sc ((k + 1 : Nat) : Int) s.held), s.said, s.rows + 1 + 1 + 1, s.rounds + 1 + 1⟩, ?_, ?_, ?_, by show s.rows + 1 + 1 + 1 = _; omega, by show s.rounds + 1 + 1 ≤ _; omega, by show 0 ≤ s.rounds + 1 + 1; omega, .inl ⟨hd, rfl, ?_⟩⟩
    · rw [round_on (begin_on (by omega))]
      refine runs_go up1 (runs_go (s1 := ⟨hput st ((look s.held st + step).fmod 1000000) (hput sc ((k + 1 : Nat) : Int) s.held), s.said, s.rows + 1 + 1 + 1, s.rounds + 1 + 1⟩) ?_ (runs_nil _))
      show (Rw.when (asked even) [up st step] [.say (.nam st)]).run ⟨hput sc ((k + 1 : Nat) : Int) s.held, s.said, s.rows + 1 + 1, s.rounds + 1⟩ = _
      rw [wh]
      refine runs_go (s1 := ⟨hput st ((look s.held st + step).fmod 1000000) (hput sc ((k + 1 : Nat) : Int) s.held), s.said, s.rows + 1 + 1 + 1, s.rounds + 1 + 1⟩) ?_ (runs_nil _)
      rw [up_run]
      show (({ held := hput st ((look (hput sc ((k + 1 : Nat) : Int) s.held) st + step).fmod 1000000) _, said := _, rows := _, rounds := _ } : Rs), none) = _
      rw [p1]
    · show look (hput _ _ _) _ = _
      rw [look_put, if_neg n6.symm, p3]
    · show look (hput _ _ _) _ = _
      rw [look_put, if_neg n4, p2]
    · show look (hput _ _ _) _ = _
      rw [look_put, if_pos rfl]
section
variable {μ : Mu} {Q : Val → Mu → Prop} {X : XQ} {n : Nat}
def f3 (step : Int) (even : Bool) : Rs → Ro := roundOf (runs [up sc 1, .when (asked even) [up st step] [.say (.nam st)]])
inductive DI (many inner times step : Int) (even : Bool) (s2 : Rs) (t : Ad) (μ : Mu) (k : Nat) : Env → Mu → Prop
  | mk (s' : Rs) (o : Option Val) {env' : Env} {μ' : Mu} (e : env' = [some (.int many), some (.int inner), some (.int times), some (.int step), some (.bl even), some (.ref t), some (.int (many.fmod 10 * inner.fmod 10)), some (.int (look s'.held st)), some (.int k), some (.int s'.rows), o])
    (l : loopN (f3 step even) k s2 = (s', none)) (c : look s'.held sc = k) (nn : look s'.held sn = many.fmod 10 * inner.fmod 10) (rr : s'.rounds ≤ 91 + 3 * k) (r0 : 0 ≤ s'.rounds) (sl : s'.said.length ≤ k) (m : μ' = μ.set t (.lst (s'.said.map .int))) : DI many inner times step even s2 t μ k env' μ'
/-- the whole run -/
theorem whole (many inner times step : Int) (even : Bool) : ∃ s2, look s2.held st = 0 ∧ look s2.held sc = 0 ∧ look s2.held sn = many.fmod 10 * inner.fmod 10 ∧ s2.said = [] ∧ s2.rounds ≤ 90 ∧ 0 ≤ s2.rounds ∧ s2.rows = 3 + many.fmod 10 * (2 + inner.fmod 10) ∧ runs (rows many inner times step even) ⟨[], [], 0, 0⟩ = loopN (f3 step even) (times.fmod 10).toNat s2 := by
  obtain ⟨s', e, a1, a2, a3, a4, a5, a6, a7⟩ := front many inner
  refine ⟨{ s' with rows := s'.rows + 1 }, a6, a7, a5, a1, a3, a4, by show s'.rows + 1 = _; rw [a2]; omega, ?_⟩
  show runs ([.set sm (.num many), row2 inner] ++ [row3 times step even]) _ = _
  rw [runs_append, e]
  show runs [row3 times step even] s' = _
  rw [runs_one]
  unfold row3
  rw [turn_run (worth_num _ _)]
  rfl
theorem give_worth (l : Hd) : worth give l = some ((look l st + look l sn).fmod 1000000) := worth_op (worth_nam _ _) (worth_nam _ _)
theorem due_ok {many inner times step : Int} {even : Bool} (hn : 1 ≤ n) {res : Val} (hr : resOf give (runs (rows many inner times step even) ⟨[], [], 0, 0⟩) = some res) (q : Q res μ) : phi PR n "_law_due" .val [.int many, .int inner, .int times, .int step, .bl even] μ Q X := by
  obtain ⟨n, rfl⟩ : ∃ k, n = k + 1 := ⟨n - 1, by omega⟩
  refine call_ok pr__law_due rfl ?_
  have hΦ := phi_mono PR n
  have hM := fmod10 many
  have hI := fmod10 inner
  have hT := fmod10 times
  obtain ⟨s2, b1, b2, b3, b4, b5, b6, b7, b8⟩ := whole many inner times step even
  rw [b8] at hr
  unfold D._law_due_v5
  rw [w_seq]
  simp [e_v, e_c, e_tup, e_lst, e_dct, s_nil, s_cons, e_ix, e_sl, e_bin, e_cmp, e_eq, e_ne, e_in, e_nin, e_isN, e_notN, e_chain, e_neg, e_not, e_and, e_or, e_ite, e_call, e_bi, e_me, e_isT, e_new, e_attr, e_mth, e_mk, w_setattr, w_skip, w_ex, w_asg, w_asgT, w_setix, w_ite, w_ret, w_raise]
  intro t ht
  rw [w_seq]
  simp [e_v, e_c, e_tup, e_lst, e_dct, s_nil, s_cons, e_ix, e_sl, e_bin, e_cmp, e_eq, e_ne, e_in, e_nin, e_isN, e_notN, e_chain, e_neg, e_not, e_and, e_or, e_ite, e_call, e_bi, e_me, e_isT, e_new, e_attr, e_mth, e_mk, w_setattr, w_skip, w_ex, w_asg, w_asgT, w_setix, w_ite, w_ret, w_raise]
  refine ⟨cmul_l (by omega) (by omega), ?_⟩
  rw [w_seq]
  simp [e_v, e_c, e_tup, e_lst, e_dct, s_nil, s_cons, e_ix, e_sl, e_bin, e_cmp, e_eq, e_ne, e_in, e_nin, e_isN, e_notN, e_chain, e_neg, e_not, e_and, e_or, e_ite, e_call, e_bi, e_me, e_isT, e_new, e_attr, e_mth, e_mk, w_setattr, w_skip, w_ex, w_asg, w_asgT, w_setix, w_ite, w_ret, w_raise]
  refine ⟨cmul_l (by omega) (by omega), ?_⟩
  rw [w_seq]
  refine for_rule hΦ (i_range.mpr ?_)
  simp [e_v, e_c, e_tup, e_lst, e_dct, s_nil, s_cons, e_ix, e_sl, e_bin, e_cmp, e_eq, e_ne, e_in, e_nin, e_isN, e_notN, e_chain, e_neg, e_not, e_and, e_or, e_ite, e_call, e_bi, e_me, e_isT, e_new, e_attr, e_mth, e_mk, w_setattr, w_skip, w_ex, w_asg, w_asgT, w_setix, w_ite, w_ret, w_raise]
  refine ⟨by omega, by omega, fun done env' μ' => DI many inner times step even s2 t μ done.length env' μ', ⟨s2, none, by rw [b1, b7]; rfl, rfl, b2, b3, by simp; omega, b6, by rw [b4]; simp, by rw [b4]; rfl⟩, ?_, ?_⟩
  · rintro done v rest env' μ2 e ⟨s', o, rfl, l, c, nn, rr, r0, sl, rfl⟩
    have hlen : done.length < 10 := by
      have := congrArg List.length e
      simp [intsFrom] at this
      omega
    refine ⟨trivial, ?_⟩
    obtain ⟨s3, e3, g1, g2, g3, g4, g5, g6⟩ := step3 (times := times) (step := step) (even := even) c hlen (by omega) r0
    have l3 : loopN (f3 step even) (done.length + 1) s2 = (s3, none) := loop_more l e3
    rw [w_seq]
    simp [e_v, e_c, e_tup, e_lst, e_dct, s_nil, s_cons, e_ix, e_sl, e_bin, e_cmp, e_eq, e_ne, e_in, e_nin, e_isN, e_notN, e_chain, e_neg, e_not, e_and, e_or, e_ite, e_call, e_bi, e_me, e_isT, e_new, e_attr, e_mth, e_mk, w_setattr, w_skip, w_ex, w_asg, w_asgT, w_setix, w_ite, w_ret, w_raise]
    rw [w_seq]
    simp [e_v, e_c, e_tup, e_lst, e_dct, s_nil, s_cons, e_ix, e_sl, e_bin, e_cmp, e_eq, e_ne, e_in, e_nin, e_isN, e_notN, e_chain, e_neg, e_not, e_and, e_or, e_ite, e_call, e_bi, e_me, e_isT, e_new, e_attr, e_mth, e_mk, w_setattr, w_skip, w_ex, w_asg, w_asgT, w_setix, w_ite, w_ret, w_raise]
    have ec : ((done.length : Int) + 1) = ((done.length + 1 : Nat) : Int) := by push_cast; rfl
    rw [ec]
    have eb : (((done.length + 1 : Nat) : Int).fmod 2 == 0) = decide (((done.length + 1 : Nat) : Int).fmod 2 = 0) := by rw [Bool.eq_iff_iff]; simp
    rw [eb]
    rcases g6 with ⟨h1, h2, h3⟩ | ⟨h1, h2, h3⟩
    · refine ⟨fun _ => ⟨s3, some v, by rw [h3, g3], l3, g1, by rw [g2]; exact nn, by push_cast; omega, g5, by rw [h2]; omega, by rw [h2]⟩, fun z => absurd h1 z⟩
    · refine ⟨fun z => absurd z h1, fun _ => ⟨ok_append mset_same, ?_⟩⟩
      rw [me_append mset_same]
      simp
      refine ⟨by rw [big_eq]; omega, ⟨s3, some v, by rw [h3, g3]; push_cast; rfl, l3, g1, by rw [g2]; exact nn, by push_cast; omega, g5, by rw [h2, List.length_append]; simpa using sl, by rw [h2]; simp⟩⟩
  · rintro env' μ2 ⟨s', o, rfl, l, c, nn, rr, r0, sl, rfl⟩
    have ek : (intsFrom 0 (times.fmod 10).toNat).length = (times.fmod 10).toNat := by simp [intsFrom]
    rw [ek] at l
    rw [l] at hr
    simp only [resOf, give_worth] at hr
    have hr' := Option.some.inj hr
    refine ⟨trivial, ?_⟩
    simp [e_v, e_c, e_tup, e_lst, e_dct, s_nil, s_cons, e_ix, e_sl, e_bin, e_cmp, e_eq, e_ne, e_in, e_nin, e_isN, e_notN, e_chain, e_neg, e_not, e_and, e_or, e_ite, e_call, e_bi, e_me, e_isT, e_new, e_attr, e_mth, e_mk, w_setattr, w_skip, w_ex, w_asg, w_asgT, w_setix, w_ite, w_ret, w_raise]
    show Q (reso μ (μ.set t _) 4 _) ((μ.set t _).cut μ)
    rw [cut_new ht, cut_self]
    have g : (resoF μ (μ.set t (.lst (s'.said.map .int))) 4 t).getD (.ref t) = .lst (s'.said.map .int) := by
      simp only [resoF, ht, mset_same, Option.isSome_none, Bool.false_eq_true, if_false, Option.map_some, Option.getD_some]
      exact mapRef_nr _ (by simp [nr, nrL_ints])
    unfold reso
    simp only [mapRef, mapRefL, g]
    rw [← nn, hr']
    exact q
end
theorem bkP2 : BkP2 PR := ⟨⟨pr_rows_within, pr_read_through⟩, by first | exact .inl pr_rows_of | exact .inr pr_rows_of, pr_deed_of, pr_look_at_names, pr_look_at_call, pr_made_book⟩
def nms : List Str := [sm, sn, st, sc]
theorem asked_small (even : Bool) : (asked even).small ∧ (asked even).deep ≤ 3 ∧ ∀ x ∈ (asked even).names, x ∈ nms := by
  cases even <;> simp [asked, asked0, Ex.small, Ex.deep, Ex.names, nms]
theorem up_ok {x : Str} {i : Int} (hx : x ∈ nms) (h0 : 0 ≤ i) (h1 : i < 1000000) : x ∈ nms ∧ ExOk nms (.op .plus (.nam x) (.num i)) :=
  ⟨hx, ⟨⟨trivial, h0, h1⟩, by simp [Ex.deep], fun s hs => by simp [Ex.names] at hs; rw [hs]; exact hx⟩⟩
theorem num_ok {i : Int} (h0 : 0 ≤ i) (h1 : i < 1000000) : ExOk nms (.num i) := ⟨⟨h0, h1⟩, by simp [Ex.deep], fun s hs => by simp [Ex.names] at hs⟩
theorem nam_ok {x : Str} (hx : x ∈ nms) : ExOk nms (.nam x) := ⟨trivial, by simp [Ex.deep], fun s hs => by simp [Ex.names] at hs; rw [hs]; exact hx⟩
theorem flats_rows (many inner times step : Int) (even : Bool) : flats (rows many inner times step even) = [.set sm (.num many), row2 inner, up sm 3, .turn (.num inner) [up sn 1], up sn 1, row3 times step even, up sc 1, .when (asked even) [up st step] [.say (.nam st)], up st step, .say (.nam st)] := by
  simp [rows, row2, row3, up, flats, Rw.flat]
theorem rows_all {many inner times step : Int} {even : Bool} (h1 : 0 ≤ many ∧ many < 1000000) (h2 : 0 ≤ inner ∧ inner < 1000000) (h3 : 0 ≤ times ∧ times < 1000000) (h4 : 0 ≤ step ∧ step < 1000000) (hs : List (Str × List Str)) : ∀ r ∈ flats (rows many inner times step even), r.ok nms hs := by
  have hm : sm ∈ nms := by simp [nms]
  have hn : sn ∈ nms := by simp [nms]
  have ht : st ∈ nms := by simp [nms]
  have hc : sc ∈ nms := by simp [nms]
  rw [flats_rows]
  intro r hr
  simp only [List.mem_cons, List.not_mem_nil, or_false] at hr
  obtain ⟨a1, a2, a3⟩ := asked_small even
  rcases hr with rfl | rfl | rfl | rfl | rfl | rfl | rfl | rfl | rfl | rfl
  · exact ⟨hm, num_ok h1.1 h1.2⟩
  · exact nam_ok hm
  · exact up_ok hm (by decide) (by decide)
  · exact num_ok h2.1 h2.2
  · exact up_ok hn (by decide) (by decide)
  · exact num_ok h3.1 h3.2
  · exact up_ok hc (by decide) (by decide)
  · exact ⟨a1, a2, a3⟩
  · exact up_ok ht h4.1 h4.2
  · exact nam_ok ht
theorem st_of {q : Rw} (hs : List (Str × List Str)) (h : q.ok nms hs) (hc : ∀ n w as m, q ≠ .call n w as m) : q.st nms := by
  cases q with
  | set n e => exact ⟨h.1, h.2.small.ok, by have := h.2.deep; omega⟩
  | say e => exact ⟨Ex.small.ok (ExOk.small h), by have := ExOk.deep h; omega⟩
  | call n w as m => exact absurd rfl (hc n w as m)
  | when e a b => exact ⟨Ex.small.ok (ExOk.small h), by have := ExOk.deep h; omega⟩
  | turn e b => exact ⟨Ex.small.ok (ExOk.small h), by have := ExOk.deep h; omega⟩
theorem no_call {many inner times step : Int} {even : Bool} : ∀ r ∈ flats (rows many inner times step even), r.mark = none ∧ ∀ n w as m, r ≠ .call n w as m := by
  rw [flats_rows]
  intro r hr
  simp only [List.mem_cons, List.not_mem_nil, or_false] at hr
  rcases hr with rfl | rfl | rfl | rfl | rfl | rfl | rfl | rfl | rfl | rfl <;> exact ⟨rfl, fun _ _ _ _ z => by cases z⟩
theorem no_mks {many inner times step : Int} {even : Bool} : bmks [⟨Str.ofString "only", [], rows many inner times step even, give⟩] = [] := by
  have : mks (rows many inner times step even) = [] := by
    unfold mks
    rw [List.filterMap_eq_nil_iff]
    exact fun r hr => (no_call r hr).1
  simp [bmks, this]
theorem nms_ok : ∀ s ∈ nms, nmOk s := by
  intro s hs
  simp only [nms, List.mem_cons, List.not_mem_nil, or_false] at hs
  rcases hs with rfl | rfl | rfl | rfl <;> (refine ⟨by rw [os_len]; decide, ?_⟩; (first | unfold sm | unfold sn | unfold st | unfold sc); rw [PySem.Str.ofString_eq_toList]; decide)
theorem law_pure (ns : List Int) (hn : ns.length ≤ 63) : phi PR (depth + 1) "law" .val [.lst (ns.map Val.int)] (fun _ => none) (fun v _ => v = .bl true) (fun _ _ => False) := by
  refine call_ok pr_law rfl ?_
  have hΦ := phi_mono PR depth
  unfold D.law_k18
  rw [w_seq]
  refine for_rule hΦ (i_enum ?_ hΦ)
  simp [e_v, e_c, e_tup, e_lst, e_dct, s_nil, s_cons, e_ix, e_sl, e_bin, e_cmp, e_eq, e_ne, e_in, e_nin, e_isN, e_notN, e_chain, e_neg, e_not, e_and, e_or, e_ite, e_call, e_bi, e_me, e_isT, e_new, e_attr, e_mth, e_mk, w_setattr, w_skip, w_ex, w_asg, w_asgT, w_setix, w_ite, w_ret, w_raise, guard, big_eq]
  refine ⟨by omega, fun _ env' _ => ∃ (a b c d e f g h i j k l m n o p q r : Option Val), env' = [some (.lst (ns.map Val.int)), a, b, c, d, e, f, g, h, i, j, k, l, m, n, o, p, q, r], ⟨_, _, _, _, _, _, _, _, _, _, _, _, _, _, _, _, _, _, rfl⟩, ?_, ?_⟩
  · rintro done v rest env' μ e ⟨_, _, _, _, _, _, _, _, _, _, _, _, _, _, _, _, _, _, rfl⟩
    refine ⟨trivial, ?_⟩
    obtain ⟨k, c, rfl, hc, hk0, hk1⟩ := enum_mem (x := v) (l := .int 0 :: ns.map Val.int) (i := 0) (by rw [e]; simp)
    simp at hk1
    obtain ⟨cell, rfl⟩ : ∃ cell : Int, c = .int cell := by
      rcases List.mem_cons.mp hc with z | z
      · exact ⟨0, z⟩
      · obtain ⟨x, _, rfl⟩ := List.mem_map.mp z; exact ⟨x, rfl⟩
    simp
    rw [w_seq]
    simp [e_v, e_c, e_tup, e_lst, e_dct, s_nil, s_cons, e_ix, e_sl, e_bin, e_cmp, e_eq, e_ne, e_in, e_nin, e_isN, e_notN, e_chain, e_neg, e_not, e_and, e_or, e_ite, e_call, e_bi, e_me, e_isT, e_new, e_attr, e_mth, e_mk, w_setattr, w_skip, w_ex, w_asg, w_asgT, w_setix, w_ite, w_ret, w_raise]
    refine pot_ok pr__law_pot hk0 (by omega) (by decide) fun p μ1 hp k1 => ?_
    rw [w_seq, w_asgT]
    refine values_comp (m := 4) pr__law_value pr__law_take k1.pot (by decide) (fun K X' h => h) rfl (by decide) (by decide) fun l μ2 hl hv k2 => ?_
    obtain ⟨many, inner, times, step, rfl⟩ : ∃ a b c d, l = [a, b, c, d] := by
      match l, hl with
      | [a, b, c, d], _ => exact ⟨a, b, c, d, rfl⟩
    have h1 := hv many (by simp)
    have h2 := hv inner (by simp)
    have h3 := hv times (by simp)
    have h4 := hv step (by simp)
    simp
    rw [w_seq]
    simp [e_v, e_c, e_tup, e_lst, e_dct, s_nil, s_cons, e_ix, e_sl, e_bin, e_cmp, e_eq, e_ne, e_in, e_nin, e_isN, e_notN, e_chain, e_neg, e_not, e_and, e_or, e_ite, e_call, e_bi, e_me, e_isT, e_new, e_attr, e_mth, e_mk, w_setattr, w_skip, w_ex, w_asg, w_asgT, w_setix, w_ite, w_ret, w_raise]
    refine take_ok pr__law_take k2.pot (by decide) (by decide) (by decide) fun y μ3 y0 y1 k3 => ?_
    simp
    generalize hev : (y == 0) = even
    rw [w_seq]
    simp [e_v, e_c, e_tup, e_lst, e_dct, s_nil, s_cons, e_ix, e_sl, e_bin, e_cmp, e_eq, e_ne, e_in, e_nin, e_isN, e_notN, e_chain, e_neg, e_not, e_and, e_or, e_ite, e_call, e_bi, e_me, e_isT, e_new, e_attr, e_mth, e_mk, w_setattr, w_skip, w_ex, w_asg, w_asgT, w_setix, w_ite, w_ret, w_raise]
    refine w_seq_inv hΦ (fun env2 m2 => m2 = μ3 ∧ ∃ a10 a11 a12 a13 a14 a15 a16 a17 a18, env2 = [some (.lst (ns.map Val.int)), some (.int k), some (.int cell), some (.ref p), some (.int many), some (.int inner), some (.int times), some (.int step), some (.bl even), some (asked even).v, a10, a11, a12, a13, a14, a15, a16, a17, a18]) ?_ ?_
    · simp [e_v, e_c, e_tup, e_lst, e_dct, s_nil, s_cons, e_ix, e_sl, e_bin, e_cmp, e_eq, e_ne, e_in, e_nin, e_isN, e_notN, e_chain, e_neg, e_not, e_and, e_or, e_ite, e_call, e_bi, e_me, e_isT, e_new, e_attr, e_mth, e_mk, w_setattr, w_skip, w_ex, w_asg, w_asgT, w_setix, w_ite, w_ret, w_raise]
      cases even with
      | false => simp [asked, asked0, Ex.v, Wd.s]
      | true => simp [asked, asked0, Ex.v, Wd.s]
    · rintro env2 _ ⟨rfl, a10, a11, a12, a13, a14, a15, a16, a17, a18, rfl⟩
      rw [w_seq]
      simp [e_v, e_c, e_tup, e_lst, e_dct, s_nil, s_cons, e_ix, e_sl, e_bin, e_cmp, e_eq, e_ne, e_in, e_nin, e_isN, e_notN, e_chain, e_neg, e_not, e_and, e_or, e_ite, e_call, e_bi, e_me, e_isT, e_new, e_attr, e_mth, e_mk, w_setattr, w_skip, w_ex, w_asg, w_asgT, w_setix, w_ite, w_ret, w_raise]
      rw [w_seq]
      simp [e_v, e_c, e_tup, e_lst, e_dct, s_nil, s_cons, e_ix, e_sl, e_bin, e_cmp, e_eq, e_ne, e_in, e_nin, e_isN, e_notN, e_chain, e_neg, e_not, e_and, e_or, e_ite, e_call, e_bi, e_me, e_isT, e_new, e_attr, e_mth, e_mk, w_setattr, w_skip, w_ex, w_asg, w_asgT, w_setix, w_ite, w_ret, w_raise]
      rw [w_seq]
      simp [e_v, e_c, e_tup, e_lst, e_dct, s_nil, s_cons, e_ix, e_sl, e_bin, e_cmp, e_eq, e_ne, e_in, e_nin, e_isN, e_notN, e_chain, e_neg, e_not, e_and, e_or, e_ite, e_call, e_bi, e_me, e_isT, e_new, e_attr, e_mth, e_mk, w_setattr, w_skip, w_ex, w_asg, w_asgT, w_setix, w_ite, w_ret, w_raise]
      rw [w_seq]
      simp [e_v, e_c, e_tup, e_lst, e_dct, s_nil, s_cons, e_ix, e_sl, e_bin, e_cmp, e_eq, e_ne, e_in, e_nin, e_isN, e_notN, e_chain, e_neg, e_not, e_and, e_or, e_ite, e_call, e_bi, e_me, e_isT, e_new, e_attr, e_mth, e_mk, w_setattr, w_skip, w_ex, w_asg, w_asgT, w_setix, w_ite, w_ret, w_raise]
      rw [w_seq]
      simp [e_v, e_c, e_tup, e_lst, e_dct, s_nil, s_cons, e_ix, e_sl, e_bin, e_cmp, e_eq, e_ne, e_in, e_nin, e_isN, e_notN, e_chain, e_neg, e_not, e_and, e_or, e_ite, e_call, e_bi, e_me, e_isT, e_new, e_attr, e_mth, e_mk, w_setattr, w_skip, w_ex, w_asg, w_asgT, w_setix, w_ite, w_ret, w_raise]
      rw [w_seq]
      simp [e_v, e_c, e_tup, e_lst, e_dct, s_nil, s_cons, e_ix, e_sl, e_bin, e_cmp, e_eq, e_ne, e_in, e_nin, e_isN, e_notN, e_chain, e_neg, e_not, e_and, e_or, e_ite, e_call, e_bi, e_me, e_isT, e_new, e_attr, e_mth, e_mk, w_setattr, w_skip, w_ex, w_asg, w_asgT, w_setix, w_ite, w_ret, w_raise]
      rw [w_seq]
      simp [e_v, e_c, e_tup, e_lst, e_dct, s_nil, s_cons, e_ix, e_sl, e_bin, e_cmp, e_eq, e_ne, e_in, e_nin, e_isN, e_notN, e_chain, e_neg, e_not, e_and, e_or, e_ite, e_call, e_bi, e_me, e_isT, e_new, e_attr, e_mth, e_mk, w_setattr, w_skip, w_ex, w_asg, w_asgT, w_setix, w_ite, w_ret, w_raise]
      have hall := rows_all (even := even) h1 h2 h3 h4
      have hfl := flats_rows many inner times step even
      have hb : BkOk nms [⟨Str.ofString "only", [], rows many inner times step even, give⟩] := {
        ne := by simp
        len := by simp
        nm := by simp
        dd := fun d hd => by
          obtain rfl := List.mem_singleton.mp hd
          refine ⟨hall _, ?_, ?_, ⟨⟨trivial, trivial⟩, by simp [give, Ex.deep], fun s hs => by simp [give, Ex.names] at hs; rcases hs with rfl | rfl <;> simp [nms]⟩, List.nodup_nil, by simp, fun s hs => by cases hs⟩
          · simp [rows, row2, row3, up, dps, Rw.dp]
          · show (flats (rows many inner times step even)).length ≤ 20
            rw [hfl]; simp
        mn := by rw [no_mks]; exact List.nodup_nil
        mkl := by rw [no_mks]; simp
        wl := fun d hd => by obtain rfl := List.mem_singleton.mp hd; show (Str.ofString "only").length ≤ 12; rw [os_len]; decide
        nn := by simp [nms]
        nl := by simp [nms]
        nok := nms_ok }
      have hcon : ∀ μ : Mu, content μ (.lst [.tup [.str (Str.ofString "only"), .tup [], .tup (Rw.vs (rows many inner times step even)), give.v]]) = some (.lst (([⟨Str.ofString "only", [], rows many inner times step even, give⟩] : List Dd).map Dd.v)) := fun _ => rfl
      refine made_book_ok bkP2 hb (by exact hcon _) (by decide) ?_
      simp [Dd.v]
      rw [w_seq]
      simp [e_v, e_c, e_tup, e_lst, e_dct, s_nil, s_cons, e_ix, e_sl, e_bin, e_cmp, e_eq, e_ne, e_in, e_nin, e_isN, e_notN, e_chain, e_neg, e_not, e_and, e_or, e_ite, e_call, e_bi, e_me, e_isT, e_new, e_attr, e_mth, e_mk, w_setattr, w_skip, w_ex, w_asg, w_asgT, w_setix, w_ite, w_ret, w_raise]
      have hst : ∀ q ∈ flats (rows many inner times step even), q.st nms := fun q hq => st_of [] (hall [] q hq) (no_call q hq).2
      obtain ⟨s2, b1, b2, b3, b4, b5, b6, b7, b8⟩ := whole many inner times step even
      obtain ⟨s3, e3, hl3⟩ : ∃ s3, runs (rows many inner times step even) ⟨[], [], 0, 0⟩ = (s3, none) ∧ s3.said.length ≤ 1000 := by
        have hT := fmod10 times
        obtain ⟨s', e, i1, i2, i3, i4⟩ := loop_inv (f := f3 step even) (fun i s' => look s'.held sc = i ∧ s'.rounds ≤ 91 + 3 * i ∧ 0 ≤ s'.rounds ∧ s'.said.length ≤ i) (s := s2) ⟨b2, by simp; omega, b6, by rw [b4]; simp⟩ (times.fmod 10).toNat fun i s1 hi ⟨j1, j2, j3, j4⟩ => by
          obtain ⟨s4, e4, g1, g2, g3, g4, g5, g6⟩ := step3 (times := times) (step := step) (even := even) j1 (by omega) (by omega) j3
          refine ⟨s4, e4, g1, by push_cast; omega, g5, ?_⟩
          rcases g6 with ⟨_, z, _⟩ | ⟨_, z, _⟩
          · rw [z]; omega
          · rw [z, List.length_append]; simpa using j4
        exact ⟨s', by rw [b8]; exact e, by omega⟩
      have hres : resOf give (runs (rows many inner times step even) ⟨bind0 [] [], [], 0, 0⟩) = some (.tup [.str (Str.ofString "done"), .lst (s3.said.map .int), .int ((look s3.held st + look s3.held sn).fmod 1000000), .int s3.rows, .dct []]) := by
        show resOf give (runs (rows many inner times step even) ⟨[], [], 0, 0⟩) = _
        rw [e3]
        simp only [resOf, give_worth]
      have hk : resKind (.tup [.str (Str.ofString "done"), .lst (s3.said.map .int), .int ((look s3.held st + look s3.held sn).fmod 1000000), .int s3.rows, .dct []]) := .inr ⟨_, _, _, hl3, rfl⟩
      refine run_ok runP (names := nms) (ps := []) (vs := []) (give := give) (rows := rows many inner times step even) (d := 3) (by simp [nms]) hst (by simp [rows, row2, row3, up, dps, Rw.dp]) ⟨⟨trivial, trivial⟩, by simp [give, Ex.deep]⟩ (fun p hp => by cases hp) (fun p hp => by cases hp) rfl (by simp) (by decide) hres ?_
      refine kind_ok pr__law_kind_right hk (by decide) ?_
      simp
      refine due_ok (by decide) hres ?_
      simp [res_eq hk]
  · rintro env' μ ⟨_, _, _, _, _, _, _, _, _, _, _, _, _, _, _, _, _, _, rfl⟩
    exact ⟨trivial, rfl⟩
end Mi.k18
namespace Mi.k18
open PySem PySem.Spec PyProof.Rows L2 Mi
theorem all_mk {P : Program} {w : World} {K : Fr} {h : Heap} {mg : Str → Option Value} {fa : Addr} (X : K.In h) (G : h.Ns mainGlobals mg) (hfa : mg "law" = some (.ref fa))
    {C_Running : Addr} {f_joined_worth : Addr} {od_joined_worth an_joined_worth : Option Addr} {sl_joined_worth : Array (Option Value)} {oc_joined_worth kV_joined_worth dc_joined_worth pm_joined_worth cd_joined_worth ct_joined_worth : Value} {f_worth_of : Addr} {od_worth_of an_worth_of : Option Addr} {sl_worth_of : Array (Option Value)} {oc_worth_of kV_worth_of dc_worth_of pm_worth_of cd_worth_of ct_worth_of : Value} {f_rows_within : Addr} {od_rows_within an_rows_within : Option Addr} {sl_rows_within : Array (Option Value)} {oc_rows_within kV_rows_within dc_rows_within pm_rows_within cd_rows_within ct_rows_within : Value} {f_read_through : Addr} {od_read_through an_read_through : Option Addr} {sl_read_through : Array (Option Value)} {oc_read_through kV_read_through dc_read_through pm_read_through cd_read_through ct_read_through : Value} {f_rows_of : Addr} {od_rows_of an_rows_of : Option Addr} {sl_rows_of : Array (Option Value)} {oc_rows_of kV_rows_of dc_rows_of pm_rows_of cd_rows_of ct_rows_of : Value} {f_deed_of : Addr} {od_deed_of an_deed_of : Option Addr} {sl_deed_of : Array (Option Value)} {oc_deed_of kV_deed_of dc_deed_of pm_deed_of cd_deed_of ct_deed_of : Value} {f_look_at_names : Addr} {od_look_at_names an_look_at_names : Option Addr} {sl_look_at_names : Array (Option Value)} {oc_look_at_names kV_look_at_names dc_look_at_names pm_look_at_names cd_look_at_names ct_look_at_names : Value} {f_look_at_call : Addr} {od_look_at_call an_look_at_call : Option Addr} {sl_look_at_call : Array (Option Value)} {oc_look_at_call kV_look_at_call dc_look_at_call pm_look_at_call cd_look_at_call ct_look_at_call : Value} {f_made_book : Addr} {od_made_book an_made_book : Option Addr} {sl_made_book : Array (Option Value)} {oc_made_book kV_made_book dc_made_book pm_made_book cd_made_book ct_made_book : Value} {f_Running___init__ : Addr} {od_Running___init__ an_Running___init__ : Option Addr} {sl_Running___init__ : Array (Option Value)} {oc_Running___init__ kV_Running___init__ dc_Running___init__ pm_Running___init__ cd_Running___init__ ct_Running___init__ : Value} {f_Running_begin_round : Addr} {od_Running_begin_round an_Running_begin_round : Option Addr} {sl_Running_begin_round : Array (Option Value)} {oc_Running_begin_round kV_Running_begin_round dc_Running_begin_round pm_Running_begin_round cd_Running_begin_round ct_Running_begin_round : Value} {f_Running_make_call : Addr} {od_Running_make_call an_Running_make_call : Option Addr} {sl_Running_make_call : Array (Option Value)} {oc_Running_make_call kV_Running_make_call dc_Running_make_call pm_Running_make_call cd_Running_make_call ct_Running_make_call : Value} {f_Running_done_deed : Addr} {od_Running_done_deed an_Running_done_deed : Option Addr} {sl_Running_done_deed : Array (Option Value)} {oc_Running_done_deed kV_Running_done_deed dc_Running_done_deed pm_Running_done_deed cd_Running_done_deed ct_Running_done_deed : Value} {f_Running_do_rows : Addr} {od_Running_do_rows an_Running_do_rows : Option Addr} {sl_Running_do_rows : Array (Option Value)} {oc_Running_do_rows kV_Running_do_rows dc_Running_do_rows pm_Running_do_rows cd_Running_do_rows ct_Running_do_rows : Value} {f_Running_do_call : Addr} {od_Running_do_call an_Running_do_call : Option Addr} {sl_Running_do_call : Array (Option Value)} {oc_Running_do_call kV_Running_do_call dc_Running_do_call pm_Running_do_call cd_Running_do_call ct_Running_do_call : Value} {f_Running_do_when : Addr} {od_Running_do_when an_Running_do_when : Option Addr} {sl_Running_do_when : Array (Option Value)} {oc_Running_do_when kV_Running_do_when dc_Running_do_when pm_Running_do_when cd_Running_do_when ct_Running_do_when : Value} {f_Running_do_turn : Addr} {od_Running_do_turn an_Running_do_turn : Option Addr} {sl_Running_do_turn : Array (Option Value)} {oc_Running_do_turn kV_Running_do_turn dc_Running_do_turn pm_Running_do_turn cd_Running_do_turn ct_Running_do_turn : Value} {f_rising_counts : Addr} {od_rising_counts an_rising_counts : Option Addr} {sl_rising_counts : Array (Option Value)} {oc_rising_counts kV_rising_counts dc_rising_counts pm_rising_counts cd_rising_counts ct_rising_counts : Value} {f_ran_ways : Addr} {od_ran_ways an_ran_ways : Option Addr} {sl_ran_ways : Array (Option Value)} {oc_ran_ways kV_ran_ways dc_ran_ways pm_ran_ways cd_ran_ways ct_ran_ways : Value} {f_run_book : Addr} {od_run_book an_run_book : Option Addr} {sl_run_book : Array (Option Value)} {oc_run_book kV_run_book dc_run_book pm_run_book cd_run_book ct_run_book : Value} {f__law_pot : Addr} {od__law_pot an__law_pot : Option Addr} {sl__law_pot : Array (Option Value)} {oc__law_pot kV__law_pot dc__law_pot pm__law_pot cd__law_pot ct__law_pot : Value} {f__law_take : Addr} {od__law_take an__law_take : Option Addr} {sl__law_take : Array (Option Value)} {oc__law_take kV__law_take dc__law_take pm__law_take cd__law_take ct__law_take : Value} {f__law_value : Addr} {od__law_value an__law_value : Option Addr} {sl__law_value : Array (Option Value)} {oc__law_value kV__law_value dc__law_value pm__law_value cd__law_value ct__law_value : Value} {f__law_kind_right : Addr} {od__law_kind_right an__law_kind_right : Option Addr} {sl__law_kind_right : Array (Option Value)} {oc__law_kind_right kV__law_kind_right dc__law_kind_right pm__law_kind_right cd__law_kind_right ct__law_kind_right : Value} {f__law_due : Addr} {od__law_due an__law_due : Option Addr} {sl__law_due : Array (Option Value)} {oc__law_due kV__law_due dc__law_due pm__law_due cd__law_due ct__law_due : Value} {f_law : Addr} {od_law an_law : Option Addr} {sl_law : Array (Option Value)} {oc_law kV_law dc_law pm_law cd_law ct_law : Value} {t_MOST_CALLS : Tok} {t_MOST_DEEP : Tok} {t_MOST_ROUNDS : Tok} {t_VALUES : Tok} {C_FoldError : Addr} {C_Twice : Addr} {C_NoDeed : Addr} {C_WrongCount : Addr} {C_TooDeep : Addr} {C_TooLong : Addr} {C_Broken : Addr}
    (ga_Running : PySem.W.nsIn K mainGlobals "Running" = some (some (.ref C_Running)))
    (pg_Running : PySem.W.plainGet K C_Running Str.empty = true)
    (hd_Running : PySem.W.hasDictIn K C_Running = true)
    (po_Running : PySem.W.plainOver K C_Running = true)
    (sa_Running : PySem.W.findIn K (.ref C_Running) "__setattr__" = some (some (.builtin "object.__setattr__")))
    (mk_Running : PySem.W.makesIn K C_Running = true)
    (kc_Running : PySem.W.keepIn K (.ref C_Running) = true)
    (no_Running_book : PySem.W.findIn K (.ref C_Running) "book" = some none)
    (no_Running_said : PySem.W.findIn K (.ref C_Running) "said" = some none)
    (no_Running_begun_rows : PySem.W.findIn K (.ref C_Running) "begun_rows" = some none)
    (no_Running_begun_rounds : PySem.W.findIn K (.ref C_Running) "begun_rounds" = some none)
    (no_Running_made_calls : PySem.W.findIn K (.ref C_Running) "made_calls" = some none)
    (no_Running_counts : PySem.W.findIn K (.ref C_Running) "counts" = some none)
    (no_Running_way : PySem.W.findIn K (.ref C_Running) "way" = some none)
    (no_Running_ways : PySem.W.findIn K (.ref C_Running) "ways" = some none)
    (a_joined_worth : PySem.W.nsIn K mainGlobals "joined_worth" = some (some (.ref f_joined_worth)))
    (l_joined_worth : K.lookup f_joined_worth = some ⟨oc_joined_worth, od_joined_worth, .func (PySem.W.fnOf "joined_worth" "joined_worth" (defArgs s_joined_worth) (defBody s_joined_worth) (defScope s_joined_worth) .none kV_joined_worth dc_joined_worth pm_joined_worth an_joined_worth cd_joined_worth ct_joined_worth), sl_joined_worth⟩)
    (c_joined_worth : PySem.W.codeIn K cd_joined_worth "joined_worth" = true)
    (k_joined_worth : PySem.W.keepIn K (.ref f_joined_worth) = true)
    (a_worth_of : PySem.W.nsIn K mainGlobals "worth_of" = some (some (.ref f_worth_of)))
    (l_worth_of : K.lookup f_worth_of = some ⟨oc_worth_of, od_worth_of, .func (PySem.W.fnOf "worth_of" "worth_of" (defArgs s_worth_of) (defBody s_worth_of) (defScope s_worth_of) .none kV_worth_of dc_worth_of pm_worth_of an_worth_of cd_worth_of ct_worth_of), sl_worth_of⟩)
    (c_worth_of : PySem.W.codeIn K cd_worth_of "worth_of" = true)
    (k_worth_of : PySem.W.keepIn K (.ref f_worth_of) = true)
    (a_rows_within : PySem.W.nsIn K mainGlobals "rows_within" = some (some (.ref f_rows_within)))
    (l_rows_within : K.lookup f_rows_within = some ⟨oc_rows_within, od_rows_within, .func (PySem.W.fnOf "rows_within" "rows_within" (defArgs s_rows_within) (defBody s_rows_within) (defScope s_rows_within) .none kV_rows_within dc_rows_within pm_rows_within an_rows_within cd_rows_within ct_rows_within), sl_rows_within⟩)
    (c_rows_within : PySem.W.codeIn K cd_rows_within "rows_within" = true)
    (k_rows_within : PySem.W.keepIn K (.ref f_rows_within) = true)
    (a_read_through : PySem.W.nsIn K mainGlobals "read_through" = some (some (.ref f_read_through)))
    (l_read_through : K.lookup f_read_through = some ⟨oc_read_through, od_read_through, .func (PySem.W.fnOf "read_through" "read_through" (defArgs s_read_through) (defBody s_read_through) (defScope s_read_through) .none kV_read_through dc_read_through pm_read_through an_read_through cd_read_through ct_read_through), sl_read_through⟩)
    (c_read_through : PySem.W.codeIn K cd_read_through "read_through" = true)
    (k_read_through : PySem.W.keepIn K (.ref f_read_through) = true)
    (a_rows_of : PySem.W.nsIn K mainGlobals "rows_of" = some (some (.ref f_rows_of)))
    (l_rows_of : K.lookup f_rows_of = some ⟨oc_rows_of, od_rows_of, .func (PySem.W.fnOf "rows_of" "rows_of" (defArgs s_rows_of) (defBody s_rows_of) (defScope s_rows_of) .none kV_rows_of dc_rows_of pm_rows_of an_rows_of cd_rows_of ct_rows_of), sl_rows_of⟩)
    (c_rows_of : PySem.W.codeIn K cd_rows_of "rows_of" = true)
    (k_rows_of : PySem.W.keepIn K (.ref f_rows_of) = true)
    (a_deed_of : PySem.W.nsIn K mainGlobals "deed_of" = some (some (.ref f_deed_of)))
    (l_deed_of : K.lookup f_deed_of = some ⟨oc_deed_of, od_deed_of, .func (PySem.W.fnOf "deed_of" "deed_of" (defArgs s_deed_of) (defBody s_deed_of) (defScope s_deed_of) .none kV_deed_of dc_deed_of pm_deed_of an_deed_of cd_deed_of ct_deed_of), sl_deed_of⟩)
    (c_deed_of : PySem.W.codeIn K cd_deed_of "deed_of" = true)
    (k_deed_of : PySem.W.keepIn K (.ref f_deed_of) = true)
    (a_look_at_names : PySem.W.nsIn K mainGlobals "look_at_names" = some (some (.ref f_look_at_names)))
    (l_look_at_names : K.lookup f_look_at_names = some ⟨oc_look_at_names, od_look_at_names, .func (PySem.W.fnOf "look_at_names" "look_at_names" (defArgs s_look_at_names) (defBody s_look_at_names) (defScope s_look_at_names) .none kV_look_at_names dc_look_at_names pm_look_at_names an_look_at_names cd_look_at_names ct_look_at_names), sl_look_at_names⟩)
    (c_look_at_names : PySem.W.codeIn K cd_look_at_names "look_at_names" = true)
    (k_look_at_names : PySem.W.keepIn K (.ref f_look_at_names) = true)
    (a_look_at_call : PySem.W.nsIn K mainGlobals "look_at_call" = some (some (.ref f_look_at_call)))
    (l_look_at_call : K.lookup f_look_at_call = some ⟨oc_look_at_call, od_look_at_call, .func (PySem.W.fnOf "look_at_call" "look_at_call" (defArgs s_look_at_call) (defBody s_look_at_call) (defScope s_look_at_call) .none kV_look_at_call dc_look_at_call pm_look_at_call an_look_at_call cd_look_at_call ct_look_at_call), sl_look_at_call⟩)
    (c_look_at_call : PySem.W.codeIn K cd_look_at_call "look_at_call" = true)
    (k_look_at_call : PySem.W.keepIn K (.ref f_look_at_call) = true)
    (a_made_book : PySem.W.nsIn K mainGlobals "made_book" = some (some (.ref f_made_book)))
    (l_made_book : K.lookup f_made_book = some ⟨oc_made_book, od_made_book, .func (PySem.W.fnOf "made_book" "made_book" (defArgs s_made_book) (defBody s_made_book) (defScope s_made_book) .none kV_made_book dc_made_book pm_made_book an_made_book cd_made_book ct_made_book), sl_made_book⟩)
    (c_made_book : PySem.W.codeIn K cd_made_book "made_book" = true)
    (k_made_book : PySem.W.keepIn K (.ref f_made_book) = true)
    (a_Running___init__ : PySem.W.findIn K (.ref C_Running) "__init__" = some (some (.ref f_Running___init__)))
    (i_Running___init__ : PySem.W.isFn K (.ref f_Running___init__) = true)
    (l_Running___init__ : K.lookup f_Running___init__ = some ⟨oc_Running___init__, od_Running___init__, .func (PySem.W.fnOf "__init__" "Running.__init__" (defArgs s_Running___init__) (defBody s_Running___init__) (defScope s_Running___init__) .none kV_Running___init__ dc_Running___init__ pm_Running___init__ an_Running___init__ cd_Running___init__ ct_Running___init__), sl_Running___init__⟩)
    (c_Running___init__ : PySem.W.codeIn K cd_Running___init__ "Running.__init__" = true)
    (k_Running___init__ : PySem.W.keepIn K (.ref f_Running___init__) = true)
    (a_Running_begin_round : PySem.W.findIn K (.ref C_Running) "begin_round" = some (some (.ref f_Running_begin_round)))
    (i_Running_begin_round : PySem.W.isFn K (.ref f_Running_begin_round) = true)
    (l_Running_begin_round : K.lookup f_Running_begin_round = some ⟨oc_Running_begin_round, od_Running_begin_round, .func (PySem.W.fnOf "begin_round" "Running.begin_round" (defArgs s_Running_begin_round) (defBody s_Running_begin_round) (defScope s_Running_begin_round) .none kV_Running_begin_round dc_Running_begin_round pm_Running_begin_round an_Running_begin_round cd_Running_begin_round ct_Running_begin_round), sl_Running_begin_round⟩)
    (c_Running_begin_round : PySem.W.codeIn K cd_Running_begin_round "Running.begin_round" = true)
    (k_Running_begin_round : PySem.W.keepIn K (.ref f_Running_begin_round) = true)
    (a_Running_make_call : PySem.W.findIn K (.ref C_Running) "make_call" = some (some (.ref f_Running_make_call)))
    (i_Running_make_call : PySem.W.isFn K (.ref f_Running_make_call) = true)
    (l_Running_make_call : K.lookup f_Running_make_call = some ⟨oc_Running_make_call, od_Running_make_call, .func (PySem.W.fnOf "make_call" "Running.make_call" (defArgs s_Running_make_call) (defBody s_Running_make_call) (defScope s_Running_make_call) .none kV_Running_make_call dc_Running_make_call pm_Running_make_call an_Running_make_call cd_Running_make_call ct_Running_make_call), sl_Running_make_call⟩)
    (c_Running_make_call : PySem.W.codeIn K cd_Running_make_call "Running.make_call" = true)
    (k_Running_make_call : PySem.W.keepIn K (.ref f_Running_make_call) = true)
    (a_Running_done_deed : PySem.W.findIn K (.ref C_Running) "done_deed" = some (some (.ref f_Running_done_deed)))
    (i_Running_done_deed : PySem.W.isFn K (.ref f_Running_done_deed) = true)
    (l_Running_done_deed : K.lookup f_Running_done_deed = some ⟨oc_Running_done_deed, od_Running_done_deed, .func (PySem.W.fnOf "done_deed" "Running.done_deed" (defArgs s_Running_done_deed) (defBody s_Running_done_deed) (defScope s_Running_done_deed) .none kV_Running_done_deed dc_Running_done_deed pm_Running_done_deed an_Running_done_deed cd_Running_done_deed ct_Running_done_deed), sl_Running_done_deed⟩)
    (c_Running_done_deed : PySem.W.codeIn K cd_Running_done_deed "Running.done_deed" = true)
    (k_Running_done_deed : PySem.W.keepIn K (.ref f_Running_done_deed) = true)
    (a_Running_do_rows : PySem.W.findIn K (.ref C_Running) "do_rows" = some (some (.ref f_Running_do_rows)))
    (i_Running_do_rows : PySem.W.isFn K (.ref f_Running_do_rows) = true)
    (l_Running_do_rows : K.lookup f_Running_do_rows = some ⟨oc_Running_do_rows, od_Running_do_rows, .func (PySem.W.fnOf "do_rows" "Running.do_rows" (defArgs s_Running_do_rows) (defBody s_Running_do_rows) (defScope s_Running_do_rows) .none kV_Running_do_rows dc_Running_do_rows pm_Running_do_rows an_Running_do_rows cd_Running_do_rows ct_Running_do_rows), sl_Running_do_rows⟩)
    (c_Running_do_rows : PySem.W.codeIn K cd_Running_do_rows "Running.do_rows" = true)
    (k_Running_do_rows : PySem.W.keepIn K (.ref f_Running_do_rows) = true)
    (a_Running_do_call : PySem.W.findIn K (.ref C_Running) "do_call" = some (some (.ref f_Running_do_call)))
    (i_Running_do_call : PySem.W.isFn K (.ref f_Running_do_call) = true)
    (l_Running_do_call : K.lookup f_Running_do_call = some ⟨oc_Running_do_call, od_Running_do_call, .func (PySem.W.fnOf "do_call" "Running.do_call" (defArgs s_Running_do_call) (defBody s_Running_do_call) (defScope s_Running_do_call) .none kV_Running_do_call dc_Running_do_call pm_Running_do_call an_Running_do_call cd_Running_do_call ct_Running_do_call), sl_Running_do_call⟩)
    (c_Running_do_call : PySem.W.codeIn K cd_Running_do_call "Running.do_call" = true)
    (k_Running_do_call : PySem.W.keepIn K (.ref f_Running_do_call) = true)
    (a_Running_do_when : PySem.W.findIn K (.ref C_Running) "do_when" = some (some (.ref f_Running_do_when)))
    (i_Running_do_when : PySem.W.isFn K (.ref f_Running_do_when) = true)
    (l_Running_do_when : K.lookup f_Running_do_when = some ⟨oc_Running_do_when, od_Running_do_when, .func (PySem.W.fnOf "do_when" "Running.do_when" (defArgs s_Running_do_when) (defBody s_Running_do_when) (defScope s_Running_do_when) .none kV_Running_do_when dc_Running_do_when pm_Running_do_when an_Running_do_when cd_Running_do_when ct_Running_do_when), sl_Running_do_when⟩)
    (c_Running_do_when : PySem.W.codeIn K cd_Running_do_when "Running.do_when" = true)
    (k_Running_do_when : PySem.W.keepIn K (.ref f_Running_do_when) = true)
    (a_Running_do_turn : PySem.W.findIn K (.ref C_Running) "do_turn" = some (some (.ref f_Running_do_turn)))
    (i_Running_do_turn : PySem.W.isFn K (.ref f_Running_do_turn) = true)
    (l_Running_do_turn : K.lookup f_Running_do_turn = some ⟨oc_Running_do_turn, od_Running_do_turn, .func (PySem.W.fnOf "do_turn" "Running.do_turn" (defArgs s_Running_do_turn) (defBody s_Running_do_turn) (defScope s_Running_do_turn) .none kV_Running_do_turn dc_Running_do_turn pm_Running_do_turn an_Running_do_turn cd_Running_do_turn ct_Running_do_turn), sl_Running_do_turn⟩)
    (c_Running_do_turn : PySem.W.codeIn K cd_Running_do_turn "Running.do_turn" = true)
    (k_Running_do_turn : PySem.W.keepIn K (.ref f_Running_do_turn) = true)
    (a_rising_counts : PySem.W.nsIn K mainGlobals "rising_counts" = some (some (.ref f_rising_counts)))
    (l_rising_counts : K.lookup f_rising_counts = some ⟨oc_rising_counts, od_rising_counts, .func (PySem.W.fnOf "rising_counts" "rising_counts" (defArgs s_rising_counts) (defBody s_rising_counts) (defScope s_rising_counts) .none kV_rising_counts dc_rising_counts pm_rising_counts an_rising_counts cd_rising_counts ct_rising_counts), sl_rising_counts⟩)
    (c_rising_counts : PySem.W.codeIn K cd_rising_counts "rising_counts" = true)
    (k_rising_counts : PySem.W.keepIn K (.ref f_rising_counts) = true)
    (a_ran_ways : PySem.W.nsIn K mainGlobals "ran_ways" = some (some (.ref f_ran_ways)))
    (l_ran_ways : K.lookup f_ran_ways = some ⟨oc_ran_ways, od_ran_ways, .func (PySem.W.fnOf "ran_ways" "ran_ways" (defArgs s_ran_ways) (defBody s_ran_ways) (defScope s_ran_ways) .none kV_ran_ways dc_ran_ways pm_ran_ways an_ran_ways cd_ran_ways ct_ran_ways), sl_ran_ways⟩)
    (c_ran_ways : PySem.W.codeIn K cd_ran_ways "ran_ways" = true)
    (k_ran_ways : PySem.W.keepIn K (.ref f_ran_ways) = true)
    (a_run_book : PySem.W.nsIn K mainGlobals "run_book" = some (some (.ref f_run_book)))
    (l_run_book : K.lookup f_run_book = some ⟨oc_run_book, od_run_book, .func (PySem.W.fnOf "run_book" "run_book" (defArgs s_run_book) (defBody s_run_book) (defScope s_run_book) .none kV_run_book dc_run_book pm_run_book an_run_book cd_run_book ct_run_book), sl_run_book⟩)
    (c_run_book : PySem.W.codeIn K cd_run_book "run_book" = true)
    (k_run_book : PySem.W.keepIn K (.ref f_run_book) = true)
    (a__law_pot : PySem.W.nsIn K mainGlobals "_law_pot" = some (some (.ref f__law_pot)))
    (l__law_pot : K.lookup f__law_pot = some ⟨oc__law_pot, od__law_pot, .func (PySem.W.fnOf "_law_pot" "_law_pot" (defArgs s__law_pot) (defBody s__law_pot) (defScope s__law_pot) .none kV__law_pot dc__law_pot pm__law_pot an__law_pot cd__law_pot ct__law_pot), sl__law_pot⟩)
    (c__law_pot : PySem.W.codeIn K cd__law_pot "_law_pot" = true)
    (k__law_pot : PySem.W.keepIn K (.ref f__law_pot) = true)
    (a__law_take : PySem.W.nsIn K mainGlobals "_law_take" = some (some (.ref f__law_take)))
    (l__law_take : K.lookup f__law_take = some ⟨oc__law_take, od__law_take, .func (PySem.W.fnOf "_law_take" "_law_take" (defArgs s__law_take) (defBody s__law_take) (defScope s__law_take) .none kV__law_take dc__law_take pm__law_take an__law_take cd__law_take ct__law_take), sl__law_take⟩)
    (c__law_take : PySem.W.codeIn K cd__law_take "_law_take" = true)
    (k__law_take : PySem.W.keepIn K (.ref f__law_take) = true)
    (a__law_value : PySem.W.nsIn K mainGlobals "_law_value" = some (some (.ref f__law_value)))
    (l__law_value : K.lookup f__law_value = some ⟨oc__law_value, od__law_value, .func (PySem.W.fnOf "_law_value" "_law_value" (defArgs s__law_value) (defBody s__law_value) (defScope s__law_value) .none kV__law_value dc__law_value pm__law_value an__law_value cd__law_value ct__law_value), sl__law_value⟩)
    (c__law_value : PySem.W.codeIn K cd__law_value "_law_value" = true)
    (k__law_value : PySem.W.keepIn K (.ref f__law_value) = true)
    (a__law_kind_right : PySem.W.nsIn K mainGlobals "_law_kind_right" = some (some (.ref f__law_kind_right)))
    (l__law_kind_right : K.lookup f__law_kind_right = some ⟨oc__law_kind_right, od__law_kind_right, .func (PySem.W.fnOf "_law_kind_right" "_law_kind_right" (defArgs s__law_kind_right) (defBody s__law_kind_right) (defScope s__law_kind_right) .none kV__law_kind_right dc__law_kind_right pm__law_kind_right an__law_kind_right cd__law_kind_right ct__law_kind_right), sl__law_kind_right⟩)
    (c__law_kind_right : PySem.W.codeIn K cd__law_kind_right "_law_kind_right" = true)
    (k__law_kind_right : PySem.W.keepIn K (.ref f__law_kind_right) = true)
    (a__law_due : PySem.W.nsIn K mainGlobals "_law_due" = some (some (.ref f__law_due)))
    (l__law_due : K.lookup f__law_due = some ⟨oc__law_due, od__law_due, .func (PySem.W.fnOf "_law_due" "_law_due" (defArgs s__law_due) (defBody s__law_due) (defScope s__law_due) .none kV__law_due dc__law_due pm__law_due an__law_due cd__law_due ct__law_due), sl__law_due⟩)
    (c__law_due : PySem.W.codeIn K cd__law_due "_law_due" = true)
    (k__law_due : PySem.W.keepIn K (.ref f__law_due) = true)
    (a_law : PySem.W.nsIn K mainGlobals "law" = some (some (.ref f_law)))
    (l_law : K.lookup f_law = some ⟨oc_law, od_law, .func (PySem.W.fnOf "law" "law" (defArgs s_law) (defBody s_law) (defScope s_law) .none kV_law dc_law pm_law an_law cd_law ct_law), sl_law⟩)
    (c_law : PySem.W.codeIn K cd_law "law" = true)
    (k_law : PySem.W.keepIn K (.ref f_law) = true)
    (n_all : PySem.W.nsIn K mainGlobals "all" = some none)
    (n_bool : PySem.W.nsIn K mainGlobals "bool" = some none)
    (n_dict : PySem.W.nsIn K mainGlobals "dict" = some none)
    (n_enumerate : PySem.W.nsIn K mainGlobals "enumerate" = some none)
    (n_int : PySem.W.nsIn K mainGlobals "int" = some none)
    (n_isinstance : PySem.W.nsIn K mainGlobals "isinstance" = some none)
    (n_len : PySem.W.nsIn K mainGlobals "len" = some none)
    (n_list : PySem.W.nsIn K mainGlobals "list" = some none)
    (n_range : PySem.W.nsIn K mainGlobals "range" = some none)
    (n_set : PySem.W.nsIn K mainGlobals "set" = some none)
    (n_sorted : PySem.W.nsIn K mainGlobals "sorted" = some none)
    (n_tuple : PySem.W.nsIn K mainGlobals "tuple" = some none)
    (n_zip : PySem.W.nsIn K mainGlobals "zip" = some none)
    (v_MOST_CALLS : PySem.W.nsIn K mainGlobals "MOST_CALLS" = some (some (.int 300 t_MOST_CALLS)))
    (v_MOST_DEEP : PySem.W.nsIn K mainGlobals "MOST_DEEP" = some (some (.int 20 t_MOST_DEEP)))
    (v_MOST_ROUNDS : PySem.W.nsIn K mainGlobals "MOST_ROUNDS" = some (some (.int 1000 t_MOST_ROUNDS)))
    (v_VALUES : PySem.W.nsIn K mainGlobals "VALUES" = some (some (.int 1000000 t_VALUES)))
    (ga_FoldError : PySem.W.nsIn K mainGlobals "FoldError" = some (some (.ref C_FoldError)))
    (gb_FoldError : PySem.W.subIn K (.ref C_FoldError) (.type "BaseException") = some true)
    (gi_FoldError : PySem.W.isClsIn K C_FoldError = true)
    (gt_FoldError : PySem.W.typeIn K (.ref C_FoldError) = some (.type "type"))
    (ga_Twice : PySem.W.nsIn K mainGlobals "Twice" = some (some (.ref C_Twice)))
    (gb_Twice : PySem.W.subIn K (.ref C_Twice) (.type "BaseException") = some true)
    (gi_Twice : PySem.W.isClsIn K C_Twice = true)
    (gt_Twice : PySem.W.typeIn K (.ref C_Twice) = some (.type "type"))
    (ga_NoDeed : PySem.W.nsIn K mainGlobals "NoDeed" = some (some (.ref C_NoDeed)))
    (gb_NoDeed : PySem.W.subIn K (.ref C_NoDeed) (.type "BaseException") = some true)
    (gi_NoDeed : PySem.W.isClsIn K C_NoDeed = true)
    (gt_NoDeed : PySem.W.typeIn K (.ref C_NoDeed) = some (.type "type"))
    (ga_WrongCount : PySem.W.nsIn K mainGlobals "WrongCount" = some (some (.ref C_WrongCount)))
    (gb_WrongCount : PySem.W.subIn K (.ref C_WrongCount) (.type "BaseException") = some true)
    (gi_WrongCount : PySem.W.isClsIn K C_WrongCount = true)
    (gt_WrongCount : PySem.W.typeIn K (.ref C_WrongCount) = some (.type "type"))
    (ga_TooDeep : PySem.W.nsIn K mainGlobals "TooDeep" = some (some (.ref C_TooDeep)))
    (gb_TooDeep : PySem.W.subIn K (.ref C_TooDeep) (.type "BaseException") = some true)
    (gi_TooDeep : PySem.W.isClsIn K C_TooDeep = true)
    (gt_TooDeep : PySem.W.typeIn K (.ref C_TooDeep) = some (.type "type"))
    (ga_TooLong : PySem.W.nsIn K mainGlobals "TooLong" = some (some (.ref C_TooLong)))
    (gb_TooLong : PySem.W.subIn K (.ref C_TooLong) (.type "BaseException") = some true)
    (gi_TooLong : PySem.W.isClsIn K C_TooLong = true)
    (gt_TooLong : PySem.W.typeIn K (.ref C_TooLong) = some (.type "type"))
    (ga_Broken : PySem.W.nsIn K mainGlobals "Broken" = some (some (.ref C_Broken)))
    (gb_Broken : PySem.W.subIn K (.ref C_Broken) (.type "BaseException") = some true)
    (gi_Broken : PySem.W.isClsIn K C_Broken = true)
    (gt_Broken : PySem.W.typeIn K (.ref C_Broken) = some (.type "type"))
    (yn : PySem.W.specialIn K (.builtin "object.__class__") "__get__" = some (some (.builtin "getset_descriptor.__get__")))
    (yt : PySem.W.takesIn K (.builtin "object.__class__") = some true)
    (na_TooBig : PySem.W.nsIn K mainGlobals "TooBig" = some none)
    (na_NoCall : PySem.W.nsIn K mainGlobals "NoCall" = some none)
    (na_NoMark : PySem.W.nsIn K mainGlobals "NoMark" = some none)
    (na_TooMany : PySem.W.nsIn K mainGlobals "TooMany" = some none)
    (na_Called : PySem.W.nsIn K mainGlobals "Called" = some none)
    (na_NoWay : PySem.W.nsIn K mainGlobals "NoWay" = some none)
    (na_NoRow : PySem.W.nsIn K mainGlobals "NoRow" = some none)
    (na_NoBack : PySem.W.nsIn K mainGlobals "NoBack" = some none)
    (na_Ringed : PySem.W.nsIn K mainGlobals "Ringed" = some none)
    (na_BadRun : PySem.W.nsIn K mainGlobals "BadRun" = some none)
    (na_NoText : PySem.W.nsIn K mainGlobals "NoText" = some none)
    (xe_Broken : PySem.W.excIn K C_Broken [.type "ValueError", .type "Exception", .type "BaseException", .type "object"] "ValueError.__new__" = true)
    (xk_Broken : PySem.W.keepIn K (.ref C_Broken) = true)
    (yg_Broken : PySem.W.findIn K (.ref C_Broken) "__getattribute__" = some (some (.builtin "BaseException.__getattribute__")))
    (yk_Broken : PySem.W.findIn K (.ref C_Broken) "__getattr__" = some none)
    (yd_Broken : PySem.W.hasDictIn K C_Broken = true)
    (ya_Broken : PySem.W.findIn K (.ref C_Broken) "__class__" = some (some (.builtin "object.__class__")))
    (ym_Broken : PySem.W.mroIn K C_Broken (.type "object") = some true)
    (kv_Broken : PySem.W.kitOne K (.ref C_Broken) (.type "ValueError") = some true)
    (kq_Broken_FoldError : PySem.W.kitOne K (.ref C_Broken) (.ref C_FoldError) = some true)
    (kq_Broken_Twice : PySem.W.kitOne K (.ref C_Broken) (.ref C_Twice) = some false)
    (kq_Broken_NoDeed : PySem.W.kitOne K (.ref C_Broken) (.ref C_NoDeed) = some false)
    (kq_Broken_WrongCount : PySem.W.kitOne K (.ref C_Broken) (.ref C_WrongCount) = some false)
    (kq_Broken_TooDeep : PySem.W.kitOne K (.ref C_Broken) (.ref C_TooDeep) = some false)
    (kq_Broken_TooLong : PySem.W.kitOne K (.ref C_Broken) (.ref C_TooLong) = some false)
    (kq_Broken_Broken : PySem.W.kitOne K (.ref C_Broken) (.ref C_Broken) = some true)
    (xs_Broken_FoldError : PySem.W.subIn K (.ref C_Broken) (.ref C_FoldError) = some true)
    (xs_Broken_Twice : PySem.W.subIn K (.ref C_Broken) (.ref C_Twice) = some false)
    (xs_Broken_NoDeed : PySem.W.subIn K (.ref C_Broken) (.ref C_NoDeed) = some false)
    (xs_Broken_WrongCount : PySem.W.subIn K (.ref C_Broken) (.ref C_WrongCount) = some false)
    (xs_Broken_TooDeep : PySem.W.subIn K (.ref C_Broken) (.ref C_TooDeep) = some false)
    (xs_Broken_TooLong : PySem.W.subIn K (.ref C_Broken) (.ref C_TooLong) = some false)
    (xs_Broken_Broken : PySem.W.subIn K (.ref C_Broken) (.ref C_Broken) = some true)
    (xe_NoDeed : PySem.W.excIn K C_NoDeed [.type "ValueError", .type "Exception", .type "BaseException", .type "object"] "ValueError.__new__" = true)
    (xk_NoDeed : PySem.W.keepIn K (.ref C_NoDeed) = true)
    (yg_NoDeed : PySem.W.findIn K (.ref C_NoDeed) "__getattribute__" = some (some (.builtin "BaseException.__getattribute__")))
    (yk_NoDeed : PySem.W.findIn K (.ref C_NoDeed) "__getattr__" = some none)
    (yd_NoDeed : PySem.W.hasDictIn K C_NoDeed = true)
    (ya_NoDeed : PySem.W.findIn K (.ref C_NoDeed) "__class__" = some (some (.builtin "object.__class__")))
    (ym_NoDeed : PySem.W.mroIn K C_NoDeed (.type "object") = some true)
    (kv_NoDeed : PySem.W.kitOne K (.ref C_NoDeed) (.type "ValueError") = some true)
    (kq_NoDeed_FoldError : PySem.W.kitOne K (.ref C_NoDeed) (.ref C_FoldError) = some true)
    (kq_NoDeed_Twice : PySem.W.kitOne K (.ref C_NoDeed) (.ref C_Twice) = some false)
    (kq_NoDeed_NoDeed : PySem.W.kitOne K (.ref C_NoDeed) (.ref C_NoDeed) = some true)
    (kq_NoDeed_WrongCount : PySem.W.kitOne K (.ref C_NoDeed) (.ref C_WrongCount) = some false)
    (kq_NoDeed_TooDeep : PySem.W.kitOne K (.ref C_NoDeed) (.ref C_TooDeep) = some false)
    (kq_NoDeed_TooLong : PySem.W.kitOne K (.ref C_NoDeed) (.ref C_TooLong) = some false)
    (kq_NoDeed_Broken : PySem.W.kitOne K (.ref C_NoDeed) (.ref C_Broken) = some false)
    (xs_NoDeed_FoldError : PySem.W.subIn K (.ref C_NoDeed) (.ref C_FoldError) = some true)
    (xs_NoDeed_Twice : PySem.W.subIn K (.ref C_NoDeed) (.ref C_Twice) = some false)
    (xs_NoDeed_NoDeed : PySem.W.subIn K (.ref C_NoDeed) (.ref C_NoDeed) = some true)
    (xs_NoDeed_WrongCount : PySem.W.subIn K (.ref C_NoDeed) (.ref C_WrongCount) = some false)
    (xs_NoDeed_TooDeep : PySem.W.subIn K (.ref C_NoDeed) (.ref C_TooDeep) = some false)
    (xs_NoDeed_TooLong : PySem.W.subIn K (.ref C_NoDeed) (.ref C_TooLong) = some false)
    (xs_NoDeed_Broken : PySem.W.subIn K (.ref C_NoDeed) (.ref C_Broken) = some false)
    (xe_TooDeep : PySem.W.excIn K C_TooDeep [.type "ValueError", .type "Exception", .type "BaseException", .type "object"] "ValueError.__new__" = true)
    (xk_TooDeep : PySem.W.keepIn K (.ref C_TooDeep) = true)
    (yg_TooDeep : PySem.W.findIn K (.ref C_TooDeep) "__getattribute__" = some (some (.builtin "BaseException.__getattribute__")))
    (yk_TooDeep : PySem.W.findIn K (.ref C_TooDeep) "__getattr__" = some none)
    (yd_TooDeep : PySem.W.hasDictIn K C_TooDeep = true)
    (ya_TooDeep : PySem.W.findIn K (.ref C_TooDeep) "__class__" = some (some (.builtin "object.__class__")))
    (ym_TooDeep : PySem.W.mroIn K C_TooDeep (.type "object") = some true)
    (kv_TooDeep : PySem.W.kitOne K (.ref C_TooDeep) (.type "ValueError") = some true)
    (kq_TooDeep_FoldError : PySem.W.kitOne K (.ref C_TooDeep) (.ref C_FoldError) = some true)
    (kq_TooDeep_Twice : PySem.W.kitOne K (.ref C_TooDeep) (.ref C_Twice) = some false)
    (kq_TooDeep_NoDeed : PySem.W.kitOne K (.ref C_TooDeep) (.ref C_NoDeed) = some false)
    (kq_TooDeep_WrongCount : PySem.W.kitOne K (.ref C_TooDeep) (.ref C_WrongCount) = some false)
    (kq_TooDeep_TooDeep : PySem.W.kitOne K (.ref C_TooDeep) (.ref C_TooDeep) = some true)
    (kq_TooDeep_TooLong : PySem.W.kitOne K (.ref C_TooDeep) (.ref C_TooLong) = some false)
    (kq_TooDeep_Broken : PySem.W.kitOne K (.ref C_TooDeep) (.ref C_Broken) = some false)
    (xs_TooDeep_FoldError : PySem.W.subIn K (.ref C_TooDeep) (.ref C_FoldError) = some true)
    (xs_TooDeep_Twice : PySem.W.subIn K (.ref C_TooDeep) (.ref C_Twice) = some false)
    (xs_TooDeep_NoDeed : PySem.W.subIn K (.ref C_TooDeep) (.ref C_NoDeed) = some false)
    (xs_TooDeep_WrongCount : PySem.W.subIn K (.ref C_TooDeep) (.ref C_WrongCount) = some false)
    (xs_TooDeep_TooDeep : PySem.W.subIn K (.ref C_TooDeep) (.ref C_TooDeep) = some true)
    (xs_TooDeep_TooLong : PySem.W.subIn K (.ref C_TooDeep) (.ref C_TooLong) = some false)
    (xs_TooDeep_Broken : PySem.W.subIn K (.ref C_TooDeep) (.ref C_Broken) = some false)
    (xe_TooLong : PySem.W.excIn K C_TooLong [.type "ValueError", .type "Exception", .type "BaseException", .type "object"] "ValueError.__new__" = true)
    (xk_TooLong : PySem.W.keepIn K (.ref C_TooLong) = true)
    (yg_TooLong : PySem.W.findIn K (.ref C_TooLong) "__getattribute__" = some (some (.builtin "BaseException.__getattribute__")))
    (yk_TooLong : PySem.W.findIn K (.ref C_TooLong) "__getattr__" = some none)
    (yd_TooLong : PySem.W.hasDictIn K C_TooLong = true)
    (ya_TooLong : PySem.W.findIn K (.ref C_TooLong) "__class__" = some (some (.builtin "object.__class__")))
    (ym_TooLong : PySem.W.mroIn K C_TooLong (.type "object") = some true)
    (kv_TooLong : PySem.W.kitOne K (.ref C_TooLong) (.type "ValueError") = some true)
    (kq_TooLong_FoldError : PySem.W.kitOne K (.ref C_TooLong) (.ref C_FoldError) = some true)
    (kq_TooLong_Twice : PySem.W.kitOne K (.ref C_TooLong) (.ref C_Twice) = some false)
    (kq_TooLong_NoDeed : PySem.W.kitOne K (.ref C_TooLong) (.ref C_NoDeed) = some false)
    (kq_TooLong_WrongCount : PySem.W.kitOne K (.ref C_TooLong) (.ref C_WrongCount) = some false)
    (kq_TooLong_TooDeep : PySem.W.kitOne K (.ref C_TooLong) (.ref C_TooDeep) = some false)
    (kq_TooLong_TooLong : PySem.W.kitOne K (.ref C_TooLong) (.ref C_TooLong) = some true)
    (kq_TooLong_Broken : PySem.W.kitOne K (.ref C_TooLong) (.ref C_Broken) = some false)
    (xs_TooLong_FoldError : PySem.W.subIn K (.ref C_TooLong) (.ref C_FoldError) = some true)
    (xs_TooLong_Twice : PySem.W.subIn K (.ref C_TooLong) (.ref C_Twice) = some false)
    (xs_TooLong_NoDeed : PySem.W.subIn K (.ref C_TooLong) (.ref C_NoDeed) = some false)
    (xs_TooLong_WrongCount : PySem.W.subIn K (.ref C_TooLong) (.ref C_WrongCount) = some false)
    (xs_TooLong_TooDeep : PySem.W.subIn K (.ref C_TooLong) (.ref C_TooDeep) = some false)
    (xs_TooLong_TooLong : PySem.W.subIn K (.ref C_TooLong) (.ref C_TooLong) = some true)
    (xs_TooLong_Broken : PySem.W.subIn K (.ref C_TooLong) (.ref C_Broken) = some false)
    (xe_Twice : PySem.W.excIn K C_Twice [.type "ValueError", .type "Exception", .type "BaseException", .type "object"] "ValueError.__new__" = true)
    (xk_Twice : PySem.W.keepIn K (.ref C_Twice) = true)
    (yg_Twice : PySem.W.findIn K (.ref C_Twice) "__getattribute__" = some (some (.builtin "BaseException.__getattribute__")))
    (yk_Twice : PySem.W.findIn K (.ref C_Twice) "__getattr__" = some none)
    (yd_Twice : PySem.W.hasDictIn K C_Twice = true)
    (ya_Twice : PySem.W.findIn K (.ref C_Twice) "__class__" = some (some (.builtin "object.__class__")))
    (ym_Twice : PySem.W.mroIn K C_Twice (.type "object") = some true)
    (kv_Twice : PySem.W.kitOne K (.ref C_Twice) (.type "ValueError") = some true)
    (kq_Twice_FoldError : PySem.W.kitOne K (.ref C_Twice) (.ref C_FoldError) = some true)
    (kq_Twice_Twice : PySem.W.kitOne K (.ref C_Twice) (.ref C_Twice) = some true)
    (kq_Twice_NoDeed : PySem.W.kitOne K (.ref C_Twice) (.ref C_NoDeed) = some false)
    (kq_Twice_WrongCount : PySem.W.kitOne K (.ref C_Twice) (.ref C_WrongCount) = some false)
    (kq_Twice_TooDeep : PySem.W.kitOne K (.ref C_Twice) (.ref C_TooDeep) = some false)
    (kq_Twice_TooLong : PySem.W.kitOne K (.ref C_Twice) (.ref C_TooLong) = some false)
    (kq_Twice_Broken : PySem.W.kitOne K (.ref C_Twice) (.ref C_Broken) = some false)
    (xs_Twice_FoldError : PySem.W.subIn K (.ref C_Twice) (.ref C_FoldError) = some true)
    (xs_Twice_Twice : PySem.W.subIn K (.ref C_Twice) (.ref C_Twice) = some true)
    (xs_Twice_NoDeed : PySem.W.subIn K (.ref C_Twice) (.ref C_NoDeed) = some false)
    (xs_Twice_WrongCount : PySem.W.subIn K (.ref C_Twice) (.ref C_WrongCount) = some false)
    (xs_Twice_TooDeep : PySem.W.subIn K (.ref C_Twice) (.ref C_TooDeep) = some false)
    (xs_Twice_TooLong : PySem.W.subIn K (.ref C_Twice) (.ref C_TooLong) = some false)
    (xs_Twice_Broken : PySem.W.subIn K (.ref C_Twice) (.ref C_Broken) = some false)
    (xe_WrongCount : PySem.W.excIn K C_WrongCount [.type "ValueError", .type "Exception", .type "BaseException", .type "object"] "ValueError.__new__" = true)
    (xk_WrongCount : PySem.W.keepIn K (.ref C_WrongCount) = true)
    (yg_WrongCount : PySem.W.findIn K (.ref C_WrongCount) "__getattribute__" = some (some (.builtin "BaseException.__getattribute__")))
    (yk_WrongCount : PySem.W.findIn K (.ref C_WrongCount) "__getattr__" = some none)
    (yd_WrongCount : PySem.W.hasDictIn K C_WrongCount = true)
    (ya_WrongCount : PySem.W.findIn K (.ref C_WrongCount) "__class__" = some (some (.builtin "object.__class__")))
    (ym_WrongCount : PySem.W.mroIn K C_WrongCount (.type "object") = some true)
    (kv_WrongCount : PySem.W.kitOne K (.ref C_WrongCount) (.type "ValueError") = some true)
    (kq_WrongCount_FoldError : PySem.W.kitOne K (.ref C_WrongCount) (.ref C_FoldError) = some true)
    (kq_WrongCount_Twice : PySem.W.kitOne K (.ref C_WrongCount) (.ref C_Twice) = some false)
    (kq_WrongCount_NoDeed : PySem.W.kitOne K (.ref C_WrongCount) (.ref C_NoDeed) = some false)
    (kq_WrongCount_WrongCount : PySem.W.kitOne K (.ref C_WrongCount) (.ref C_WrongCount) = some true)
    (kq_WrongCount_TooDeep : PySem.W.kitOne K (.ref C_WrongCount) (.ref C_TooDeep) = some false)
    (kq_WrongCount_TooLong : PySem.W.kitOne K (.ref C_WrongCount) (.ref C_TooLong) = some false)
    (kq_WrongCount_Broken : PySem.W.kitOne K (.ref C_WrongCount) (.ref C_Broken) = some false)
    (xs_WrongCount_FoldError : PySem.W.subIn K (.ref C_WrongCount) (.ref C_FoldError) = some true)
    (xs_WrongCount_Twice : PySem.W.subIn K (.ref C_WrongCount) (.ref C_Twice) = some false)
    (xs_WrongCount_NoDeed : PySem.W.subIn K (.ref C_WrongCount) (.ref C_NoDeed) = some false)
    (xs_WrongCount_WrongCount : PySem.W.subIn K (.ref C_WrongCount) (.ref C_WrongCount) = some true)
    (xs_WrongCount_TooDeep : PySem.W.subIn K (.ref C_WrongCount) (.ref C_TooDeep) = some false)
    (xs_WrongCount_TooLong : PySem.W.subIn K (.ref C_WrongCount) (.ref C_TooLong) = some false)
    (xs_WrongCount_Broken : PySem.W.subIn K (.ref C_WrongCount) (.ref C_Broken) = some false)
    : ∃ fd : FuncData, (∀ (s : Shared) (v : Value), BindsTo s fd ⟨[v], []⟩ [("script", v)]) ∧ ∀ base : Heap, K.In base → base.Ns mainGlobals mg → FnOk P w K mg base (L2.CX P w) (depth + 3) fa fd ["script"] (spLaw K) := by
  have e := hfa.symm.trans (PySem.W.mg_of X G a_law)
  cases e
  have T : Tx K mg := ⟨PySem.W.mg_none_of X G n_all, PySem.W.mg_none_of X G n_bool, PySem.W.mg_none_of X G n_dict, PySem.W.mg_none_of X G n_enumerate, PySem.W.mg_none_of X G n_int, PySem.W.mg_none_of X G n_isinstance, PySem.W.mg_none_of X G n_len, PySem.W.mg_none_of X G n_list, PySem.W.mg_none_of X G n_range, PySem.W.mg_none_of X G n_set, PySem.W.mg_none_of X G n_sorted, PySem.W.mg_none_of X G n_tuple, PySem.W.mg_none_of X G n_zip, ⟨_, PySem.W.mg_of X G v_MOST_CALLS⟩, ⟨_, PySem.W.mg_of X G v_MOST_DEEP⟩, ⟨_, PySem.W.mg_of X G v_MOST_ROUNDS⟩, ⟨_, PySem.W.mg_of X G v_VALUES⟩, ⟨C_Broken, xe_Broken, PySem.W.mg_of X G ga_Broken, xk_Broken, gb_Broken, gt_Broken⟩, ⟨C_NoDeed, xe_NoDeed, PySem.W.mg_of X G ga_NoDeed, xk_NoDeed, gb_NoDeed, gt_NoDeed⟩, ⟨C_TooDeep, xe_TooDeep, PySem.W.mg_of X G ga_TooDeep, xk_TooDeep, gb_TooDeep, gt_TooDeep⟩, ⟨C_TooLong, xe_TooLong, PySem.W.mg_of X G ga_TooLong, xk_TooLong, gb_TooLong, gt_TooLong⟩, ⟨C_Twice, xe_Twice, PySem.W.mg_of X G ga_Twice, xk_Twice, gb_Twice, gt_Twice⟩, ⟨C_WrongCount, xe_WrongCount, PySem.W.mg_of X G ga_WrongCount, xk_WrongCount, gb_WrongCount, gt_WrongCount⟩, ea_all (PySem.W.mg_of X G ga_Broken) (List.forall_mem_cons.mpr ⟨ea_yes (PySem.W.mg_of X G ga_FoldError) (b := true) (by decide +kernel) gb_FoldError gi_FoldError gt_FoldError xs_Broken_FoldError, List.forall_mem_cons.mpr ⟨ea_yes (PySem.W.mg_of X G ga_Twice) (b := false) (by decide +kernel) gb_Twice gi_Twice gt_Twice xs_Broken_Twice, List.forall_mem_cons.mpr ⟨ea_yes (PySem.W.mg_of X G ga_NoDeed) (b := false) (by decide +kernel) gb_NoDeed gi_NoDeed gt_NoDeed xs_Broken_NoDeed, List.forall_mem_cons.mpr ⟨ea_yes (PySem.W.mg_of X G ga_WrongCount) (b := false) (by decide +kernel) gb_WrongCount gi_WrongCount gt_WrongCount xs_Broken_WrongCount, List.forall_mem_cons.mpr ⟨ea_yes (PySem.W.mg_of X G ga_TooDeep) (b := false) (by decide +kernel) gb_TooDeep gi_TooDeep gt_TooDeep xs_Broken_TooDeep, List.forall_mem_cons.mpr ⟨ea_yes (PySem.W.mg_of X G ga_TooLong) (b := false) (by decide +kernel) gb_TooLong gi_TooLong gt_TooLong xs_Broken_TooLong, List.forall_mem_cons.mpr ⟨ea_no (PySem.W.mg_none_of X G na_TooBig), List.forall_mem_cons.mpr ⟨ea_no (PySem.W.mg_none_of X G na_NoCall), List.forall_mem_cons.mpr ⟨ea_no (PySem.W.mg_none_of X G na_NoMark), List.forall_mem_cons.mpr ⟨ea_no (PySem.W.mg_none_of X G na_TooMany), List.forall_mem_cons.mpr ⟨ea_no (PySem.W.mg_none_of X G na_Called), List.forall_mem_cons.mpr ⟨ea_no (PySem.W.mg_none_of X G na_NoWay), List.forall_mem_cons.mpr ⟨ea_no (PySem.W.mg_none_of X G na_NoRow), List.forall_mem_cons.mpr ⟨ea_no (PySem.W.mg_none_of X G na_NoBack), List.forall_mem_cons.mpr ⟨ea_yes (PySem.W.mg_of X G ga_Broken) (b := true) (by decide +kernel) gb_Broken gi_Broken gt_Broken xs_Broken_Broken, List.forall_mem_cons.mpr ⟨ea_no (PySem.W.mg_none_of X G na_Ringed), List.forall_mem_cons.mpr ⟨ea_no (PySem.W.mg_none_of X G na_BadRun), List.forall_mem_cons.mpr ⟨ea_no (PySem.W.mg_none_of X G na_NoText), List.forall_mem_nil _⟩⟩⟩⟩⟩⟩⟩⟩⟩⟩⟩⟩⟩⟩⟩⟩⟩⟩) ⟨yg_Broken, yk_Broken, gb_Broken, yd_Broken, ya_Broken, yn, yt, ym_Broken⟩ (List.forall_mem_cons.mpr ⟨ki_yes (PySem.W.mg_of X G ga_FoldError) (by decide +kernel) kq_Broken_FoldError, List.forall_mem_cons.mpr ⟨ki_yes (PySem.W.mg_of X G ga_Twice) (by decide +kernel) kq_Broken_Twice, List.forall_mem_cons.mpr ⟨ki_yes (PySem.W.mg_of X G ga_NoDeed) (by decide +kernel) kq_Broken_NoDeed, List.forall_mem_cons.mpr ⟨ki_yes (PySem.W.mg_of X G ga_WrongCount) (by decide +kernel) kq_Broken_WrongCount, List.forall_mem_cons.mpr ⟨ki_yes (PySem.W.mg_of X G ga_TooDeep) (by decide +kernel) kq_Broken_TooDeep, List.forall_mem_cons.mpr ⟨ki_yes (PySem.W.mg_of X G ga_TooLong) (by decide +kernel) kq_Broken_TooLong, List.forall_mem_cons.mpr ⟨ki_no (PySem.W.mg_none_of X G na_TooBig), List.forall_mem_cons.mpr ⟨ki_no (PySem.W.mg_none_of X G na_NoCall), List.forall_mem_cons.mpr ⟨ki_no (PySem.W.mg_none_of X G na_NoMark), List.forall_mem_cons.mpr ⟨ki_no (PySem.W.mg_none_of X G na_TooMany), List.forall_mem_cons.mpr ⟨ki_no (PySem.W.mg_none_of X G na_Called), List.forall_mem_cons.mpr ⟨ki_no (PySem.W.mg_none_of X G na_NoWay), List.forall_mem_cons.mpr ⟨ki_no (PySem.W.mg_none_of X G na_NoRow), List.forall_mem_cons.mpr ⟨ki_no (PySem.W.mg_none_of X G na_NoBack), List.forall_mem_cons.mpr ⟨ki_yes (PySem.W.mg_of X G ga_Broken) (by decide +kernel) kq_Broken_Broken, List.forall_mem_cons.mpr ⟨ki_no (PySem.W.mg_none_of X G na_Ringed), List.forall_mem_cons.mpr ⟨ki_no (PySem.W.mg_none_of X G na_BadRun), List.forall_mem_cons.mpr ⟨ki_no (PySem.W.mg_none_of X G na_NoText), List.forall_mem_nil _⟩⟩⟩⟩⟩⟩⟩⟩⟩⟩⟩⟩⟩⟩⟩⟩⟩⟩) kv_Broken, ea_all (PySem.W.mg_of X G ga_NoDeed) (List.forall_mem_cons.mpr ⟨ea_yes (PySem.W.mg_of X G ga_FoldError) (b := true) (by decide +kernel) gb_FoldError gi_FoldError gt_FoldError xs_NoDeed_FoldError, List.forall_mem_cons.mpr ⟨ea_yes (PySem.W.mg_of X G ga_Twice) (b := false) (by decide +kernel) gb_Twice gi_Twice gt_Twice xs_NoDeed_Twice, List.forall_mem_cons.mpr ⟨ea_yes (PySem.W.mg_of X G ga_NoDeed) (b := true) (by decide +kernel) gb_NoDeed gi_NoDeed gt_NoDeed xs_NoDeed_NoDeed, List.forall_mem_cons.mpr ⟨ea_yes (PySem.W.mg_of X G ga_WrongCount) (b := false) (by decide +kernel) gb_WrongCount gi_WrongCount gt_WrongCount xs_NoDeed_WrongCount, List.forall_mem_cons.mpr ⟨ea_yes (PySem.W.mg_of X G ga_TooDeep) (b := false) (by decide +kernel) gb_TooDeep gi_TooDeep gt_TooDeep xs_NoDeed_TooDeep, List.forall_mem_cons.mpr ⟨ea_yes (PySem.W.mg_of X G ga_TooLong) (b := false) (by decide +kernel) gb_TooLong gi_TooLong gt_TooLong xs_NoDeed_TooLong, List.forall_mem_cons.mpr ⟨ea_no (PySem.W.mg_none_of X G na_TooBig), List.forall_mem_cons.mpr ⟨ea_no (PySem.W.mg_none_of X G na_NoCall), List.forall_mem_cons.mpr ⟨ea_no (PySem.W.mg_none_of X G na_NoMark), List.forall_mem_cons.mpr ⟨ea_no (PySem.W.mg_none_of X G na_TooMany), List.forall_mem_cons.mpr ⟨ea_no (PySem.W.mg_none_of X G na_Called), List.forall_mem_cons.mpr ⟨ea_no (PySem.W.mg_none_of X G na_NoWay), List.forall_mem_cons.mpr ⟨ea_no (PySem.W.mg_none_of X G na_NoRow), List.forall_mem_cons.mpr ⟨ea_no (PySem.W.mg_none_of X G na_NoBack), List.forall_mem_cons.mpr ⟨ea_yes (PySem.W.mg_of X G ga_Broken) (b := false) (by decide +kernel) gb_Broken gi_Broken gt_Broken xs_NoDeed_Broken, List.forall_mem_cons.mpr ⟨ea_no (PySem.W.mg_none_of X G na_Ringed), List.forall_mem_cons.mpr ⟨ea_no (PySem.W.mg_none_of X G na_BadRun), List.forall_mem_cons.mpr ⟨ea_no (PySem.W.mg_none_of X G na_NoText), List.forall_mem_nil _⟩⟩⟩⟩⟩⟩⟩⟩⟩⟩⟩⟩⟩⟩⟩⟩⟩⟩) ⟨yg_NoDeed, yk_NoDeed, gb_NoDeed, yd_NoDeed, ya_NoDeed, yn, yt, ym_NoDeed⟩ (List.forall_mem_cons.mpr ⟨ki_yes (PySem.W.mg_of X G ga_FoldError) (by decide +kernel) kq_NoDeed_FoldError, List.forall_mem_cons.mpr ⟨ki_yes (PySem.W.mg_of X G ga_Twice) (by decide +kernel) kq_NoDeed_Twice, List.forall_mem_cons.mpr ⟨ki_yes (PySem.W.mg_of X G ga_NoDeed) (by decide +kernel) kq_NoDeed_NoDeed, List.forall_mem_cons.mpr ⟨ki_yes (PySem.W.mg_of X G ga_WrongCount) (by decide +kernel) kq_NoDeed_WrongCount, List.forall_mem_cons.mpr ⟨ki_yes (PySem.W.mg_of X G ga_TooDeep) (by decide +kernel) kq_NoDeed_TooDeep, List.forall_mem_cons.mpr ⟨ki_yes (PySem.W.mg_of X G ga_TooLong) (by decide +kernel) kq_NoDeed_TooLong, List.forall_mem_cons.mpr ⟨ki_no (PySem.W.mg_none_of X G na_TooBig), List.forall_mem_cons.mpr ⟨ki_no (PySem.W.mg_none_of X G na_NoCall), List.forall_mem_cons.mpr ⟨ki_no (PySem.W.mg_none_of X G na_NoMark), List.forall_mem_cons.mpr ⟨ki_no (PySem.W.mg_none_of X G na_TooMany), List.forall_mem_cons.mpr ⟨ki_no (PySem.W.mg_none_of X G na_Called), List.forall_mem_cons.mpr ⟨ki_no (PySem.W.mg_none_of X G na_NoWay), List.forall_mem_cons.mpr ⟨ki_no (PySem.W.mg_none_of X G na_NoRow), List.forall_mem_cons.mpr ⟨ki_no (PySem.W.mg_none_of X G na_NoBack), List.forall_mem_cons.mpr ⟨ki_yes (PySem.W.mg_of X G ga_Broken) (by decide +kernel) kq_NoDeed_Broken, List.forall_mem_cons.mpr ⟨ki_no (PySem.W.mg_none_of X G na_Ringed), List.forall_mem_cons.mpr ⟨ki_no (PySem.W.mg_none_of X G na_BadRun), List.forall_mem_cons.mpr ⟨ki_no (PySem.W.mg_none_of X G na_NoText), List.forall_mem_nil _⟩⟩⟩⟩⟩⟩⟩⟩⟩⟩⟩⟩⟩⟩⟩⟩⟩⟩) kv_NoDeed, ea_all (PySem.W.mg_of X G ga_TooDeep) (List.forall_mem_cons.mpr ⟨ea_yes (PySem.W.mg_of X G ga_FoldError) (b := true) (by decide +kernel) gb_FoldError gi_FoldError gt_FoldError xs_TooDeep_FoldError, List.forall_mem_cons.mpr ⟨ea_yes (PySem.W.mg_of X G ga_Twice) (b := false) (by decide +kernel) gb_Twice gi_Twice gt_Twice xs_TooDeep_Twice, List.forall_mem_cons.mpr ⟨ea_yes (PySem.W.mg_of X G ga_NoDeed) (b := false) (by decide +kernel) gb_NoDeed gi_NoDeed gt_NoDeed xs_TooDeep_NoDeed, List.forall_mem_cons.mpr ⟨ea_yes (PySem.W.mg_of X G ga_WrongCount) (b := false) (by decide +kernel) gb_WrongCount gi_WrongCount gt_WrongCount xs_TooDeep_WrongCount, List.forall_mem_cons.mpr ⟨ea_yes (PySem.W.mg_of X G ga_TooDeep) (b := true) (by decide +kernel) gb_TooDeep gi_TooDeep gt_TooDeep xs_TooDeep_TooDeep, List.forall_mem_cons.mpr ⟨ea_yes (PySem.W.mg_of X G ga_TooLong) (b := false) (by decide +kernel) gb_TooLong gi_TooLong gt_TooLong xs_TooDeep_TooLong, List.forall_mem_cons.mpr ⟨ea_no (PySem.W.mg_none_of X G na_TooBig), List.forall_mem_cons.mpr ⟨ea_no (PySem.W.mg_none_of X G na_NoCall), List.forall_mem_cons.mpr ⟨ea_no (PySem.W.mg_none_of X G na_NoMark), List.forall_mem_cons.mpr ⟨ea_no (PySem.W.mg_none_of X G na_TooMany), List.forall_mem_cons.mpr ⟨ea_no (PySem.W.mg_none_of X G na_Called), List.forall_mem_cons.mpr ⟨ea_no (PySem.W.mg_none_of X G na_NoWay), List.forall_mem_cons.mpr ⟨ea_no (PySem.W.mg_none_of X G na_NoRow), List.forall_mem_cons.mpr ⟨ea_no (PySem.W.mg_none_of X G na_NoBack), List.forall_mem_cons.mpr ⟨ea_yes (PySem.W.mg_of X G ga_Broken) (b := false) (by decide +kernel) gb_Broken gi_Broken gt_Broken xs_TooDeep_Broken, List.forall_mem_cons.mpr ⟨ea_no (PySem.W.mg_none_of X G na_Ringed), List.forall_mem_cons.mpr ⟨ea_no (PySem.W.mg_none_of X G na_BadRun), List.forall_mem_cons.mpr ⟨ea_no (PySem.W.mg_none_of X G na_NoText), List.forall_mem_nil _⟩⟩⟩⟩⟩⟩⟩⟩⟩⟩⟩⟩⟩⟩⟩⟩⟩⟩) ⟨yg_TooDeep, yk_TooDeep, gb_TooDeep, yd_TooDeep, ya_TooDeep, yn, yt, ym_TooDeep⟩ (List.forall_mem_cons.mpr ⟨ki_yes (PySem.W.mg_of X G ga_FoldError) (by decide +kernel) kq_TooDeep_FoldError, List.forall_mem_cons.mpr ⟨ki_yes (PySem.W.mg_of X G ga_Twice) (by decide +kernel) kq_TooDeep_Twice, List.forall_mem_cons.mpr ⟨ki_yes (PySem.W.mg_of X G ga_NoDeed) (by decide +kernel) kq_TooDeep_NoDeed, List.forall_mem_cons.mpr ⟨ki_yes (PySem.W.mg_of X G ga_WrongCount) (by decide +kernel) kq_TooDeep_WrongCount, List.forall_mem_cons.mpr ⟨ki_yes (PySem.W.mg_of X G ga_TooDeep) (by decide +kernel) kq_TooDeep_TooDeep, List.forall_mem_cons.mpr ⟨ki_yes (PySem.W.mg_of X G ga_TooLong) (by decide +kernel) kq_TooDeep_TooLong, List.forall_mem_cons.mpr ⟨ki_no (PySem.W.mg_none_of X G na_TooBig), List.forall_mem_cons.mpr ⟨ki_no (PySem.W.mg_none_of X G na_NoCall), List.forall_mem_cons.mpr ⟨ki_no (PySem.W.mg_none_of X G na_NoMark), List.forall_mem_cons.mpr ⟨ki_no (PySem.W.mg_none_of X G na_TooMany), List.forall_mem_cons.mpr ⟨ki_no (PySem.W.mg_none_of X G na_Called), List.forall_mem_cons.mpr ⟨ki_no (PySem.W.mg_none_of X G na_NoWay), List.forall_mem_cons.mpr ⟨ki_no (PySem.W.mg_none_of X G na_NoRow), List.forall_mem_cons.mpr ⟨ki_no (PySem.W.mg_none_of X G na_NoBack), List.forall_mem_cons.mpr ⟨ki_yes (PySem.W.mg_of X G ga_Broken) (by decide +kernel) kq_TooDeep_Broken, List.forall_mem_cons.mpr ⟨ki_no (PySem.W.mg_none_of X G na_Ringed), List.forall_mem_cons.mpr ⟨ki_no (PySem.W.mg_none_of X G na_BadRun), List.forall_mem_cons.mpr ⟨ki_no (PySem.W.mg_none_of X G na_NoText), List.forall_mem_nil _⟩⟩⟩⟩⟩⟩⟩⟩⟩⟩⟩⟩⟩⟩⟩⟩⟩⟩) kv_TooDeep, ea_all (PySem.W.mg_of X G ga_TooLong) (List.forall_mem_cons.mpr ⟨ea_yes (PySem.W.mg_of X G ga_FoldError) (b := true) (by decide +kernel) gb_FoldError gi_FoldError gt_FoldError xs_TooLong_FoldError, List.forall_mem_cons.mpr ⟨ea_yes (PySem.W.mg_of X G ga_Twice) (b := false) (by decide +kernel) gb_Twice gi_Twice gt_Twice xs_TooLong_Twice, List.forall_mem_cons.mpr ⟨ea_yes (PySem.W.mg_of X G ga_NoDeed) (b := false) (by decide +kernel) gb_NoDeed gi_NoDeed gt_NoDeed xs_TooLong_NoDeed, List.forall_mem_cons.mpr ⟨ea_yes (PySem.W.mg_of X G ga_WrongCount) (b := false) (by decide +kernel) gb_WrongCount gi_WrongCount gt_WrongCount xs_TooLong_WrongCount, List.forall_mem_cons.mpr ⟨ea_yes (PySem.W.mg_of X G ga_TooDeep) (b := false) (by decide +kernel) gb_TooDeep gi_TooDeep gt_TooDeep xs_TooLong_TooDeep, List.forall_mem_cons.mpr ⟨ea_yes (PySem.W.mg_of X G ga_TooLong) (b := true) (by decide +kernel) gb_TooLong gi_TooLong gt_TooLong xs_TooLong_TooLong, List.forall_mem_cons.mpr ⟨ea_no (PySem.W.mg_none_of X G na_TooBig), List.forall_mem_cons.mpr ⟨ea_no (PySem.W.mg_none_of X G na_NoCall), List.forall_mem_cons.mpr ⟨ea_no (PySem.W.mg_none_of X G na_NoMark), List.forall_mem_cons.mpr ⟨ea_no (PySem.W.mg_none_of X G na_TooMany), List.forall_mem_cons.mpr ⟨ea_no (PySem.W.mg_none_of X G na_Called), List.forall_mem_cons.mpr ⟨ea_no (PySem.W.mg_none_of X G na_NoWay), List.forall_mem_cons.mpr ⟨ea_no (PySem.W.mg_none_of X G na_NoRow), List.forall_mem_cons.mpr ⟨ea_no (PySem.W.mg_none_of X G na_NoBack), List.forall_mem_cons.mpr ⟨ea_yes (PySem.W.mg_of X G ga_Broken) (b := false) (by decide +kernel) gb_Broken gi_Broken gt_Broken xs_TooLong_Broken, List.forall_mem_cons.mpr ⟨ea_no (PySem.W.mg_none_of X G na_Ringed), List.forall_mem_cons.mpr ⟨ea_no (PySem.W.mg_none_of X G na_BadRun), List.forall_mem_cons.mpr ⟨ea_no (PySem.W.mg_none_of X G na_NoText), List.forall_mem_nil _⟩⟩⟩⟩⟩⟩⟩⟩⟩⟩⟩⟩⟩⟩⟩⟩⟩⟩) ⟨yg_TooLong, yk_TooLong, gb_TooLong, yd_TooLong, ya_TooLong, yn, yt, ym_TooLong⟩ (List.forall_mem_cons.mpr ⟨ki_yes (PySem.W.mg_of X G ga_FoldError) (by decide +kernel) kq_TooLong_FoldError, List.forall_mem_cons.mpr ⟨ki_yes (PySem.W.mg_of X G ga_Twice) (by decide +kernel) kq_TooLong_Twice, List.forall_mem_cons.mpr ⟨ki_yes (PySem.W.mg_of X G ga_NoDeed) (by decide +kernel) kq_TooLong_NoDeed, List.forall_mem_cons.mpr ⟨ki_yes (PySem.W.mg_of X G ga_WrongCount) (by decide +kernel) kq_TooLong_WrongCount, List.forall_mem_cons.mpr ⟨ki_yes (PySem.W.mg_of X G ga_TooDeep) (by decide +kernel) kq_TooLong_TooDeep, List.forall_mem_cons.mpr ⟨ki_yes (PySem.W.mg_of X G ga_TooLong) (by decide +kernel) kq_TooLong_TooLong, List.forall_mem_cons.mpr ⟨ki_no (PySem.W.mg_none_of X G na_TooBig), List.forall_mem_cons.mpr ⟨ki_no (PySem.W.mg_none_of X G na_NoCall), List.forall_mem_cons.mpr ⟨ki_no (PySem.W.mg_none_of X G na_NoMark), List.forall_mem_cons.mpr ⟨ki_no (PySem.W.mg_none_of X G na_TooMany), List.forall_mem_cons.mpr ⟨ki_no (PySem.W.mg_none_of X G na_Called), List.forall_mem_cons.mpr ⟨ki_no (PySem.W.mg_none_of X G na_NoWay), List.forall_mem_cons.mpr ⟨ki_no (PySem.W.mg_none_of X G na_NoRow), List.forall_mem_cons.mpr ⟨ki_no (PySem.W.mg_none_of X G na_NoBack), List.forall_mem_cons.mpr ⟨ki_yes (PySem.W.mg_of X G ga_Broken) (by decide +kernel) kq_TooLong_Broken, List.forall_mem_cons.mpr ⟨ki_no (PySem.W.mg_none_of X G na_Ringed), List.forall_mem_cons.mpr ⟨ki_no (PySem.W.mg_none_of X G na_BadRun), List.forall_mem_cons.mpr ⟨ki_no (PySem.W.mg_none_of X G na_NoText), List.forall_mem_nil _⟩⟩⟩⟩⟩⟩⟩⟩⟩⟩⟩⟩⟩⟩⟩⟩⟩⟩) kv_TooLong, ea_all (PySem.W.mg_of X G ga_Twice) (List.forall_mem_cons.mpr ⟨ea_yes (PySem.W.mg_of X G ga_FoldError) (b := true) (by decide +kernel) gb_FoldError gi_FoldError gt_FoldError xs_Twice_FoldError, List.forall_mem_cons.mpr ⟨ea_yes (PySem.W.mg_of X G ga_Twice) (b := true) (by decide +kernel) gb_Twice gi_Twice gt_Twice xs_Twice_Twice, List.forall_mem_cons.mpr ⟨ea_yes (PySem.W.mg_of X G ga_NoDeed) (b := false) (by decide +kernel) gb_NoDeed gi_NoDeed gt_NoDeed xs_Twice_NoDeed, List.forall_mem_cons.mpr ⟨ea_yes (PySem.W.mg_of X G ga_WrongCount) (b := false) (by decide +kernel) gb_WrongCount gi_WrongCount gt_WrongCount xs_Twice_WrongCount, List.forall_mem_cons.mpr ⟨ea_yes (PySem.W.mg_of X G ga_TooDeep) (b := false) (by decide +kernel) gb_TooDeep gi_TooDeep gt_TooDeep xs_Twice_TooDeep, List.forall_mem_cons.mpr ⟨ea_yes (PySem.W.mg_of X G ga_TooLong) (b := false) (by decide +kernel) gb_TooLong gi_TooLong gt_TooLong xs_Twice_TooLong, List.forall_mem_cons.mpr ⟨ea_no (PySem.W.mg_none_of X G na_TooBig), List.forall_mem_cons.mpr ⟨ea_no (PySem.W.mg_none_of X G na_NoCall), List.forall_mem_cons.mpr ⟨ea_no (PySem.W.mg_none_of X G na_NoMark), List.forall_mem_cons.mpr ⟨ea_no (PySem.W.mg_none_of X G na_TooMany), List.forall_mem_cons.mpr ⟨ea_no (PySem.W.mg_none_of X G na_Called), List.forall_mem_cons.mpr ⟨ea_no (PySem.W.mg_none_of X G na_NoWay), List.forall_mem_cons.mpr ⟨ea_no (PySem.W.mg_none_of X G na_NoRow), List.forall_mem_cons.mpr ⟨ea_no (PySem.W.mg_none_of X G na_NoBack), List.forall_mem_cons.mpr ⟨ea_yes (PySem.W.mg_of X G ga_Broken) (b := false) (by decide +kernel) gb_Broken gi_Broken gt_Broken xs_Twice_Broken, List.forall_mem_cons.mpr ⟨ea_no (PySem.W.mg_none_of X G na_Ringed), List.forall_mem_cons.mpr ⟨ea_no (PySem.W.mg_none_of X G na_BadRun), List.forall_mem_cons.mpr ⟨ea_no (PySem.W.mg_none_of X G na_NoText), List.forall_mem_nil _⟩⟩⟩⟩⟩⟩⟩⟩⟩⟩⟩⟩⟩⟩⟩⟩⟩⟩) ⟨yg_Twice, yk_Twice, gb_Twice, yd_Twice, ya_Twice, yn, yt, ym_Twice⟩ (List.forall_mem_cons.mpr ⟨ki_yes (PySem.W.mg_of X G ga_FoldError) (by decide +kernel) kq_Twice_FoldError, List.forall_mem_cons.mpr ⟨ki_yes (PySem.W.mg_of X G ga_Twice) (by decide +kernel) kq_Twice_Twice, List.forall_mem_cons.mpr ⟨ki_yes (PySem.W.mg_of X G ga_NoDeed) (by decide +kernel) kq_Twice_NoDeed, List.forall_mem_cons.mpr ⟨ki_yes (PySem.W.mg_of X G ga_WrongCount) (by decide +kernel) kq_Twice_WrongCount, List.forall_mem_cons.mpr ⟨ki_yes (PySem.W.mg_of X G ga_TooDeep) (by decide +kernel) kq_Twice_TooDeep, List.forall_mem_cons.mpr ⟨ki_yes (PySem.W.mg_of X G ga_TooLong) (by decide +kernel) kq_Twice_TooLong, List.forall_mem_cons.mpr ⟨ki_no (PySem.W.mg_none_of X G na_TooBig), List.forall_mem_cons.mpr ⟨ki_no (PySem.W.mg_none_of X G na_NoCall), List.forall_mem_cons.mpr ⟨ki_no (PySem.W.mg_none_of X G na_NoMark), List.forall_mem_cons.mpr ⟨ki_no (PySem.W.mg_none_of X G na_TooMany), List.forall_mem_cons.mpr ⟨ki_no (PySem.W.mg_none_of X G na_Called), List.forall_mem_cons.mpr ⟨ki_no (PySem.W.mg_none_of X G na_NoWay), List.forall_mem_cons.mpr ⟨ki_no (PySem.W.mg_none_of X G na_NoRow), List.forall_mem_cons.mpr ⟨ki_no (PySem.W.mg_none_of X G na_NoBack), List.forall_mem_cons.mpr ⟨ki_yes (PySem.W.mg_of X G ga_Broken) (by decide +kernel) kq_Twice_Broken, List.forall_mem_cons.mpr ⟨ki_no (PySem.W.mg_none_of X G na_Ringed), List.forall_mem_cons.mpr ⟨ki_no (PySem.W.mg_none_of X G na_BadRun), List.forall_mem_cons.mpr ⟨ki_no (PySem.W.mg_none_of X G na_NoText), List.forall_mem_nil _⟩⟩⟩⟩⟩⟩⟩⟩⟩⟩⟩⟩⟩⟩⟩⟩⟩⟩) kv_Twice, ea_all (PySem.W.mg_of X G ga_WrongCount) (List.forall_mem_cons.mpr ⟨ea_yes (PySem.W.mg_of X G ga_FoldError) (b := true) (by decide +kernel) gb_FoldError gi_FoldError gt_FoldError xs_WrongCount_FoldError, List.forall_mem_cons.mpr ⟨ea_yes (PySem.W.mg_of X G ga_Twice) (b := false) (by decide +kernel) gb_Twice gi_Twice gt_Twice xs_WrongCount_Twice, List.forall_mem_cons.mpr ⟨ea_yes (PySem.W.mg_of X G ga_NoDeed) (b := false) (by decide +kernel) gb_NoDeed gi_NoDeed gt_NoDeed xs_WrongCount_NoDeed, List.forall_mem_cons.mpr ⟨ea_yes (PySem.W.mg_of X G ga_WrongCount) (b := true) (by decide +kernel) gb_WrongCount gi_WrongCount gt_WrongCount xs_WrongCount_WrongCount, List.forall_mem_cons.mpr ⟨ea_yes (PySem.W.mg_of X G ga_TooDeep) (b := false) (by decide +kernel) gb_TooDeep gi_TooDeep gt_TooDeep xs_WrongCount_TooDeep, List.forall_mem_cons.mpr ⟨ea_yes (PySem.W.mg_of X G ga_TooLong) (b := false) (by decide +kernel) gb_TooLong gi_TooLong gt_TooLong xs_WrongCount_TooLong, List.forall_mem_cons.mpr ⟨ea_no (PySem.W.mg_none_of X G na_TooBig), List.forall_mem_cons.mpr ⟨ea_no (PySem.W.mg_none_of X G na_NoCall), List.forall_mem_cons.mpr ⟨ea_no (PySem.W.mg_none_of X G na_NoMark), List.forall_mem_cons.mpr ⟨ea_no (PySem.W.mg_none_of X G na_TooMany), List.forall_mem_cons.mpr ⟨ea_no (PySem.W.mg_none_of X G na_Called), List.forall_mem_cons.mpr ⟨ea_no (PySem.W.mg_none_of X G na_NoWay), List.forall_mem_cons.mpr ⟨ea_no (PySem.W.mg_none_of X G na_NoRow), List.forall_mem_cons.mpr ⟨ea_no (PySem.W.mg_none_of X G na_NoBack), List.forall_mem_cons.mpr ⟨ea_yes (PySem.W.mg_of X G ga_Broken) (b := false) (by decide +kernel) gb_Broken gi_Broken gt_Broken xs_WrongCount_Broken, List.forall_mem_cons.mpr ⟨ea_no (PySem.W.mg_none_of X G na_Ringed), List.forall_mem_cons.mpr ⟨ea_no (PySem.W.mg_none_of X G na_BadRun), List.forall_mem_cons.mpr ⟨ea_no (PySem.W.mg_none_of X G na_NoText), List.forall_mem_nil _⟩⟩⟩⟩⟩⟩⟩⟩⟩⟩⟩⟩⟩⟩⟩⟩⟩⟩) ⟨yg_WrongCount, yk_WrongCount, gb_WrongCount, yd_WrongCount, ya_WrongCount, yn, yt, ym_WrongCount⟩ (List.forall_mem_cons.mpr ⟨ki_yes (PySem.W.mg_of X G ga_FoldError) (by decide +kernel) kq_WrongCount_FoldError, List.forall_mem_cons.mpr ⟨ki_yes (PySem.W.mg_of X G ga_Twice) (by decide +kernel) kq_WrongCount_Twice, List.forall_mem_cons.mpr ⟨ki_yes (PySem.W.mg_of X G ga_NoDeed) (by decide +kernel) kq_WrongCount_NoDeed, List.forall_mem_cons.mpr ⟨ki_yes (PySem.W.mg_of X G ga_WrongCount) (by decide +kernel) kq_WrongCount_WrongCount, List.forall_mem_cons.mpr ⟨ki_yes (PySem.W.mg_of X G ga_TooDeep) (by decide +kernel) kq_WrongCount_TooDeep, List.forall_mem_cons.mpr ⟨ki_yes (PySem.W.mg_of X G ga_TooLong) (by decide +kernel) kq_WrongCount_TooLong, List.forall_mem_cons.mpr ⟨ki_no (PySem.W.mg_none_of X G na_TooBig), List.forall_mem_cons.mpr ⟨ki_no (PySem.W.mg_none_of X G na_NoCall), List.forall_mem_cons.mpr ⟨ki_no (PySem.W.mg_none_of X G na_NoMark), List.forall_mem_cons.mpr ⟨ki_no (PySem.W.mg_none_of X G na_TooMany), List.forall_mem_cons.mpr ⟨ki_no (PySem.W.mg_none_of X G na_Called), List.forall_mem_cons.mpr ⟨ki_no (PySem.W.mg_none_of X G na_NoWay), List.forall_mem_cons.mpr ⟨ki_no (PySem.W.mg_none_of X G na_NoRow), List.forall_mem_cons.mpr ⟨ki_no (PySem.W.mg_none_of X G na_NoBack), List.forall_mem_cons.mpr ⟨ki_yes (PySem.W.mg_of X G ga_Broken) (by decide +kernel) kq_WrongCount_Broken, List.forall_mem_cons.mpr ⟨ki_no (PySem.W.mg_none_of X G na_Ringed), List.forall_mem_cons.mpr ⟨ki_no (PySem.W.mg_none_of X G na_BadRun), List.forall_mem_cons.mpr ⟨ki_no (PySem.W.mg_none_of X G na_NoText), List.forall_mem_nil _⟩⟩⟩⟩⟩⟩⟩⟩⟩⟩⟩⟩⟩⟩⟩⟩⟩⟩) kv_WrongCount, ⟨C_Broken, PySem.W.mg_of X G ga_Broken⟩, clsOk_R ga_Running ⟨pg_Running, hd_Running, po_Running, sa_Running⟩ (List.forall_mem_cons.mpr ⟨no_Running_book, List.forall_mem_cons.mpr ⟨no_Running_said, List.forall_mem_cons.mpr ⟨no_Running_begun_rows, List.forall_mem_cons.mpr ⟨no_Running_begun_rounds, List.forall_mem_cons.mpr ⟨no_Running_made_calls, List.forall_mem_cons.mpr ⟨no_Running_counts, List.forall_mem_cons.mpr ⟨no_Running_way, List.forall_mem_cons.mpr ⟨no_Running_ways, List.forall_mem_nil _⟩⟩⟩⟩⟩⟩⟩⟩)⟩
  have F_joined_worth := fun_mk (st := s_joined_worth) l_joined_worth c_joined_worth k_joined_worth
  have b_joined_worth := F_joined_worth.binds (ps := ps_joined_worth) fun _ _ _ _ _ _ us hl => match us, hl with | [_, _, _], _ => rfl
  have F_worth_of := fun_mk (st := s_worth_of) l_worth_of c_worth_of k_worth_of
  have b_worth_of := F_worth_of.binds (ps := ps_worth_of) fun _ _ _ _ _ _ us hl => match us, hl with | [_, _], _ => rfl
  have F_rows_within := fun_mk (st := s_rows_within) l_rows_within c_rows_within k_rows_within
  have b_rows_within := F_rows_within.binds (ps := ps_rows_within) fun _ _ _ _ _ _ us hl => match us, hl with | [_], _ => rfl
  have F_read_through := fun_mk (st := s_read_through) l_read_through c_read_through k_read_through
  have b_read_through := F_read_through.binds (ps := ps_read_through) fun _ _ _ _ _ _ us hl => match us, hl with | [_], _ => rfl
  have F_rows_of := fun_mk (st := s_rows_of) l_rows_of c_rows_of k_rows_of
  have b_rows_of := F_rows_of.binds (ps := ps_rows_of) fun _ _ _ _ _ _ us hl => match us, hl with | [_], _ => rfl
  have F_deed_of := fun_mk (st := s_deed_of) l_deed_of c_deed_of k_deed_of
  have b_deed_of := F_deed_of.binds (ps := ps_deed_of) fun _ _ _ _ _ _ us hl => match us, hl with | [_, _], _ => rfl
  have F_look_at_names := fun_mk (st := s_look_at_names) l_look_at_names c_look_at_names k_look_at_names
  have b_look_at_names := F_look_at_names.binds (ps := ps_look_at_names) fun _ _ _ _ _ _ us hl => match us, hl with | [_], _ => rfl
  have F_look_at_call := fun_mk (st := s_look_at_call) l_look_at_call c_look_at_call k_look_at_call
  have b_look_at_call := F_look_at_call.binds (ps := ps_look_at_call) fun _ _ _ _ _ _ us hl => match us, hl with | [_, _, _], _ => rfl
  have F_made_book := fun_mk (st := s_made_book) l_made_book c_made_book k_made_book
  have b_made_book := F_made_book.binds (ps := ps_made_book) fun _ _ _ _ _ _ us hl => match us, hl with | [_], _ => rfl
  have F_Running___init__ := fun_mk (st := s_Running___init__) l_Running___init__ c_Running___init__ k_Running___init__
  have b_Running___init__ := F_Running___init__.binds (ps := ps_Running___init__) fun _ _ _ _ _ _ us hl => match us, hl with | [_, _], _ => rfl
  have F_Running_begin_round := fun_mk (st := s_Running_begin_round) l_Running_begin_round c_Running_begin_round k_Running_begin_round
  have b_Running_begin_round := F_Running_begin_round.binds (ps := ps_Running_begin_round) fun _ _ _ _ _ _ us hl => match us, hl with | [_], _ => rfl
  have F_Running_make_call := fun_mk (st := s_Running_make_call) l_Running_make_call c_Running_make_call k_Running_make_call
  have b_Running_make_call := F_Running_make_call.binds (ps := ps_Running_make_call) fun _ _ _ _ _ _ us hl => match us, hl with | [_, _], _ => rfl
  have F_Running_done_deed := fun_mk (st := s_Running_done_deed) l_Running_done_deed c_Running_done_deed k_Running_done_deed
  have b_Running_done_deed := F_Running_done_deed.binds (ps := ps_Running_done_deed) fun _ _ _ _ _ _ us hl => match us, hl with | [_, _, _], _ => rfl
  have F_Running_do_rows := fun_mk (st := s_Running_do_rows) l_Running_do_rows c_Running_do_rows k_Running_do_rows
  have b_Running_do_rows := F_Running_do_rows.binds (ps := ps_Running_do_rows) fun _ _ _ _ _ _ us hl => match us, hl with | [_, _, _], _ => rfl
  have F_Running_do_call := fun_mk (st := s_Running_do_call) l_Running_do_call c_Running_do_call k_Running_do_call
  have b_Running_do_call := F_Running_do_call.binds (ps := ps_Running_do_call) fun _ _ _ _ _ _ us hl => match us, hl with | [_, _, _], _ => rfl
  have F_Running_do_when := fun_mk (st := s_Running_do_when) l_Running_do_when c_Running_do_when k_Running_do_when
  have b_Running_do_when := F_Running_do_when.binds (ps := ps_Running_do_when) fun _ _ _ _ _ _ us hl => match us, hl with | [_, _, _], _ => rfl
  have F_Running_do_turn := fun_mk (st := s_Running_do_turn) l_Running_do_turn c_Running_do_turn k_Running_do_turn
  have b_Running_do_turn := F_Running_do_turn.binds (ps := ps_Running_do_turn) fun _ _ _ _ _ _ us hl => match us, hl with | [_, _, _], _ => rfl
  have F_rising_counts := fun_mk (st := s_rising_counts) l_rising_counts c_rising_counts k_rising_counts
  have b_rising_counts := F_rising_counts.binds (ps := ps_rising_counts) fun _ _ _ _ _ _ us hl => match us, hl with | [_], _ => rfl
  have F_ran_ways := fun_mk (st := s_ran_ways) l_ran_ways c_ran_ways k_ran_ways
  have b_ran_ways := F_ran_ways.binds (ps := ps_ran_ways) fun _ _ _ _ _ _ us hl => match us, hl with | [_, _], _ => rfl
  have F_run_book := fun_mk (st := s_run_book) l_run_book c_run_book k_run_book
  have b_run_book := F_run_book.binds (ps := ps_run_book) fun _ _ _ _ _ _ us hl => match us, hl with | [_, _], _ => rfl
  have F__law_pot := fun_mk (st := s__law_pot) l__law_pot c__law_pot k__law_pot
  have b__law_pot := F__law_pot.binds (ps := ps__law_pot) fun _ _ _ _ _ _ us hl => match us, hl with | [_, _], _ => rfl
  have F__law_take := fun_mk (st := s__law_take) l__law_take c__law_take k__law_take
  have b__law_take := F__law_take.binds (ps := ps__law_take) fun _ _ _ _ _ _ us hl => match us, hl with | [_, _], _ => rfl
  have F__law_value := fun_mk (st := s__law_value) l__law_value c__law_value k__law_value
  have b__law_value := F__law_value.binds (ps := ps__law_value) fun _ _ _ _ _ _ us hl => match us, hl with | [_], _ => rfl
  have F__law_kind_right := fun_mk (st := s__law_kind_right) l__law_kind_right c__law_kind_right k__law_kind_right
  have b__law_kind_right := F__law_kind_right.binds (ps := ps__law_kind_right) fun _ _ _ _ _ _ us hl => match us, hl with | [_], _ => rfl
  have F__law_due := fun_mk (st := s__law_due) l__law_due c__law_due k__law_due
  have b__law_due := F__law_due.binds (ps := ps__law_due) fun _ _ _ _ _ _ us hl => match us, hl with | [_, _, _, _, _], _ => rfl
  have F_law := fun_mk (st := s_law) l_law c_law k_law
  have b_law := F_law.binds (ps := ps_law) fun _ _ _ _ _ _ us hl => match us, hl with | [_], _ => rfl
  have tab : ∀ (base : Heap) (n : Nat), Tab P w K mg base (phi PR n) (n + 2) := fun base n => by
    induction n with
    | zero => exact ⟨fn_zero k_joined_worth (PySem.W.mg_of X G a_joined_worth) b_joined_worth, fn_zero k_worth_of (PySem.W.mg_of X G a_worth_of) b_worth_of, fn_zero k_rows_within (PySem.W.mg_of X G a_rows_within) b_rows_within, fn_zero k_read_through (PySem.W.mg_of X G a_read_through) b_read_through, fn_zero k_rows_of (PySem.W.mg_of X G a_rows_of) b_rows_of, fn_zero k_deed_of (PySem.W.mg_of X G a_deed_of) b_deed_of, fn_zero k_look_at_names (PySem.W.mg_of X G a_look_at_names) b_look_at_names, fn_zero k_look_at_call (PySem.W.mg_of X G a_look_at_call) b_look_at_call, fn_zero k_made_book (PySem.W.mg_of X G a_made_book) b_made_book, mk_zero ga_Running (PySem.W.mg_of X G ga_Running) ⟨mk_Running, a_Running___init__, i_Running___init__, kc_Running⟩ b_Running___init__, mt_zero ga_Running ⟨a_Running_begin_round, i_Running_begin_round, k_Running_begin_round⟩ b_Running_begin_round, mt_zero ga_Running ⟨a_Running_make_call, i_Running_make_call, k_Running_make_call⟩ b_Running_make_call, mt_zero ga_Running ⟨a_Running_done_deed, i_Running_done_deed, k_Running_done_deed⟩ b_Running_done_deed, mt_zero ga_Running ⟨a_Running_do_rows, i_Running_do_rows, k_Running_do_rows⟩ b_Running_do_rows, mt_zero ga_Running ⟨a_Running_do_call, i_Running_do_call, k_Running_do_call⟩ b_Running_do_call, mt_zero ga_Running ⟨a_Running_do_when, i_Running_do_when, k_Running_do_when⟩ b_Running_do_when, mt_zero ga_Running ⟨a_Running_do_turn, i_Running_do_turn, k_Running_do_turn⟩ b_Running_do_turn, fn_zero k_rising_counts (PySem.W.mg_of X G a_rising_counts) b_rising_counts, fn_zero k_ran_ways (PySem.W.mg_of X G a_ran_ways) b_ran_ways, fn_zero k_run_book (PySem.W.mg_of X G a_run_book) b_run_book, fn_zero k__law_pot (PySem.W.mg_of X G a__law_pot) b__law_pot, fn_zero k__law_take (PySem.W.mg_of X G a__law_take) b__law_take, fn_zero k__law_value (PySem.W.mg_of X G a__law_value) b__law_value, fn_zero k__law_kind_right (PySem.W.mg_of X G a__law_kind_right) b__law_kind_right, fn_zero k__law_due (PySem.W.mg_of X G a__law_due) b__law_due, fn_zero k_law (PySem.W.mg_of X G a_law) b_law⟩
    | succ n ih => exact ⟨fn_ok F_joined_worth (PySem.W.mg_of X G a_joined_worth) b_joined_worth sc_joined_worth pr_joined_worth rfl rfl fun cdv A outer s H E hr => Mi.k18.b_joined_worth T ih cdv A outer s H E hr,
      fn_ok F_worth_of (PySem.W.mg_of X G a_worth_of) b_worth_of sc_worth_of pr_worth_of rfl rfl fun cdv A outer s H E hr => Mi.k18.b_worth_of T ih cdv A outer s H E hr,
      fn_ok F_rows_within (PySem.W.mg_of X G a_rows_within) b_rows_within sc_rows_within pr_rows_within rfl rfl fun cdv A outer s H E hr => Mi.k18.b_rows_within T ih cdv A outer s H E hr,
      fn_ok F_read_through (PySem.W.mg_of X G a_read_through) b_read_through sc_read_through pr_read_through rfl rfl fun cdv A outer s H E hr => Mi.k18.b_read_through T ih cdv A outer s H E hr,
      fn_ok F_rows_of (PySem.W.mg_of X G a_rows_of) b_rows_of sc_rows_of pr_rows_of rfl rfl fun cdv A outer s H E hr => Mi.k18.b_rows_of T ih cdv A outer s H E hr,
      fn_ok F_deed_of (PySem.W.mg_of X G a_deed_of) b_deed_of sc_deed_of pr_deed_of rfl rfl fun cdv A outer s H E hr => Mi.k18.b_deed_of T ih cdv A outer s H E hr,
      fn_ok F_look_at_names (PySem.W.mg_of X G a_look_at_names) b_look_at_names sc_look_at_names pr_look_at_names rfl rfl fun cdv A outer s H E hr => Mi.k18.b_look_at_names T ih cdv A outer s H E hr,
      fn_ok F_look_at_call (PySem.W.mg_of X G a_look_at_call) b_look_at_call sc_look_at_call pr_look_at_call rfl rfl fun cdv A outer s H E hr => Mi.k18.b_look_at_call T ih cdv A outer s H E hr,
      fn_ok F_made_book (PySem.W.mg_of X G a_made_book) b_made_book sc_made_book pr_made_book rfl rfl fun cdv A outer s H E hr => Mi.k18.b_made_book T ih cdv A outer s H E hr,
      mk_ok (k := 0) F_Running___init__ ga_Running (PySem.W.mg_of X G ga_Running) ⟨mk_Running, a_Running___init__, i_Running___init__, kc_Running⟩ b_Running___init__ sc_Running___init__ pr_Running___init__ rfl rfl fun cdv A outer s H E hr => Mi.k18.b_Running___init__ T cdv A outer s H E hr,
      mt_ok F_Running_begin_round ga_Running ⟨a_Running_begin_round, i_Running_begin_round, k_Running_begin_round⟩ b_Running_begin_round sc_Running_begin_round pr_Running_begin_round rfl rfl fun cdv A outer s H E hr => Mi.k18.b_Running_begin_round T ih cdv A outer s H E hr,
      mt_ok F_Running_make_call ga_Running ⟨a_Running_make_call, i_Running_make_call, k_Running_make_call⟩ b_Running_make_call sc_Running_make_call pr_Running_make_call rfl rfl fun cdv A outer s H E hr => Mi.k18.b_Running_make_call T ih cdv A outer s H E hr,
      mt_ok F_Running_done_deed ga_Running ⟨a_Running_done_deed, i_Running_done_deed, k_Running_done_deed⟩ b_Running_done_deed sc_Running_done_deed pr_Running_done_deed rfl rfl fun cdv A outer s H E hr => Mi.k18.b_Running_done_deed T ih cdv A outer s H E hr,
      mt_ok F_Running_do_rows ga_Running ⟨a_Running_do_rows, i_Running_do_rows, k_Running_do_rows⟩ b_Running_do_rows sc_Running_do_rows pr_Running_do_rows rfl rfl fun cdv A outer s H E hr => Mi.k18.b_Running_do_rows T ih cdv A outer s H E hr,
      mt_ok F_Running_do_call ga_Running ⟨a_Running_do_call, i_Running_do_call, k_Running_do_call⟩ b_Running_do_call sc_Running_do_call pr_Running_do_call rfl rfl fun cdv A outer s H E hr => Mi.k18.b_Running_do_call T ih cdv A outer s H E hr,
      mt_ok F_Running_do_when ga_Running ⟨a_Running_do_when, i_Running_do_when, k_Running_do_when⟩ b_Running_do_when sc_Running_do_when pr_Running_do_when rfl rfl fun cdv A outer s H E hr => Mi.k18.b_Running_do_when T ih cdv A outer s H E hr,
      mt_ok F_Running_do_turn ga_Running ⟨a_Running_do_turn, i_Running_do_turn, k_Running_do_turn⟩ b_Running_do_turn sc_Running_do_turn pr_Running_do_turn rfl rfl fun cdv A outer s H E hr => Mi.k18.b_Running_do_turn T ih cdv A outer s H E hr,
      fn_ok F_rising_counts (PySem.W.mg_of X G a_rising_counts) b_rising_counts sc_rising_counts pr_rising_counts rfl rfl fun cdv A outer s H E hr => Mi.k18.b_rising_counts T ih cdv A outer s H E hr,
      fn_ok F_ran_ways (PySem.W.mg_of X G a_ran_ways) b_ran_ways sc_ran_ways pr_ran_ways rfl rfl fun cdv A outer s H E hr => Mi.k18.b_ran_ways T ih (Nat.le_add_left _ _) cdv A outer s H E hr,
      fn_ok F_run_book (PySem.W.mg_of X G a_run_book) b_run_book sc_run_book pr_run_book rfl rfl fun cdv A outer s H E hr => Mi.k18.b_run_book T ih cdv A outer s H E hr,
      fn_ok F__law_pot (PySem.W.mg_of X G a__law_pot) b__law_pot sc__law_pot pr__law_pot rfl rfl fun cdv A outer s H E hr => Mi.k18.b__law_pot T ih cdv A outer s H E hr,
      fn_ok F__law_take (PySem.W.mg_of X G a__law_take) b__law_take sc__law_take pr__law_take rfl rfl fun cdv A outer s H E hr => Mi.k18.b__law_take T ih cdv A outer s H E hr,
      fn_ok F__law_value (PySem.W.mg_of X G a__law_value) b__law_value sc__law_value pr__law_value rfl rfl fun cdv A outer s H E hr => Mi.k18.b__law_value T ih cdv A outer s H E hr,
      fn_ok F__law_kind_right (PySem.W.mg_of X G a__law_kind_right) b__law_kind_right sc__law_kind_right pr__law_kind_right rfl rfl fun cdv A outer s H E hr => Mi.k18.b__law_kind_right T ih cdv A outer s H E hr,
      fn_ok F__law_due (PySem.W.mg_of X G a__law_due) b__law_due sc__law_due pr__law_due rfl rfl fun cdv A outer s H E hr => Mi.k18.b__law_due T ih cdv A outer s H E hr,
      fn_ok F_law (PySem.W.mg_of X G a_law) b_law sc_law pr_law rfl rfl fun cdv A outer s H E hr => Mi.k18.b_law T ih cdv A outer s H E hr⟩
  exact ⟨_, fun s v => .of_eq rfl, fun base _ _ => (fn_okk F_law sc_law pr_law rfl rfl fun cdv A outer s H E hr => Mi.k18.b_law T (tab base depth) cdv A outer s H E hr).imp fun vs H Q E q => law_sp (phi_mono PR (depth + 1)) law_pure vs H Q E q⟩
end Mi.k18
open PySem PySem.W PyProof.Rows
set_option maxRecDepth 100000 in
set_option maxHeartbeats 0 in
theorem PySem.Challenge.cw_callfold_k18_whens_and_turns_holds : PySem.Challenge.rw_callfold_k18_whens_and_turns.Holds := by
  w_on; o_law; k_head; (case hw => w_witness2)
  k_fill
  refine Mi.law_walk (l := PySem.Challenge.rw_callfold_k18_whens_and_turns) (k := Mi.k18.depth + 3) rfl rfl ⟨rfl, by decide, by decide⟩ (fun w h Y => PySem.W.kIn_of Y) ?F
  case F =>
    intro w mg fa h KX G hmg
    refine' Mi.k18.all_mk KX G hmg ?ga_Running ?pg_Running ?hd_Running ?po_Running ?sa_Running ?mk_Running ?kc_Running ?no_Running_book ?no_Running_said ?no_Running_begun_rows ?no_Running_begun_rounds ?no_Running_made_calls ?no_Running_counts ?no_Running_way ?no_Running_ways ?a_joined_worth ?l_joined_worth ?c_joined_worth ?k_joined_worth ?a_worth_of ?l_worth_of ?c_worth_of ?k_worth_of ?a_rows_within ?l_rows_within ?c_rows_within ?k_rows_within ?a_read_through ?l_read_through ?c_read_through ?k_read_through ?a_rows_of ?l_rows_of ?c_rows_of ?k_rows_of ?a_deed_of ?l_deed_of ?c_deed_of ?k_deed_of ?a_look_at_names ?l_look_at_names ?c_look_at_names ?k_look_at_names ?a_look_at_call ?l_look_at_call ?c_look_at_call ?k_look_at_call ?a_made_book ?l_made_book ?c_made_book ?k_made_book ?a_Running___init__ ?i_Running___init__ ?l_Running___init__ ?c_Running___init__ ?k_Running___init__ ?a_Running_begin_round ?i_Running_begin_round ?l_Running_begin_round ?c_Running_begin_round ?k_Running_begin_round ?a_Running_make_call ?i_Running_make_call ?l_Running_make_call ?c_Running_make_call ?k_Running_make_call ?a_Running_done_deed ?i_Running_done_deed ?l_Running_done_deed ?c_Running_done_deed ?k_Running_done_deed ?a_Running_do_rows ?i_Running_do_rows ?l_Running_do_rows ?c_Running_do_rows ?k_Running_do_rows ?a_Running_do_call ?i_Running_do_call ?l_Running_do_call ?c_Running_do_call ?k_Running_do_call ?a_Running_do_when ?i_Running_do_when ?l_Running_do_when ?c_Running_do_when ?k_Running_do_when ?a_Running_do_turn ?i_Running_do_turn ?l_Running_do_turn ?c_Running_do_turn ?k_Running_do_turn ?a_rising_counts ?l_rising_counts ?c_rising_counts ?k_rising_counts ?a_ran_ways ?l_ran_ways ?c_ran_ways ?k_ran_ways ?a_run_book ?l_run_book ?c_run_book ?k_run_book ?a__law_pot ?l__law_pot ?c__law_pot ?k__law_pot ?a__law_take ?l__law_take ?c__law_take ?k__law_take ?a__law_value ?l__law_value ?c__law_value ?k__law_value ?a__law_kind_right ?l__law_kind_right ?c__law_kind_right ?k__law_kind_right ?a__law_due ?l__law_due ?c__law_due ?k__law_due ?a_law ?l_law ?c_law ?k_law ?n_all ?n_bool ?n_dict ?n_enumerate ?n_int ?n_isinstance ?n_len ?n_list ?n_range ?n_set ?n_sorted ?n_tuple ?n_zip ?v_MOST_CALLS ?v_MOST_DEEP ?v_MOST_ROUNDS ?v_VALUES ?ga_FoldError ?gb_FoldError ?gi_FoldError ?gt_FoldError ?ga_Twice ?gb_Twice ?gi_Twice ?gt_Twice ?ga_NoDeed ?gb_NoDeed ?gi_NoDeed ?gt_NoDeed ?ga_WrongCount ?gb_WrongCount ?gi_WrongCount ?gt_WrongCount ?ga_TooDeep ?gb_TooDeep ?gi_TooDeep ?gt_TooDeep ?ga_TooLong ?gb_TooLong ?gi_TooLong ?gt_TooLong ?ga_Broken ?gb_Broken ?gi_Broken ?gt_Broken ?yn ?yt ?na_TooBig ?na_NoCall ?na_NoMark ?na_TooMany ?na_Called ?na_NoWay ?na_NoRow ?na_NoBack ?na_Ringed ?na_BadRun ?na_NoText ?xe_Broken ?xk_Broken ?yg_Broken ?yk_Broken ?yd_Broken ?ya_Broken ?ym_Broken ?kv_Broken ?kq_Broken_FoldError ?kq_Broken_Twice ?kq_Broken_NoDeed ?kq_Broken_WrongCount ?kq_Broken_TooDeep ?kq_Broken_TooLong ?kq_Broken_Broken ?xs_Broken_FoldError ?xs_Broken_Twice ?xs_Broken_NoDeed ?xs_Broken_WrongCount ?xs_Broken_TooDeep ?xs_Broken_TooLong ?xs_Broken_Broken ?xe_NoDeed ?xk_NoDeed ?yg_NoDeed ?yk_NoDeed ?yd_NoDeed ?ya_NoDeed ?ym_NoDeed ?kv_NoDeed ?kq_NoDeed_FoldError ?kq_NoDeed_Twice ?kq_NoDeed_NoDeed ?kq_NoDeed_WrongCount ?kq_NoDeed_TooDeep ?kq_NoDeed_TooLong ?kq_NoDeed_Broken ?xs_NoDeed_FoldError ?xs_NoDeed_Twice ?xs_NoDeed_NoDeed ?xs_NoDeed_WrongCount ?xs_NoDeed_TooDeep ?xs_NoDeed_TooLong ?xs_NoDeed_Broken ?xe_TooDeep ?xk_TooDeep ?yg_TooDeep ?yk_TooDeep ?yd_TooDeep ?ya_TooDeep ?ym_TooDeep ?kv_TooDeep ?kq_TooDeep_FoldError ?kq_TooDeep_Twice ?kq_TooDeep_NoDeed ?kq_TooDeep_WrongCount ?kq_TooDeep_TooDeep ?kq_TooDeep_TooLong ?kq_TooDeep_Broken ?xs_TooDeep_FoldError ?xs_TooDeep_Twice ?xs_TooDeep_NoDeed ?xs_TooDeep_WrongCount ?xs_TooDeep_TooDeep ?xs_TooDeep_TooLong ?xs_TooDeep_Broken ?xe_TooLong ?xk_TooLong ?yg_TooLong ?yk_TooLong ?yd_TooLong ?ya_TooLong ?ym_TooLong ?kv_TooLong ?kq_TooLong_FoldError ?kq_TooLong_Twice ?kq_TooLong_NoDeed ?kq_TooLong_WrongCount ?kq_TooLong_TooDeep ?kq_TooLong_TooLong ?kq_TooLong_Broken ?xs_TooLong_FoldError ?xs_TooLong_Twice ?xs_TooLong_NoDeed ?xs_TooLong_WrongCount ?xs_TooLong_TooDeep ?xs_TooLong_TooLong ?xs_TooLong_Broken ?xe_Twice ?xk_Twice ?yg_Twice ?yk_Twice ?yd_Twice ?ya_Twice ?ym_Twice ?kv_Twice ?kq_Twice_FoldError ?kq_Twice_Twice ?kq_Twice_NoDeed ?kq_Twice_WrongCount ?kq_Twice_TooDeep ?kq_Twice_TooLong ?kq_Twice_Broken ?xs_Twice_FoldError ?xs_Twice_Twice ?xs_Twice_NoDeed ?xs_Twice_WrongCount ?xs_Twice_TooDeep ?xs_Twice_TooLong ?xs_Twice_Broken ?xe_WrongCount ?xk_WrongCount ?yg_WrongCount ?yk_WrongCount ?yd_WrongCount ?ya_WrongCount ?ym_WrongCount ?kv_WrongCount ?kq_WrongCount_FoldError ?kq_WrongCount_Twice ?kq_WrongCount_NoDeed ?kq_WrongCount_WrongCount ?kq_WrongCount_TooDeep ?kq_WrongCount_TooLong ?kq_WrongCount_Broken ?xs_WrongCount_FoldError ?xs_WrongCount_Twice ?xs_WrongCount_NoDeed ?xs_WrongCount_WrongCount ?xs_WrongCount_TooDeep ?xs_WrongCount_TooLong ?xs_WrongCount_Broken
    (case ga_Running => k_is)
    (case pg_Running => k_is)
    (case hd_Running => k_is)
    (case po_Running => k_is)
    (case sa_Running => k_is)
    (case mk_Running => k_is)
    (case kc_Running => k_is)
    (case no_Running_book => k_is)
    (case no_Running_said => k_is)
    (case no_Running_begun_rows => k_is)
    (case no_Running_begun_rounds => k_is)
    (case no_Running_made_calls => k_is)
    (case no_Running_counts => k_is)
    (case no_Running_way => k_is)
    (case no_Running_ways => k_is)
    (case a_joined_worth => k_is)
    (case l_joined_worth => k_is)
    (case c_joined_worth => k_is)
    (case k_joined_worth => k_is)
    (case a_worth_of => k_is)
    (case l_worth_of => k_is)
    (case c_worth_of => k_is)
    (case k_worth_of => k_is)
    (case a_rows_within => k_is)
    (case l_rows_within => k_is)
    (case c_rows_within => k_is)
    (case k_rows_within => k_is)
    (case a_read_through => k_is)
    (case l_read_through => k_is)
    (case c_read_through => k_is)
    (case k_read_through => k_is)
    (case a_rows_of => k_is)
    (case l_rows_of => k_is)
    (case c_rows_of => k_is)
    (case k_rows_of => k_is)
    (case a_deed_of => k_is)
    (case l_deed_of => k_is)
    (case c_deed_of => k_is)
    (case k_deed_of => k_is)
    (case a_look_at_names => k_is)
    (case l_look_at_names => k_is)
    (case c_look_at_names => k_is)
    (case k_look_at_names => k_is)
    (case a_look_at_call => k_is)
    (case l_look_at_call => k_is)
    (case c_look_at_call => k_is)
    (case k_look_at_call => k_is)
    (case a_made_book => k_is)
    (case l_made_book => k_is)
    (case c_made_book => k_is)
    (case k_made_book => k_is)
    (case a_Running___init__ => k_is)
    (case i_Running___init__ => k_is)
    (case l_Running___init__ => k_is)
    (case c_Running___init__ => k_is)
    (case k_Running___init__ => k_is)
    (case a_Running_begin_round => k_is)
    (case i_Running_begin_round => k_is)
    (case l_Running_begin_round => k_is)
    (case c_Running_begin_round => k_is)
    (case k_Running_begin_round => k_is)
    (case a_Running_make_call => k_is)
    (case i_Running_make_call => k_is)
    (case l_Running_make_call => k_is)
    (case c_Running_make_call => k_is)
    (case k_Running_make_call => k_is)
    (case a_Running_done_deed => k_is)
    (case i_Running_done_deed => k_is)
    (case l_Running_done_deed => k_is)
    (case c_Running_done_deed => k_is)
    (case k_Running_done_deed => k_is)
    (case a_Running_do_rows => k_is)
    (case i_Running_do_rows => k_is)
    (case l_Running_do_rows => k_is)
    (case c_Running_do_rows => k_is)
    (case k_Running_do_rows => k_is)
    (case a_Running_do_call => k_is)
    (case i_Running_do_call => k_is)
    (case l_Running_do_call => k_is)
    (case c_Running_do_call => k_is)
    (case k_Running_do_call => k_is)
    (case a_Running_do_when => k_is)
    (case i_Running_do_when => k_is)
    (case l_Running_do_when => k_is)
    (case c_Running_do_when => k_is)
    (case k_Running_do_when => k_is)
    (case a_Running_do_turn => k_is)
    (case i_Running_do_turn => k_is)
    (case l_Running_do_turn => k_is)
    (case c_Running_do_turn => k_is)
    (case k_Running_do_turn => k_is)
    (case a_rising_counts => k_is)
    (case l_rising_counts => k_is)
    (case c_rising_counts => k_is)
    (case k_rising_counts => k_is)
    (case a_ran_ways => k_is)
    (case l_ran_ways => k_is)
    (case c_ran_ways => k_is)
    (case k_ran_ways => k_is)
    (case a_run_book => k_is)
    (case l_run_book => k_is)
    (case c_run_book => k_is)
    (case k_run_book => k_is)
    (case a__law_pot => k_is)
    (case l__law_pot => k_is)
    (case c__law_pot => k_is)
    (case k__law_pot => k_is)
    (case a__law_take => k_is)
    (case l__law_take => k_is)
    (case c__law_take => k_is)
    (case k__law_take => k_is)
    (case a__law_value => k_is)
    (case l__law_value => k_is)
    (case c__law_value => k_is)
    (case k__law_value => k_is)
    (case a__law_kind_right => k_is)
    (case l__law_kind_right => k_is)
    (case c__law_kind_right => k_is)
    (case k__law_kind_right => k_is)
    (case a__law_due => k_is)
    (case l__law_due => k_is)
    (case c__law_due => k_is)
    (case k__law_due => k_is)
    (case a_law => k_is)
    (case l_law => k_is)
    (case c_law => k_is)
    (case k_law => k_is)
    (case n_all => k_is)
    (case n_bool => k_is)
    (case n_dict => k_is)
    (case n_enumerate => k_is)
    (case n_int => k_is)
    (case n_isinstance => k_is)
    (case n_len => k_is)
    (case n_list => k_is)
    (case n_range => k_is)
    (case n_set => k_is)
    (case n_sorted => k_is)
    (case n_tuple => k_is)
    (case n_zip => k_is)
    (case v_MOST_CALLS => k_is)
    (case v_MOST_DEEP => k_is)
    (case v_MOST_ROUNDS => k_is)
    (case v_VALUES => k_is)
    (case ga_FoldError => k_is)
    (case gb_FoldError => k_is)
    (case gi_FoldError => k_is)
    (case gt_FoldError => k_is)
    (case ga_Twice => k_is)
    (case gb_Twice => k_is)
    (case gi_Twice => k_is)
    (case gt_Twice => k_is)
    (case ga_NoDeed => k_is)
    (case gb_NoDeed => k_is)
    (case gi_NoDeed => k_is)
    (case gt_NoDeed => k_is)
    (case ga_WrongCount => k_is)
    (case gb_WrongCount => k_is)
    (case gi_WrongCount => k_is)
    (case gt_WrongCount => k_is)
    (case ga_TooDeep => k_is)
    (case gb_TooDeep => k_is)
    (case gi_TooDeep => k_is)
    (case gt_TooDeep => k_is)
    (case ga_TooLong => k_is)
    (case gb_TooLong => k_is)
    (case gi_TooLong => k_is)
    (case gt_TooLong => k_is)
    (case ga_Broken => k_is)
    (case gb_Broken => k_is)
    (case gi_Broken => k_is)
    (case gt_Broken => k_is)
    (case yn => k_is)
    (case yt => k_is)
    (case na_TooBig => k_is)
    (case na_NoCall => k_is)
    (case na_NoMark => k_is)
    (case na_TooMany => k_is)
    (case na_Called => k_is)
    (case na_NoWay => k_is)
    (case na_NoRow => k_is)
    (case na_NoBack => k_is)
    (case na_Ringed => k_is)
    (case na_BadRun => k_is)
    (case na_NoText => k_is)
    (case xe_Broken => k_exc)
    (case xk_Broken => k_is)
    (case yg_Broken => k_is)
    (case yk_Broken => k_is)
    (case yd_Broken => k_is)
    (case ya_Broken => k_is)
    (case ym_Broken => k_is)
    (case kv_Broken => kit_is)
    (case kq_Broken_FoldError => first | kit_is | rfl)
    (case kq_Broken_Twice => first | kit_is | rfl)
    (case kq_Broken_NoDeed => first | kit_is | rfl)
    (case kq_Broken_WrongCount => first | kit_is | rfl)
    (case kq_Broken_TooDeep => first | kit_is | rfl)
    (case kq_Broken_TooLong => first | kit_is | rfl)
    (case kq_Broken_Broken => first | kit_is | rfl)
    (case xs_Broken_FoldError => k_is)
    (case xs_Broken_Twice => k_is)
    (case xs_Broken_NoDeed => k_is)
    (case xs_Broken_WrongCount => k_is)
    (case xs_Broken_TooDeep => k_is)
    (case xs_Broken_TooLong => k_is)
    (case xs_Broken_Broken => first | rfl | k_is)
    (case xe_NoDeed => k_exc)
    (case xk_NoDeed => k_is)
    (case yg_NoDeed => k_is)
    (case yk_NoDeed => k_is)
    (case yd_NoDeed => k_is)
    (case ya_NoDeed => k_is)
    (case ym_NoDeed => k_is)
    (case kv_NoDeed => kit_is)
    (case kq_NoDeed_FoldError => first | kit_is | rfl)
    (case kq_NoDeed_Twice => first | kit_is | rfl)
    (case kq_NoDeed_NoDeed => first | kit_is | rfl)
    (case kq_NoDeed_WrongCount => first | kit_is | rfl)
    (case kq_NoDeed_TooDeep => first | kit_is | rfl)
    (case kq_NoDeed_TooLong => first | kit_is | rfl)
    (case kq_NoDeed_Broken => first | kit_is | rfl)
    (case xs_NoDeed_FoldError => k_is)
    (case xs_NoDeed_Twice => k_is)
    (case xs_NoDeed_NoDeed => first | rfl | k_is)
    (case xs_NoDeed_WrongCount => k_is)
    (case xs_NoDeed_TooDeep => k_is)
    (case xs_NoDeed_TooLong => k_is)
    (case xs_NoDeed_Broken => k_is)
    (case xe_TooDeep => k_exc)
    (case xk_TooDeep => k_is)
    (case yg_TooDeep => k_is)
    (case yk_TooDeep => k_is)
    (case yd_TooDeep => k_is)
    (case ya_TooDeep => k_is)
    (case ym_TooDeep => k_is)
    (case kv_TooDeep => kit_is)
    (case kq_TooDeep_FoldError => first | kit_is | rfl)
    (case kq_TooDeep_Twice => first | kit_is | rfl)
    (case kq_TooDeep_NoDeed => first | kit_is | rfl)
    (case kq_TooDeep_WrongCount => first | kit_is | rfl)
    (case kq_TooDeep_TooDeep => first | kit_is | rfl)
    (case kq_TooDeep_TooLong => first | kit_is | rfl)
    (case kq_TooDeep_Broken => first | kit_is | rfl)
    (case xs_TooDeep_FoldError => k_is)
    (case xs_TooDeep_Twice => k_is)
    (case xs_TooDeep_NoDeed => k_is)
    (case xs_TooDeep_WrongCount => k_is)
    (case xs_TooDeep_TooDeep => first | rfl | k_is)
    (case xs_TooDeep_TooLong => k_is)
    (case xs_TooDeep_Broken => k_is)
    (case xe_TooLong => k_exc)
    (case xk_TooLong => k_is)
    (case yg_TooLong => k_is)
    (case yk_TooLong => k_is)
    (case yd_TooLong => k_is)
    (case ya_TooLong => k_is)
    (case ym_TooLong => k_is)
    (case kv_TooLong => kit_is)
    (case kq_TooLong_FoldError => first | kit_is | rfl)
    (case kq_TooLong_Twice => first | kit_is | rfl)
    (case kq_TooLong_NoDeed => first | kit_is | rfl)
    (case kq_TooLong_WrongCount => first | kit_is | rfl)
    (case kq_TooLong_TooDeep => first | kit_is | rfl)
    (case kq_TooLong_TooLong => first | kit_is | rfl)
    (case kq_TooLong_Broken => first | kit_is | rfl)
    (case xs_TooLong_FoldError => k_is)
    (case xs_TooLong_Twice => k_is)
    (case xs_TooLong_NoDeed => k_is)
    (case xs_TooLong_WrongCount => k_is)
    (case xs_TooLong_TooDeep => k_is)
    (case xs_TooLong_TooLong => first | rfl | k_is)
    (case xs_TooLong_Broken => k_is)
    (case xe_Twice => k_exc)
    (case xk_Twice => k_is)
    (case yg_Twice => k_is)
    (case yk_Twice => k_is)
    (case yd_Twice => k_is)
    (case ya_Twice => k_is)
    (case ym_Twice => k_is)
    (case kv_Twice => kit_is)
    (case kq_Twice_FoldError => first | kit_is | rfl)
    (case kq_Twice_Twice => first | kit_is | rfl)
    (case kq_Twice_NoDeed => first | kit_is | rfl)
    (case kq_Twice_WrongCount => first | kit_is | rfl)
    (case kq_Twice_TooDeep => first | kit_is | rfl)
    (case kq_Twice_TooLong => first | kit_is | rfl)
    (case kq_Twice_Broken => first | kit_is | rfl)
    (case xs_Twice_FoldError => k_is)
    (case xs_Twice_Twice => first | rfl | k_is)
    (case xs_Twice_NoDeed => k_is)
    (case xs_Twice_WrongCount => k_is)
    (case xs_Twice_TooDeep => k_is)
    (case xs_Twice_TooLong => k_is)
    (case xs_Twice_Broken => k_is)
    (case xe_WrongCount => k_exc)
    (case xk_WrongCount => k_is)
    (case yg_WrongCount => k_is)
    (case yk_WrongCount => k_is)
    (case yd_WrongCount => k_is)
    (case ya_WrongCount => k_is)
    (case ym_WrongCount => k_is)
    (case kv_WrongCount => kit_is)
    (case kq_WrongCount_FoldError => first | kit_is | rfl)
    (case kq_WrongCount_Twice => first | kit_is | rfl)
    (case kq_WrongCount_NoDeed => first | kit_is | rfl)
    (case kq_WrongCount_WrongCount => first | kit_is | rfl)
    (case kq_WrongCount_TooDeep => first | kit_is | rfl)
    (case kq_WrongCount_TooLong => first | kit_is | rfl)
    (case kq_WrongCount_Broken => first | kit_is | rfl)
    (case xs_WrongCount_FoldError => k_is)
    (case xs_WrongCount_Twice => k_is)
    (case xs_WrongCount_NoDeed => k_is)
    (case xs_WrongCount_WrongCount => first | rfl | k_is)
    (case xs_WrongCount_TooDeep => k_is)
    (case xs_WrongCount_TooLong => k_is)
    (case xs_WrongCount_Broken => k_is)
#print axioms PySem.Challenge.cw_callfold_k18_whens_and_turns_holds
