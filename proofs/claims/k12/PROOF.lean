import PyProof.Rows.All
import PySem.Str
import HandS.ForMost
import HandS.ForExc
import HandS.ExcIs
import HandS.TupAny
import PyProof.StrOps2
import HandS.Deep
import HandS.DictComp
import HandS.DeepEq
import HandS.Flow
import KE.IntTextLaws
import HandS.More
import HandS.IsInst
import HandS.Text
import PyProof.Rows.SortStr
import HandS.SortInts
import PyProof.SliceList
import HandS.SetKeys
import HandS.Strs
import HandS.TupSets
import KE.KDictSum
import HandS.Zip
import HandS.NoneIn
import KE.GoesRaise
import HandS.TryOnly
import HandS.Call
import HandS.ExcOwn
import HandS.Words
import HandS.WordsExc
import HandS.Dict
import HandS.Ends
import PySem.Challenge.RW_callfold_k12_books_written
import Wide.All
import OpenK.AllK
import Wide.FinOn
import HandS.ForDict
set_option Elab.async false
set_option linter.all false
set_option autoImplicit false
set_option maxRecDepth 100000
set_option maxHeartbeats 4000000
/-! Mi0: a small language over data by value, and what its programs need so that they end as wanted. -/
namespace Mi
open PySem (Str)

abbrev Ad := Nat

/-- data: tuples and lists that nobody changes any more stand by value; `ref a` is a thing that may be changed (it stands in Mu);
    a dict is the list of its pairs, each a `tup [k, v]` -/
inductive Val where
  | non | bl (b : Bool) | int (i : Int) | str (s : Str)
  | tup (l : List Val) | lst (l : List Val) | dct (l : List Val)
  | ref (a : Ad)
  | exn (c : String) (l : List Val)
  | ins (c : String) (l : List Val)
  | dtt (l : List (List Int × Int))

abbrev Mu := Ad → Option Val
def Mu.set (μ : Mu) (a : Ad) (v : Val) : Mu := fun b => if b = a then some v else μ b
def Mu.rm (μ : Mu) (a : Ad) : Mu := fun b => if b = a then none else μ b
def Mu.cut (μ' μ : Mu) : Mu := fun a => if (μ a).isSome = true then μ' a else none
abbrev Env := List (Option Val)

def big : Nat := 16777216

def content (μ : Mu) : Val → Option Val
  | .ref a => μ a
  | v => some v
/-! ### plain operations -/
inductive Op where | add | sub | mul | mod | fdiv | pow
inductive Cm where | lt | le | gt | ge
inductive Eqm where | eq | ne
inductive Inm where | isin | notin
inductive Ty where | int | bool | str | list | tuple | dict
inductive Bi where | len | str | int | abs | list | tuple | dict | max | min | maxL | minL | sum | all | any | sorted | setlen | rev | keysL | valsL | sortK | repT | maxD | intS | inS | part | isB | ntB | join
inductive Me where | append | pop | get | extend | reverse | clear | count | index | update | insert | indexV | clearD

def CMul (i j : Int) : Prop := (-(2 ^ 64) < i ∧ i < 2 ^ 64) ∨ (-(2 ^ 64) < j ∧ j < 2 ^ 64)
instance (i j : Int) : Decidable (CMul i j) := by unfold CMul; infer_instance

def repL (l : List Val) (k : Int) : List Val := (List.replicate k.toNat l).flatten

def repS (a : Str) (k : Int) : Str := ⟨(List.replicate k.toNat a.cps.toList).flatten.toArray⟩

def binC : Op → Val → Val → Option Val
  | .add, .int i, .int j => some (.int (i + j))
  | .add, .str a, .str b => if a.length + b.length ≤ big then some (.str (a ++ b)) else none
  | .add, .lst a, .lst b => if a.length + b.length ≤ big then some (.lst (a ++ b)) else none
  | .add, .tup a, .tup b => if a.length + b.length ≤ big then some (.tup (a ++ b)) else none
  | .sub, .int i, .int j => some (.int (i - j))
  | .mul, .int i, .int j => if CMul i j then some (.int (i * j)) else none
  | .mul, .str a, .int k => if 1 ≤ k ∧ k < 2 ^ 62 ∧ a.length * k.toNat ≤ big then some (.str (repS a k)) else none
  | .mul, .lst l, .int k => if -(2 ^ 62) ≤ k ∧ k < 2 ^ 62 ∧ l.length * k.toNat ≤ big then some (.lst (repL l k)) else none
  | .mod, .int i, .int j => if j ≠ 0 then some (.int (i.fmod j)) else none
  | .fdiv, .int i, .int j => if j ≠ 0 ∧ j.natAbs < 1073741824 then some (.int (i.fdiv j)) else none
  | .pow, .int i, .int j => if 0 ≤ j ∧ j ≤ 1000000 ∧ i.natAbs < 2 ^ 64 then some (.int (i ^ j.toNat)) else none
  | _, _, _ => none
def binV (μ : Mu) (o : Op) (v w : Val) : Option Val := (content μ v).bind fun a => (content μ w).bind fun b => binC o a b

def cmpI : Cm → Int → Int → Bool
  | .lt, i, j => decide (i < j)
  | .le, i, j => decide (i ≤ j)
  | .gt, i, j => decide (j < i)
  | .ge, i, j => decide (j ≤ i)
def cmpV (c : Cm) : Val → Val → Option Bool
  | .int i, .int j => some (cmpI c i j)
  | _, _ => none

def ixN (n : Nat) (i : Int) : Option Nat := if 0 ≤ i then (if i < n then some i.toNat else none) else if -(n : Int) ≤ i then some (i + n).toNat else none
def atI {α : Type} (xs : List α) (i : Int) : Option α := (ixN xs.length i).bind fun j => xs[j]?

def isKey : Val → Bool
  | .int _ => true
  | .str _ => true
  | _ => false
def keyEq : Val → Val → Bool
  | .int i, .int j => i == j
  | .str i, .str j => i == j
  | _, _ => false
def dLook (k : Val) : List Val → Option Val
  | .tup [k', v] :: r => if keyEq k k' = true then some v else dLook k r
  | _ :: r => dLook k r
  | [] => none
def dPut (k v : Val) : List Val → List Val
  | .tup [k', w] :: r => if keyEq k k' = true then .tup [k', v] :: r else .tup [k', w] :: dPut k v r
  | x :: r => x :: dPut k v r
  | [] => [.tup [k, v]]

/-! dicts whose keys are tuples of whole numbers -/
def tLook (k : List Int) (l : List (List Int × Int)) : Option Int := (l.find? fun p => decide (p.1 = k)).map (·.2)
def tPut (k : List Int) (v : Int) (l : List (List Int × Int)) : List (List Int × Int) := if (l.any fun p => decide (p.1 = k)) = true then l.map (fun p => if p.1 = k then (p.1, v) else p) else l ++ [(k, v)]
def ixC : Val → Val → Option Val
  | .tup l, .int i => atI l i
  | .lst l, .int i => atI l i
  | .str s, .int i => if s.length ≤ big then (atI s.cps.toList i).map fun c => .str ⟨#[c]⟩ else none
  | .dct l, k => if isKey k = true then dLook k l else none
  | _, _ => none
def ixV (μ : Mu) (v i : Val) : Option Val := (content μ v).bind fun a => ixC a i

def sIx (n d : Nat) : Option Int → Nat
  | none => d
  | some i => if i < 0 then (max (i + (n : Int)) 0).toNat else (min i (n : Int)).toNat
def cutL {α : Type} (xs : List α) (lo hi : Option Int) : List α := (xs.drop (sIx xs.length 0 lo)).take (sIx xs.length xs.length hi - sIx xs.length 0 lo)
def slC (v : Val) (lo hi : Option Int) : Option Val :=
  match v with
  | .tup l => some (.tup (cutL l lo hi))
  | .lst l => some (.lst (cutL l lo hi))
  | .str s => if s.length ≤ big then some (.str ⟨(cutL s.cps.toList lo hi).toArray⟩) else none
  | _ => none

def truthC : Val → Option Bool
  | .non => some false
  | .bl b => some b
  | .int i => some (i != 0)
  | .str s => if s.length ≤ big then some (s.length != 0) else none
  | .tup l => some (!l.isEmpty)
  | .lst l => some (!l.isEmpty)
  | _ => none
def truthV (μ : Mu) (v : Val) : Option Bool := (content μ v).bind truthC

/-! == -/
mutual
def eqb : Val → Val → Bool
  | .non, .non => true
  | .bl a, .bl b => a == b
  | .bl a, .int j => (if a then 1 else 0) == j
  | .int i, .bl b => i == (if b then 1 else 0)
  | .int i, .int j => i == j
  | .str x, .str y => x == y
  | .lst xs, .lst ys => eqbL xs ys
  | .tup xs, .tup ys => eqbL xs ys
  | _, _ => false
def eqbL : List Val → List Val → Bool
  | [], [] => true
  | x :: xs, y :: ys => eqb x y && eqbL xs ys
  | _, _ => false
end
mutual
def plain : Val → Bool
  | .non => true
  | .bl _ => true
  | .int _ => true
  | .str _ => true
  | .tup l => plainL l
  | .lst l => plainL l
  | _ => false
def plainL : List Val → Bool
  | [] => true
  | v :: r => plain v && plainL r
end
mutual
def dep : Val → Nat
  | .tup l => depL l + 1
  | .lst l => depL l + 1
  | _ => 0
def depL : List Val → Nat
  | [] => 0
  | v :: r => max (dep v) (depL r)
end
def flatEq : Val → Val → Bool
  | .non, .non => true
  | .bl a, .bl b => a == b
  | .int a, .int b => a == b
  | .str a, .str b => a == b
  | _, _ => false
def dctIn (b : List Val) : List Val → Bool
  | [] => true
  | .tup [k, v] :: r => isKey k && (match dLook k b with | some w => flatEq v w | none => false) && dctIn b r
  | _ => false
def eqC : Val → Val → Option Bool
  | .dct a, .dct b => if a.length = b.length ∧ dctIn b a = true then some true else none
  | v, w => if plain v = true ∧ plain w = true ∧ min (dep v) (dep w) ≤ 150 then some (eqb v w) else none
def eq2 (μ : Mu) (v w : Val) : Bool := match content μ v, content μ w with
  | some (.dct a), some (.dct b) => decide (a.length = b.length) && dctIn b a
  | some a, some b => plain a && plain b && decide (min (dep a) (dep b) ≤ 100) && eqb a b
  | _, _ => false
def eq2L (μ : Mu) : List Val → List Val → Bool
  | [], [] => true
  | v :: r, w :: t => eq2 μ v w && eq2L μ r t
  | _, _ => false
def eqT (μ : Mu) : Val → Val → Option Bool
  | .tup a, .tup b => if eq2L μ a b = true then some true else none
  | _, _ => none
def eqV (μ : Mu) (v w : Val) : Option Bool := (content μ v).bind fun a => (content μ w).bind fun b => match eqC a b with
  | some r => some r
  | none => eqT μ a b
def inV (μ : Mu) (x c : Val) : Option Bool :=
  match content μ c with
  | some (.tup l) => if plain x = true ∧ plainL l = true ∧ min (dep x) (depL l) ≤ 150 then some (l.any fun y => eqb y x) else none
  | some (.lst l) => if plain x = true ∧ plainL l = true ∧ min (dep x) (depL l) ≤ 150 then some (l.any fun y => eqb y x) else none
  | some (.dct l) => if isKey x = true then some (dLook x l).isSome else none
  | _ => none

def tyC : Ty → Val → Option Bool
  | .int, .int _ => some true
  | .int, .bl _ => some true
  | .bool, .bl _ => some true
  | .str, .str _ => some true
  | .list, .lst _ => some true
  | .tuple, .tup _ => some true
  | .dict, .dct _ => some true
  | _, .exn _ _ => none
  | _, .ins _ _ => none
  | _, .dtt _ => none
  | _, .ref _ => none
  | _, _ => some false
def tyV (μ : Mu) (t : Ty) (v : Val) : Option Bool := (content μ v).bind (tyC t)

def isSub (c d : String) : Bool := c == d || d == "FoldError" || d == "ValueError"

/-! ### built-ins -/
def strI (i : Int) : Str := Str.ofString (toString i)
def lenF (μ : Mu) : List Val → Option Val
  | [v] => match content μ v with
    | some (.tup l) => some (.int l.length)
    | some (.lst l) => some (.int l.length)
    | some (.str s) => if s.length ≤ big then some (.int s.length) else none
    | some (.dct l) => some (.int l.length)
    | _ => none
  | _ => none
def strF : List Val → Option Val
  | [.int i] => if i.natAbs.log2 < 1920 then some (.str (strI i)) else none
  | _ => none
def digsN (l : List Nat) : Nat := l.foldl (fun acc c => acc * 10 + (c - 48)) 0
def intF : List Val → Option Val
  | [.bl b] => some (.int (if b = true then 1 else 0))
  | [.str s] => if 0 < s.length ∧ s.length ≤ 100 ∧ s.cps.toList.all (fun c => decide (48 ≤ c ∧ c ≤ 57)) = true then some (.int (digsN s.cps.toList)) else none
  | _ => none
def absF : List Val → Option Val
  | [.int i] => some (.int i.natAbs)
  | _ => none
def listF (μ : Mu) : List Val → Option Val
  | [v] => match content μ v with
    | some (.tup l) => some (.lst l)
    | some (.lst l) => some (.lst l)
    | _ => none
  | _ => none
def tupleF (μ : Mu) : List Val → Option Val
  | [v] => match content μ v with
    | some (.tup l) => some (.tup l)
    | some (.lst l) => some (.tup l)
    | _ => none
  | _ => none
def dictF (μ : Mu) : List Val → Option Val
  | [v] => match content μ v with
    | some (.dct l) => some (.dct l)
    | _ => none
  | _ => none
def intsOf : List Val → Option (List Int)
  | [] => some []
  | .int i :: r => (intsOf r).map (i :: ·)
  | _ => none
def boolsOf : List Val → Option (List Bool)
  | [] => some []
  | .bl i :: r => (boolsOf r).map (i :: ·)
  | _ => none
def strsOf : List Val → Option (List Str)
  | [] => some []
  | .str i :: r => (strsOf r).map (i :: ·)
  | _ => none
def leS (a b : Str) : Bool := !decide (b.cps.toList < a.cps.toList)
def okS (s : Str) : Bool := s.cps.all (· < 0x110000)
def sortS (l : List Str) : List Str := l.mergeSort leS
def seqOf (μ : Mu) (v : Val) : Option (List Val) := match content μ v with
  | some (.lst l) => some l
  | some (.tup l) => some l
  | _ => none
def lstOf (μ : Mu) (v : Val) : Option (List Val) := match content μ v with
  | some (.lst l) => some l
  | _ => none
def maxL : List Int → Option Int
  | [] => none
  | i :: r => some (r.foldl max i)
def minL : List Int → Option Int
  | [] => none
  | i :: r => some (r.foldl min i)
def sortI (l : List Int) : List Int := l.mergeSort fun a b => decide (a ≤ b)
def maxF : List Val → Option Val
  | [.int i, .int j] => some (.int (if j > i then j else i))
  | _ => none
def minF : List Val → Option Val
  | [.int i, .int j] => some (.int (if j < i then j else i))
  | _ => none
def maxLF (μ : Mu) : List Val → Option Val
  | [v] => (lstOf μ v).bind fun l => (intsOf l).bind fun ns => (maxL ns).map Val.int
  | _ => none
def minLF (μ : Mu) : List Val → Option Val
  | [v] => (lstOf μ v).bind fun l => (intsOf l).bind fun ns => (minL ns).map Val.int
  | _ => none
def sumF (μ : Mu) : List Val → Option Val
  | [v] => (lstOf μ v).bind fun l => (intsOf l).bind fun ns => some (.int ns.sum)
  | _ => none
def allF (μ : Mu) : List Val → Option Val
  | [v] => (lstOf μ v).bind fun l => (boolsOf l).bind fun bs => some (.bl (bs.all id))
  | _ => none
def anyF (μ : Mu) : List Val → Option Val
  | [v] => (lstOf μ v).bind fun l => (boolsOf l).bind fun bs => some (.bl (bs.any id))
  | _ => none
def sortedF (μ : Mu) : List Val → Option Val
  | [v] => (lstOf μ v).bind fun l => match intsOf l with
    | some ns => some (.lst ((sortI ns).map .int))
    | none => (strsOf l).bind fun ss => if ss.length < 64 then some (.lst ((sortS ss).map .str)) else none
  | _ => none
def revF (μ : Mu) : List Val → Option Val
  | [v] => match content μ v with
    | some (.lst l) => some (.lst l.reverse)
    | some (.tup l) => some (.tup l.reverse)
    | _ => none
  | _ => none
def distK (l : List Val) : List Val := l.foldl (fun acc v => if acc.any (fun x => keyEq x v) = true then acc else acc ++ [v]) []
def setlenF (μ : Mu) : List Val → Option Val
  | [v] => match content μ v with
    | some (.lst l) => if l.all isKey = true ∧ l.length < 4000 then some (.int (distK l).length) else none
    | some (.tup l) => if l.all isKey = true ∧ l.length < 4000 then some (.int (distK l).length) else none
    | _ => none
  | _ => none
def dKeys : List Val → List Val
  | [] => []
  | .tup [k, _] :: r => k :: dKeys r
  | _ :: r => dKeys r
def dVals : List Val → List Val
  | [] => []
  | .tup [_, v] :: r => v :: dVals r
  | _ :: r => dVals r
def keysF (μ : Mu) : List Val → Option Val
  | [v] => match content μ v with
    | some (.dct l) => (intsOf (dKeys l)).bind fun ns => some (.lst (ns.map .int))
    | _ => none
  | _ => none
def valsF (μ : Mu) : List Val → Option Val
  | [v] => match content μ v with
    | some (.dct l) => some (.lst (dVals l))
    | _ => none
  | _ => none
def sortKF (μ : Mu) : List Val → Option Val
  | [v] => match content μ v with
    | some (.dct l) => match intsOf (dKeys l) with
      | some ns => if ns.length < 64 then some (.lst ((sortI ns).map .int)) else none
      | none => (strsOf (dKeys l)).bind fun ss => if ss.length < 64 ∧ ss.all okS = true then some (.lst ((sortS ss).map .str)) else none
    | _ => none
  | _ => none
def repTF (μ : Mu) : List Val → Option Val
  | [v, .int k] => match content μ v with
    | some (.tup l) => if 0 ≤ k ∧ k ≤ 1000 ∧ l.length ≤ 1000 ∧ l.isEmpty = false then some (.tup (repL l k)) else none
    | _ => none
  | _ => none
def maxDF (μ : Mu) : List Val → Option Val
  | [v, .int d] => (lstOf μ v).bind fun l => (intsOf l).bind fun ns => some (.int ((maxL ns).getD d))
  | _ => none
def digs : List Nat → Int
  | l => l.foldl (fun (n : Int) (c : Nat) => n * 10 + ((c : Int) - 48)) 0
def intSF : List Val → Option Val
  | [.str s] => if 0 < s.length ∧ s.length ≤ 100 ∧ s.cps.all (fun c => decide (48 ≤ c ∧ c ≤ 57)) = true then some (.int (digs s.cps.toList)) else none
  | _ => none
def inSF : List Val → Option Val
  | [.str a, .str b] => if a.length = 1 ∧ b.length ≤ big then some (.bl (b.cps.toList.any fun c => a.cps.toList.contains c)) else none
  | _ => none
def partL (c : Nat) : List Nat → List Nat × Option (List Nat)
  | [] => ([], none)
  | x :: r => if x = c then ([], some r) else match partL c r with
    | (a, b) => (x :: a, b)
def partF : List Val → Option Val
  | [.str s, .str sep] => match sep.cps.toList with
    | [c] => if s.length ≤ big then some (match partL c s.cps.toList with
      | (a, some b) => .tup [.str ⟨a.toArray⟩, .str sep, .str ⟨b.toArray⟩]
      | (_, none) => .tup [.str s, .str ⟨#[]⟩, .str ⟨#[]⟩]) else none
    | _ => none
  | _ => none
def joinF (μ : Mu) : List Val → Option Val
  | [.str a, v] => (lstOf μ v).bind fun l => (strsOf l).bind fun ys => if (ys.map (·.length)).sum + ys.length * a.length ≤ big then some (.str (PySem.Str.join a ys)) else none
  | _ => none
def isBF (n : Bool) : List Val → Option Val
  | [.bl a, .bl b] => some (.bl (if n = true then !decide (a = b) else decide (a = b)))
  | _ => none
def biV (μ : Mu) (b : Bi) (vs : List Val) : Option Val :=
  match b with
  | .len => lenF μ vs
  | .str => strF vs
  | .int => intF vs
  | .abs => absF vs
  | .list => listF μ vs
  | .tuple => tupleF μ vs
  | .dict => dictF μ vs
  | .max => maxF vs
  | .min => minF vs
  | .maxL => maxLF μ vs
  | .minL => minLF μ vs
  | .sum => sumF μ vs
  | .all => allF μ vs
  | .any => anyF μ vs
  | .sorted => sortedF μ vs
  | .setlen => setlenF μ vs
  | .rev => revF μ vs
  | .keysL => keysF μ vs
  | .valsL => valsF μ vs
  | .sortK => sortKF μ vs
  | .repT => repTF μ vs
  | .maxD => maxDF μ vs
  | .intS => intSF vs
  | .inS => inSF vs
  | .part => partF vs
  | .isB => isBF false vs
  | .ntB => isBF true vs
  | .join => joinF μ vs

def fieldsOf (c : String) : List String :=
  if c = "Running" then ["book", "said", "begun_rows", "begun_rounds", "made_calls", "counts", "way", "ways"] else []
def fIx (c f : String) : Option Nat := (fieldsOf c).idxOf? f
def attrV (μ : Mu) (v : Val) (f : String) : Option Val := match v with
  | .ref a => match μ a with
    | some (.ins c l) => (fIx c f).bind fun i => l[i]?
    | _ => none
  | _ => none
def setAttrV (μ : Mu) (v : Val) (f : String) (y : Val) : Option Mu := match v with
  | .ref a => match μ a with
    | some (.ins c l) => (fIx c f).bind fun i => if i < l.length then some (μ.set a (.ins c (l.set i y))) else if i = l.length then some (μ.set a (.ins c (l ++ [y]))) else none
    | _ => none
  | _ => none
def isIns (μ : Mu) (v : Val) (c : String) : Bool := match v with
  | .ref a => match μ a with
    | some (.ins d _) => d == c
    | _ => false
  | _ => false
def isLst (μ : Mu) (v : Val) : Bool := match content μ v with
  | some (.lst _) => true
  | _ => false
def isDct (μ : Mu) (v : Val) : Bool := match content μ v with
  | some (.dct _) => true
  | some (.dtt _) => true
  | _ => false
def meOk (μ : Mu) (m : Me) (v : Val) : Bool :=
  match m with
  | .append => isLst μ v
  | .pop => isLst μ v
  | .extend => isLst μ v
  | .get => isDct μ v
  | .reverse => isLst μ v
  | .clear => isLst μ v
  | .count => isLst μ v
  | .index => isLst μ v
  | .update => isDct μ v
  | .insert => isLst μ v
  | .indexV => isLst μ v
  | .clearD => isDct μ v
def appendF (μ : Mu) : Val → List Val → Option (Val × Mu)
  | .ref a, [x] => match μ a with
    | some (.lst l) => if l.length < big then some (.non, μ.set a (.lst (l ++ [x]))) else none
    | _ => none
  | _, _ => none
def popF (μ : Mu) : Val → List Val → Option (Val × Mu)
  | .ref a, [] => match μ a with
    | some (.lst l) => (l[l.length - 1]?).map fun x => (x, μ.set a (.lst l.dropLast))
    | _ => none
  | .ref a, [.int i] => match μ a with
    | some (.lst l) => if l.length ≤ big then (ixN l.length i).bind fun k => (l[k]?).map fun x => (x, μ.set a (.lst (l.eraseIdx k))) else none
    | _ => none
  | _, _ => none
def extendF (μ : Mu) : Val → List Val → Option (Val × Mu)
  | .ref a, [v] => match μ a with
    | some (.lst l) => (seqOf μ v).bind fun r => if l.length + r.length ≤ big then some (.non, μ.set a (.lst (l ++ r))) else none
    | _ => none
  | _, _ => none
def reverseF (μ : Mu) : Val → List Val → Option (Val × Mu)
  | .ref a, [] => match μ a with
    | some (.lst l) => some (.non, μ.set a (.lst l.reverse))
    | _ => none
  | _, _ => none
def clearF (μ : Mu) : Val → List Val → Option (Val × Mu)
  | .ref a, [] => match μ a with
    | some (.lst _) => some (.non, μ.set a (.lst []))
    | _ => none
  | _, _ => none
def getF (μ : Mu) (v : Val) : List Val → Option (Val × Mu)
  | [k, d] => match content μ v with
    | some (.dct l) => if isKey k = true then some ((dLook k l).getD d, μ) else none
    | some (.dtt l) => match k, d with
      | .tup ks, .int i => (intsOf ks).bind fun ns => some (.int ((tLook ns l).getD i), μ)
      | _, _ => none
    | _ => none
  | _ => none
def countF (μ : Mu) (v : Val) : List Val → Option (Val × Mu)
  | [.bl b] => (lstOf μ v).bind fun l => (boolsOf l).bind fun bs => some (.int (bs.count b), μ)
  | _ => none
def indexF (μ : Mu) (v : Val) : List Val → Option (Val × Mu)
  | [.bl b] => (lstOf μ v).bind fun l => (boolsOf l).bind fun bs => if b ∈ bs then some (.int (bs.idxOf b), μ) else none
  | _ => none
def dPutAll : List Val → List Val → List Val
  | l, [] => l
  | l, .tup [k, v] :: r => dPutAll (dPut k v l) r
  | l, _ :: r => dPutAll l r
def refIs (a : Ad) : Val → Bool
  | .ref b => decide (b = a)
  | _ => false
def updateF (μ : Mu) : Val → List Val → Option (Val × Mu)
  | .ref a, [v] => match μ a, content μ v with
    | some (.dct l), some (.dct r) => if l.length + r.length < big ∧ refIs a v = false then some (.non, μ.set a (.dct (dPutAll l r))) else none
    | _, _ => none
  | _, _ => none
def insAt (l : List Val) (i : Int) (v : Val) : List Val := l.take i.toNat ++ v :: l.drop i.toNat
def insertF (μ : Mu) : Val → List Val → Option (Val × Mu)
  | .ref a, [.int i, v] => match μ a with
    | some (.lst l) => if l.length < big ∧ 0 ≤ i ∧ i < 2 ^ 62 then some (.non, μ.set a (.lst (insAt l i v))) else none
    | _ => none
  | _, _ => none
def indexVF (μ : Mu) (v : Val) : List Val → Option (Val × Mu)
  | [x] => (lstOf μ v).bind fun l => if plain x = true ∧ plainL l = true ∧ min (dep x) (depL l) ≤ 100 ∧ (l.any fun y => eqb y x) = true then some (.int ((l.findIdx fun y => eqb y x : Nat) : Int), μ) else none
  | _ => none
def clearDF (μ : Mu) : Val → List Val → Option (Val × Mu)
  | .ref a, [] => match μ a with
    | some (.dct _) => some (.non, μ.set a (.dct []))
    | _ => none
  | _, _ => none
def meV (μ : Mu) (m : Me) (v : Val) (vs : List Val) : Option (Val × Mu) :=
  match m with
  | .append => appendF μ v vs
  | .pop => popF μ v vs
  | .extend => extendF μ v vs
  | .get => getF μ v vs
  | .reverse => reverseF μ v vs
  | .clear => clearF μ v vs
  | .count => countF μ v vs
  | .index => indexF μ v vs
  | .update => updateF μ v vs
  | .insert => insertF μ v vs
  | .indexV => indexVF μ v vs
  | .clearD => clearDF μ v vs

def setV (μ : Mu) : Val → Val → Val → Option Mu
  | .ref a, i, v => match μ a, i with
    | some (.lst l), .int k => (ixN l.length k).map fun j => μ.set a (.lst (l.set j v))
    | some (.dct l), k => if isKey k = true ∧ l.length < big then some (μ.set a (.dct (dPut k v l))) else none
    | some (.dtt l), .tup ks => match intsOf ks, v with
      | some ns, .int i => if l.length < big then some (μ.set a (.dtt (tPut ns i l))) else none
      | _, _ => none
    | _, _ => none
  | _, _, _ => none

/-! ### the language -/
inductive Md where | val | obj | keep
inductive Tg where | n (i : Nat) | t (l : List Tg)

mutual
inductive E where
  | v (i : Nat)
  | c (v : Val)
  | tup (l : Es) | lst (l : Es) | dct (l : Es)
  | ix (a b : E) | sl (a : E) (lo hi : Es)
  | bin (o : Op) (a b : E) | cmp (o : Cm) (a b : E) | eq (o : Eqm) (a b : E) | isin (o : Inm) (a b : E)
  | isN (neg : Bool) (a : E)
  | chain (o p : Cm) (a b c : E)
  | neg (a : E) | not (a : E) | and (a b : E) | or (a b : E) | ite (c a b : E)
  | call (f : String) (m : Md) (l : Es)
  | bi (b : Bi) (l : Es)
  | me (m : Me) (o : E) (l : Es)
  | isT (a : E) (t : Ty)
  | isC (a : E) (c : String)
  | attr (a : E) (f : String)
  | mth (c : String) (o : E) (f : String) (m : Md) (l : Es)
  | mk (c : String) (f : String) (l : Es)
  | comp (elt : E) (tg : Tg) (own : List Nat) (it : It) (cond : E)
  | compX (elt : E) (tg : Tg) (own : List Nat) (it : It) (cond : E)
  | stuck
  | new (a : E)
inductive Es where
  | nil | cons (a : E) (r : Es)
inductive It where
  | e (a : E) | range (a : E) | range2 (a b : E) | enum (a : E) | zip (a b : E) | down (a b : E) | rev (a : E)
end

inductive S where
  | skip | seq (a b : S)
  | ex (e : E)
  | asg (i : Nat) (e : E)
  | asgT (t : Tg) (e : E)
  | setix (o i e : E)
  | setattr (o : E) (f : String) (e : E)
  | ite (c : E) (a b : S)
  | forS (t : Tg) (it : It) (b : S)
  | whileS (c : E) (b : S)
  | ret (e : E)
  | raise (c : String)
  | stuck
  | tryS (b : S) (cs : List String) (slot : Option Nat) (h : S)
  | try2 (b : S) (c : String) (h : S) (c2 : String) (h2 : S)
  | forB (t : Tg) (it : It) (s : S) (c : E) (b : S)

structure Fn where
  ps : Nat
  slots : Nat
  body : S

/-! ### what is wanted -/
abbrev XQ := Val → Mu → Prop
structure Ph where
  call : String → Md → List Val → Mu → (Val → Mu → Prop) → XQ → Prop
  pin : Option (String × Ad)
instance : CoeFun Ph (fun _ => String → Md → List Val → Mu → (Val → Mu → Prop) → XQ → Prop) := ⟨Ph.call⟩
def Ph.at (Φ : Ph) (c : String) (a : Ad) : Ph := ⟨Φ.call, some (c, a)⟩
def pinQ (o : Option (String × Ad)) (v : Val) (c : String) (Q : Bool → Prop) : Prop := match o, v with
  | some (d, q), .ref p => p = q ∧ Q (isSub d c)
  | _, _ => False

mutual
def Tg.asg : Tg → Val → Env → Option Env
  | .n i, v, env => some (env.set i (some v))
  | .t l, .tup vs, env => if l.length = vs.length then asgL l vs env else none
  | .t l, .lst vs, env => if l.length = vs.length then asgL l vs env else none
  | .t _, _, _ => none
def asgL : List Tg → List Val → Env → Option Env
  | [], [], env => some env
  | t :: ts, v :: vs, env => (t.asg v env).bind fun e => asgL ts vs e
  | _, _, _ => none
end

def wipe (env : Env) : List Nat → Env
  | [] => env
  | v :: vs => (wipe env vs).set v none

def gOk (a : Option (Ad × List Val)) (μ : Mu) : Prop := match a with
  | none => True
  | some (a, l) => μ a = some (.lst l)
def guard (v : Val) (l : List Val) : Option (Ad × List Val) := match v with
  | .ref a => some (a, l)
  | _ => none

def loopC (g : Mu → Prop) (step : Val → Mu → (Option Val → Mu → Prop) → Prop) : List Val → List Val → Mu → (List Val → Mu → Prop) → Prop
  | [], acc, μ, Q => g μ ∧ Q acc μ
  | v :: r, acc, μ, Q => g μ ∧ step v μ fun o μ' => match o with
    | some y => acc.length < big ∧ loopC g step r (acc ++ [y]) μ' Q
    | none => loopC g step r acc μ' Q
def loopF (g : Mu → Prop) (step : Val → Env → Mu → (Env → Mu → Prop) → Prop) (nx : Env → Mu → Prop) : List Val → Env → Mu → Prop
  | [], env, μ => g μ ∧ nx env μ
  | v :: r, env, μ => g μ ∧ step v env μ fun env' μ' => loopF g step nx r env' μ'
def loopW (step : Env → Mu → (Env → Mu → Prop) → Prop) : Nat → Env → Mu → Prop
  | 0, _, _ => False
  | n + 1, env, μ => step env μ fun env' μ' => loopW step n env' μ'

def okK : Val → Bool
  | .str s => okS s
  | _ => true
def Mu.fixed (μ : Mu) : Val → Mu
  | .ref a => μ.rm a
  | _ => μ
def intsFrom (i : Int) (n : Nat) : List Val := (List.range n).map fun (k : Nat) => Val.int (i + (k : Int))
def enumL (i : Int) : List Val → List Val
  | [] => []
  | v :: r => .tup [.int i, v] :: enumL (i + 1) r
def downFrom (i : Int) (n : Nat) : List Val := (List.range n).map fun (k : Nat) => Val.int (i - (k : Int))
def zipL : List Val → List Val → List Val
  | v :: r, w :: t => .tup [v, w] :: zipL r t
  | _, _ => []
def isCont : Val → Bool
  | .lst _ => true
  | .dtt _ => true
  | .dct _ => true
  | _ => false
def optInt : List Val → Option (Option Int)
  | [] => some none
  | [.int i] => some (some i)
  | _ => none

mutual
def wpE (Φ : Ph) : E → Env → Mu → (Val → Mu → Prop) → XQ → Prop
  | .v i, env, μ, Q, _ => match env[i]? with
    | some (some v) => Q v μ
    | _ => False
  | .c v, _, μ, Q, _ => Q v μ
  | .tup l, env, μ, Q, X => wpEs Φ l env μ (fun vs μ' => Q (.tup vs) μ') X
  | .lst l, env, μ, Q, X => wpEs Φ l env μ (fun vs μ' => Q (.lst vs) μ') X
  | .dct l, env, μ, Q, X => wpEs Φ l env μ (fun vs μ' => Q (.dct vs) μ') X
  | .ix a b, env, μ, Q, X => wpE Φ a env μ (fun v μ1 => wpE Φ b env μ1 (fun w μ2 => match ixV μ2 v w with
    | some r => Q r μ2
    | none => False) X) X
  | .sl a lo hi, env, μ, Q, X => wpE Φ a env μ (fun v μ1 => wpEs Φ lo env μ1 (fun l μ2 => match optInt l with
    | some l' => wpEs Φ hi env μ2 (fun h μ3 => match optInt h with
      | some h' => match (content μ3 v).bind fun c => slC c l' h' with
        | some r => Q r μ3
        | none => False
      | none => False) X
    | none => False) X) X
  | .bin o a b, env, μ, Q, X => wpE Φ a env μ (fun v μ1 => wpE Φ b env μ1 (fun w μ2 => match binV μ2 o v w with
    | some r => Q r μ2
    | none => False) X) X
  | .cmp o a b, env, μ, Q, X => wpE Φ a env μ (fun v μ1 => wpE Φ b env μ1 (fun w μ2 => match cmpV o v w with
    | some r => Q (.bl r) μ2
    | none => False) X) X
  | .eq o a b, env, μ, Q, X => wpE Φ a env μ (fun v μ1 => wpE Φ b env μ1 (fun w μ2 => match eqV μ2 v w with
    | some r => Q (.bl (match o with | .eq => r | .ne => !r)) μ2
    | none => False) X) X
  | .isin o a b, env, μ, Q, X => wpE Φ a env μ (fun v μ1 => wpE Φ b env μ1 (fun w μ2 => match inV μ2 v w with
    | some r => Q (.bl (match o with | .isin => r | .notin => !r)) μ2
    | none => False) X) X
  | .isN neg a, env, μ, Q, X => wpE Φ a env μ (fun v μ' => Q (.bl (match v with | .non => !neg | _ => neg)) μ') X
  | .chain o p a b c, env, μ, Q, X => wpE Φ a env μ (fun v μ1 => wpE Φ b env μ1 (fun w μ2 => match cmpV o v w with
    | some true => wpE Φ c env μ2 (fun u μ3 => match cmpV p w u with
      | some r => Q (.bl r) μ3
      | none => False) X
    | some false => Q (.bl false) μ2
    | none => False) X) X
  | .neg a, env, μ, Q, X => wpE Φ a env μ (fun v μ' => match v with
    | .int i => Q (.int (-i)) μ'
    | _ => False) X
  | .not a, env, μ, Q, X => wpE Φ a env μ (fun v μ' => match truthV μ' v with
    | some b => Q (.bl !b) μ'
    | none => False) X
  | .and a b, env, μ, Q, X => wpE Φ a env μ (fun v μ' => match truthV μ' v with
    | some true => wpE Φ b env μ' Q X
    | some false => Q v μ'
    | none => False) X
  | .or a b, env, μ, Q, X => wpE Φ a env μ (fun v μ' => match truthV μ' v with
    | some true => Q v μ'
    | some false => wpE Φ b env μ' Q X
    | none => False) X
  | .ite c a b, env, μ, Q, X => wpE Φ c env μ (fun v μ' => match truthV μ' v with
    | some true => wpE Φ a env μ' Q X
    | some false => wpE Φ b env μ' Q X
    | none => False) X
  | .call f m l, env, μ, Q, X => wpEs Φ l env μ (fun vs μ' => Φ f m vs μ' Q X) X
  | .bi b l, env, μ, Q, X => wpEs Φ l env μ (fun vs μ' => match biV μ' b vs with
    | some r => Q r μ'
    | none => False) X
  | .me m o l, env, μ, Q, X => wpE Φ o env μ (fun v μ1 => meOk μ1 m v = true ∧ wpEs Φ l env μ1 (fun vs μ2 => match meV μ2 m v vs with
    | some (r, μ3) => Q r μ3
    | none => False) X) X
  | .isT a t, env, μ, Q, X => wpE Φ a env μ (fun v μ' => match tyV μ' t v with
    | some b => Q (.bl b) μ'
    | none => False) X
  | .isC a c, env, μ, Q, X => wpE Φ a env μ (fun v μ' => pinQ Φ.pin v c fun b => Q (.bl b) μ') X
  | .attr a f, env, μ, Q, X => wpE Φ a env μ (fun v μ' => match attrV μ' v f with
    | some r => Q r μ'
    | none => False) X
  | .mth c o f m l, env, μ, Q, X => wpE Φ o env μ (fun v μ1 => isIns μ1 v c = true ∧ wpEs Φ l env μ1 (fun vs μ2 => Φ f m (v :: vs) μ2 Q X) X) X
  | .mk c f l, env, μ, Q, X => wpEs Φ l env μ (fun vs μ1 => ∀ p, μ1 p = none → Φ f .keep (.ref p :: vs) (μ1.set p (.ins c [])) (fun r μ2 => match r with
    | .non => Q (.ref p) μ2
    | _ => False) X) X
  | .comp elt tg own it cond, env, μ, Q, X => wpI Φ it env μ (fun l a μ1 => loopC (gOk a) (fun v μ2 R => match tg.asg v (wipe env own) with
    | some env' => wpE Φ cond env' μ2 (fun t μ3 => match truthV μ3 t with
      | some true => wpE Φ elt env' μ3 (fun y μ4 => R (some y) μ4) fun _ _ => False
      | some false => R none μ3
      | none => False) fun _ _ => False
    | none => False) l [] μ1 fun r μ' => Q (.lst r) μ') X
  | .compX elt tg own it cond, env, μ, Q, X => wpI Φ it env μ (fun l a μ1 => loopC (gOk a) (fun v μ2 R => match tg.asg v (wipe env own) with
    | some env' => wpE Φ cond env' μ2 (fun t μ3 => match truthV μ3 t with
      | some true => wpE Φ elt env' μ3 (fun y μ4 => R (some y) μ4) X
      | some false => R none μ3
      | none => False) fun _ _ => False
    | none => False) l [] μ1 fun r μ' => Q (.lst r) μ') X
  | .stuck, _, _, _, _ => False
  | .new a, env, μ, Q, X => wpE Φ a env μ (fun v μ' => isCont v = true ∧ ∀ p, μ' p = none → Q (.ref p) (μ'.set p v)) X
def wpEs (Φ : Ph) : Es → Env → Mu → (List Val → Mu → Prop) → XQ → Prop
  | .nil, _, μ, Q, _ => Q [] μ
  | .cons a r, env, μ, Q, X => wpE Φ a env μ (fun v μ1 => wpEs Φ r env μ1 (fun vs μ2 => Q (v :: vs) μ2) X) X
def wpI (Φ : Ph) : It → Env → Mu → (List Val → Option (Ad × List Val) → Mu → Prop) → XQ → Prop
  | .e a, env, μ, Q, X => wpE Φ a env μ (fun v μ' => match content μ' v with
    | some (.lst l) => Q l (guard v l) μ'
    | some (.tup l) => Q l none μ'
    | some (.str s) => Q (s.cps.toList.map fun c => .str ⟨#[c]⟩) none μ'
    | some (.dct l) => (dKeys l).all okK = true ∧ Q (dKeys l) none (μ'.fixed v)
    | _ => False) X
  | .range a, env, μ, Q, X => wpE Φ a env μ (fun v μ' => match v with
    | .int j => -(2 ^ 62) ≤ j ∧ j < 2 ^ 62 ∧ Q (intsFrom 0 j.toNat) none μ'
    | _ => False) X
  | .range2 a b, env, μ, Q, X => wpE Φ a env μ (fun v μ1 => wpE Φ b env μ1 (fun w μ2 => match v, w with
    | .int i, .int j => (-(2 ^ 62) ≤ i ∧ i < 2 ^ 62 ∧ -(2 ^ 62) ≤ j ∧ j < 2 ^ 62) ∧ Q (intsFrom i (j - i).toNat) none μ2
    | _, _ => False) X) X
  | .enum a, env, μ, Q, X => wpE Φ a env μ (fun v μ' => match content μ' v with
    | some (.lst l) => Q (enumL 0 l) (guard v l) μ'
    | _ => False) X
  | .zip a b, env, μ, Q, X => wpE Φ a env μ (fun v μ1 => wpE Φ b env μ1 (fun w μ2 => match seqOf μ2 v, seqOf μ2 w with
    | some l, some l2 => guard v l = none ∧ Q (zipL l l2) (guard w l2) μ2
    | _, _ => False) X) X
  | .down a b, env, μ, Q, X => wpE Φ a env μ (fun v μ1 => wpE Φ b env μ1 (fun w μ2 => match v, w with
    | .int i, .int j => (-(2 ^ 62) ≤ i ∧ i < 2 ^ 62 ∧ -(2 ^ 62) ≤ j ∧ j < 2 ^ 62) ∧ Q (downFrom i (i - j).toNat) none μ2
    | _, _ => False) X) X
  | .rev a, env, μ, Q, X => wpE Φ a env μ (fun v μ' => match content μ' v with
    | some (.lst l) => Q l.reverse (guard v l) μ'
    | _ => False) X
end

structure En where
  nx : Env → Mu → Prop
  rt : Val → Mu → Prop
  ex : Val → Env → Mu → Prop

def wpS : Ph → S → Env → Mu → En → Prop
  | Φ, .skip, env, μ, D => D.nx env μ
  | Φ, .seq a b, env, μ, D => wpS Φ a env μ { D with nx := fun env' μ' => wpS Φ b env' μ' D }
  | Φ, .ex e, env, μ, D => wpE Φ e env μ (fun _ μ' => D.nx env μ') fun x μ' => D.ex x env μ'
  | Φ, .asg i e, env, μ, D => wpE Φ e env μ (fun v μ' => D.nx (env.set i (some v)) μ') fun x μ' => D.ex x env μ'
  | Φ, .asgT t e, env, μ, D => wpE Φ e env μ (fun v μ' => match t.asg v env with
    | some env' => D.nx env' μ'
    | none => False) fun x μ' => D.ex x env μ'
  | Φ, .setix o i e, env, μ, D => wpE Φ e env μ (fun v μ1 => wpE Φ o env μ1 (fun ov μ2 => wpE Φ i env μ2 (fun iv μ3 => match setV μ3 ov iv v with
    | some μ4 => D.nx env μ4
    | none => False) fun x μ' => D.ex x env μ') fun x μ' => D.ex x env μ') fun x μ' => D.ex x env μ'
  | Φ, .setattr o f e, env, μ, D => wpE Φ e env μ (fun v μ1 => wpE Φ o env μ1 (fun ov μ2 => match setAttrV μ2 ov f v with
    | some μ3 => D.nx env μ3
    | none => False) fun x μ' => D.ex x env μ') fun x μ' => D.ex x env μ'
  | Φ, .ite c a b, env, μ, D => wpE Φ c env μ (fun v μ' => match truthV μ' v with
    | some true => wpS Φ a env μ' D
    | some false => wpS Φ b env μ' D
    | none => False) fun x μ' => D.ex x env μ'
  | Φ, .forS t it b, env, μ, D => wpI Φ it env μ (fun l a μ1 => loopF (gOk a) (fun v env' μ' R => match t.asg v env' with
    | some env2 => wpS Φ b env2 μ' { D with nx := R }
    | none => False) D.nx l env μ1) fun x μ' => D.ex x env μ'
  | Φ, .forB t it s c b, env, μ, D => wpI Φ it env μ (fun l a μ1 => loopF (gOk a) (fun v env' μ' R => match t.asg v env' with
    | some env2 => wpS Φ s env2 μ' { D with nx := fun env3 μ3 => wpE Φ c env3 μ3 (fun v μ4 => match truthV μ4 v with | some true => wpS Φ b env3 μ4 D | some false => R env3 μ4 | none => False) fun x μ4 => D.ex x env3 μ4 }
    | none => False) D.nx l env μ1) fun x μ' => D.ex x env μ'
  | Φ, .whileS c b, env, μ, D => ∃ n, loopW (fun env' μ' R => wpE Φ c env' μ' (fun v μ1 => match truthV μ1 v with
    | some true => wpS Φ b env' μ1 { D with nx := R }
    | some false => D.nx env' μ1
    | none => False) fun x μ1 => D.ex x env' μ1) n env μ
  | Φ, .ret e, env, μ, D => wpE Φ e env μ (fun v μ' => D.rt v μ') fun x μ' => D.ex x env μ'
  | Φ, .raise c, env, μ, D => D.ex (.exn c []) env μ
  | _, .stuck, _, _, _ => False
  | Φ, .try2 b c h c2 h2, env, μ, D => wpS Φ b env μ { D with ex := fun x env' μ' => match x with
    | .exn d l => if isSub d c = true then wpS Φ h env' μ' D else if isSub d c2 = true then wpS Φ h2 env' μ' D else D.ex x env' μ'
    | _ => False }
  | Φ, .tryS b cs none h, env, μ, D => wpS Φ b env μ { D with ex := fun x env' μ' => match x with
    | .exn c l => if (cs.any fun d => isSub c d) = true then wpS Φ h env' μ' D else D.ex x env' μ'
    | _ => False }
  | Φ, .tryS b cs (some i) h, env, μ, D => wpS Φ b env μ { D with ex := fun x env' μ' => match x with
    | .exn c l => if (cs.any fun d => isSub c d) = true then ∀ a, μ' a = none → wpS (Φ.at c a) h (env'.set i (some (.ref a))) μ' { D with nx := fun e2 μ2 => D.nx (e2.set i none) μ2 } else D.ex x env' μ'
    | _ => False }

/-! ### calls -/
mutual
def mapRef (f : Ad → Option Val) : Val → Val
  | .ref a => (f a).getD (.ref a)
  | .tup l => .tup (mapRefL f l)
  | .lst l => .lst (mapRefL f l)
  | .dct l => .dct (mapRefL f l)
  | .exn c l => .exn c (mapRefL f l)
  | .ins c l => .ins c (mapRefL f l)
  | v => v
def mapRefL (f : Ad → Option Val) : List Val → List Val
  | [] => []
  | v :: r => mapRef f v :: mapRefL f r
end
def resoF (μ μ' : Mu) : Nat → Ad → Option Val
  | 0 => fun _ => none
  | n + 1 => fun a => if (μ a).isSome = true then none else (μ' a).map (mapRef (resoF μ μ' n))
def reso (μ μ' : Mu) (n : Nat) (v : Val) : Val := mapRef (resoF μ μ' n) v

def finM (m : Md) (μ : Mu) (Q : Val → Mu → Prop) (v : Val) (μ' : Mu) : Prop :=
  match m with
  | .keep => Q v μ'
  | .val => Q (reso μ μ' 4 v) (μ'.cut μ)
  | .obj => match v with
    | .ref p => μ p = none ∧ match μ' p with
      | some c => Q (.ref p) ((μ'.cut μ).set p (reso (μ.set p c) μ' 4 c))
      | none => False
    | _ => False

def Prog := String → Option Fn
def phi (P : Prog) : Nat → Ph
  | 0 => ⟨fun _ _ _ _ _ _ => False, none⟩
  | n + 1 => ⟨fun f m args μ Q X => match P f with
    | some d => args.length = d.ps ∧ wpS (phi P n) d.body (args.map some ++ List.replicate (d.slots - d.ps) none) μ
        { nx := fun _ μ' => finM m μ Q .non μ', rt := fun v μ' => finM m μ Q v μ', ex := fun x _ μ' => X (reso μ μ' 4 x) (match m with | .keep => μ' | _ => μ'.cut μ) }
    | none => False, none⟩
theorem phi_succ {P : Prog} {n : Nat} {f : String} {m : Md} {args : List Val} {μ : Mu} {Q : Val → Mu → Prop} {X : XQ} : (phi P (n + 1)).call f m args μ Q X = (match P f with
    | some d => args.length = d.ps ∧ wpS (phi P n) d.body (args.map some ++ List.replicate (d.slots - d.ps) none) μ
        { nx := fun _ μ' => finM m μ Q .non μ', rt := fun v μ' => finM m μ Q v μ', ex := fun x _ μ' => X (reso μ μ' 4 x) (match m with | .keep => μ' | _ => μ'.cut μ) }
    | none => False) := rfl

end Mi
/-! Mi1: what is wanted may be weakened. -/
namespace Mi

def MonoP (Φ : Ph) : Prop := ∀ f m args μ (Q Q' : Val → Mu → Prop) (X X' : XQ), (∀ v μ, Q v μ → Q' v μ) → (∀ v μ, X v μ → X' v μ) → Φ f m args μ Q X → Φ f m args μ Q' X'

theorem loopC_mono {g : Mu → Prop} {step step' : Val → Mu → (Option Val → Mu → Prop) → Prop} (hs : ∀ v μ (R R' : Option Val → Mu → Prop), (∀ o μ, R o μ → R' o μ) → step v μ R → step' v μ R') :
    ∀ (l acc : List Val) (μ : Mu) (Q Q' : List Val → Mu → Prop), (∀ r μ, Q r μ → Q' r μ) → loopC g step l acc μ Q → loopC g step' l acc μ Q'
  | [], _, _, _, _, h, q => ⟨q.1, h _ _ q.2⟩
  | v :: r, acc, μ, Q, Q', h, q => ⟨q.1, hs v μ _ _ (fun o μ' z => by
      cases o with
      | none => exact loopC_mono hs r _ _ _ _ h z
      | some y => exact ⟨z.1, loopC_mono hs r _ _ _ _ h z.2⟩) q.2⟩
theorem loopF_mono {g : Mu → Prop} {step step' : Val → Env → Mu → (Env → Mu → Prop) → Prop} {nx nx' : Env → Mu → Prop} (hs : ∀ v env μ (R R' : Env → Mu → Prop), (∀ e μ, R e μ → R' e μ) → step v env μ R → step' v env μ R') (hn : ∀ e μ, nx e μ → nx' e μ) :
    ∀ (l : List Val) (env : Env) (μ : Mu), loopF g step nx l env μ → loopF g step' nx' l env μ
  | [], _, _, q => ⟨q.1, hn _ _ q.2⟩
  | v :: r, env, μ, q => ⟨q.1, hs v env μ _ _ (fun e μ' z => loopF_mono hs hn r e μ' z) q.2⟩
theorem loopW_mono {step step' : Env → Mu → (Env → Mu → Prop) → Prop} (hs : ∀ env μ (R R' : Env → Mu → Prop), (∀ e μ, R e μ → R' e μ) → step env μ R → step' env μ R') :
    ∀ (n : Nat) (env : Env) (μ : Mu), loopW step n env μ → loopW step' n env μ
  | 0, _, _, q => q
  | n + 1, env, μ, q => hs env μ _ _ (fun e μ' z => loopW_mono hs n e μ' z) q

theorem pinQ_mono {o : Option (String × Ad)} {v : Val} {c : String} {Q Q' : Bool → Prop} (h : ∀ b, Q b → Q' b) (z : pinQ o v c Q) : pinQ o v c Q' := by
  unfold pinQ at z ⊢
  split at z
  · exact ⟨z.1, h _ z.2⟩
  · exact z.elim
section
variable {Φ : Ph} (hΦ : MonoP Φ)
include hΦ
mutual
theorem wpE_mono : ∀ (e : E) (env : Env) (μ : Mu) (Q Q' : Val → Mu → Prop) (X X' : XQ), (∀ v μ, Q v μ → Q' v μ) → (∀ v μ, X v μ → X' v μ) → wpE Φ e env μ Q X → wpE Φ e env μ Q' X'
  | .v i, env, μ, Q, Q', X, X', hQ, hX, q => by
    simp only [wpE] at q ⊢
    split at q
    · exact hQ _ _ q
    · exact q.elim
  | .c v, env, μ, Q, Q', X, X', hQ, hX, q => hQ _ _ q
  | .tup l, env, μ, Q, Q', X, X', hQ, hX, q => wpEs_mono l env μ _ _ X X' (fun vs μ' z => hQ _ _ z) hX q
  | .lst l, env, μ, Q, Q', X, X', hQ, hX, q => wpEs_mono l env μ _ _ X X' (fun vs μ' z => hQ _ _ z) hX q
  | .dct l, env, μ, Q, Q', X, X', hQ, hX, q => wpEs_mono l env μ _ _ X X' (fun vs μ' z => hQ _ _ z) hX q
  | .ix a b, env, μ, Q, Q', X, X', hQ, hX, q => wpE_mono a env μ _ _ X X' (fun v μ1 z => wpE_mono b env μ1 _ _ X X' (fun w μ2 y => by
      split at y
      · exact hQ _ _ y
      · exact y.elim) hX z) hX q
  | .sl a lo hi, env, μ, Q, Q', X, X', hQ, hX, q => wpE_mono a env μ _ _ X X' (fun v μ1 z => wpEs_mono lo env μ1 _ _ X X' (fun w μ2 y => by
      split at y
      · exact wpEs_mono hi env μ2 _ _ X X' (fun h μ3 x => by
          split at x
          · split at x
            · exact hQ _ _ x
            · exact x.elim
          · exact x.elim) hX y
      · exact y.elim) hX z) hX q
  | .bin o a b, env, μ, Q, Q', X, X', hQ, hX, q => wpE_mono a env μ _ _ X X' (fun v μ1 z => wpE_mono b env μ1 _ _ X X' (fun w μ2 y => by
      split at y
      · exact hQ _ _ y
      · exact y.elim) hX z) hX q
  | .cmp o a b, env, μ, Q, Q', X, X', hQ, hX, q => wpE_mono a env μ _ _ X X' (fun v μ1 z => wpE_mono b env μ1 _ _ X X' (fun w μ2 y => by
      split at y
      · exact hQ _ _ y
      · exact y.elim) hX z) hX q
  | .eq o a b, env, μ, Q, Q', X, X', hQ, hX, q => wpE_mono a env μ _ _ X X' (fun v μ1 z => wpE_mono b env μ1 _ _ X X' (fun w μ2 y => by
      split at y
      · exact hQ _ _ y
      · exact y.elim) hX z) hX q
  | .isin o a b, env, μ, Q, Q', X, X', hQ, hX, q => wpE_mono a env μ _ _ X X' (fun v μ1 z => wpE_mono b env μ1 _ _ X X' (fun w μ2 y => by
      split at y
      · exact hQ _ _ y
      · exact y.elim) hX z) hX q
  | .isN neg a, env, μ, Q, Q', X, X', hQ, hX, q => wpE_mono a env μ _ _ X X' (fun v μ1 z => hQ _ _ z) hX q
  | .chain o p a b c, env, μ, Q, Q', X, X', hQ, hX, q => wpE_mono a env μ _ _ X X' (fun v μ1 z => wpE_mono b env μ1 _ _ X X' (fun w μ2 y => by
      split at y
      · exact wpE_mono c env μ2 _ _ X X' (fun u μ3 x => by
          split at x
          · exact hQ _ _ x
          · exact x.elim) hX y
      · exact hQ _ _ y
      · exact y.elim) hX z) hX q
  | .neg a, env, μ, Q, Q', X, X', hQ, hX, q => wpE_mono a env μ _ _ X X' (fun v μ1 z => by
      split at z
      · exact hQ _ _ z
      · exact z.elim) hX q
  | .not a, env, μ, Q, Q', X, X', hQ, hX, q => wpE_mono a env μ _ _ X X' (fun v μ1 z => by
      split at z
      · exact hQ _ _ z
      · exact z.elim) hX q
  | .and a b, env, μ, Q, Q', X, X', hQ, hX, q => wpE_mono a env μ _ _ X X' (fun v μ1 z => by
      split at z
      · exact wpE_mono b env μ1 _ _ X X' hQ hX z
      · exact hQ _ _ z
      · exact z.elim) hX q
  | .or a b, env, μ, Q, Q', X, X', hQ, hX, q => wpE_mono a env μ _ _ X X' (fun v μ1 z => by
      split at z
      · exact hQ _ _ z
      · exact wpE_mono b env μ1 _ _ X X' hQ hX z
      · exact z.elim) hX q
  | .ite c a b, env, μ, Q, Q', X, X', hQ, hX, q => wpE_mono c env μ _ _ X X' (fun v μ1 z => by
      split at z
      · exact wpE_mono a env μ1 _ _ X X' hQ hX z
      · exact wpE_mono b env μ1 _ _ X X' hQ hX z
      · exact z.elim) hX q
  | .call f m l, env, μ, Q, Q', X, X', hQ, hX, q => wpEs_mono l env μ _ _ X X' (fun vs μ' z => hΦ f m vs μ' Q Q' X X' hQ hX z) hX q
  | .bi b l, env, μ, Q, Q', X, X', hQ, hX, q => wpEs_mono l env μ _ _ X X' (fun vs μ' z => by
      split at z
      · exact hQ _ _ z
      · exact z.elim) hX q
  | .me m o l, env, μ, Q, Q', X, X', hQ, hX, q => wpE_mono o env μ _ _ X X' (fun v μ1 z => ⟨z.1, wpEs_mono l env μ1 _ _ X X' (fun vs μ' y => by
      split at y
      · exact hQ _ _ y
      · exact y.elim) hX z.2⟩) hX q
  | .isT a t, env, μ, Q, Q', X, X', hQ, hX, q => wpE_mono a env μ _ _ X X' (fun v μ1 z => by
      split at z
      · exact hQ _ _ z
      · exact z.elim) hX q
  | .isC a c, env, μ, Q, Q', X, X', hQ, hX, q => wpE_mono a env μ _ _ X X' (fun v μ1 z => pinQ_mono (fun b y => hQ _ _ y) z) hX q
  | .attr a f, env, μ, Q, Q', X, X', hQ, hX, q => wpE_mono a env μ _ _ X X' (fun v μ1 z => by
      split at z
      · exact hQ _ _ z
      · exact z.elim) hX q
  | .mth c o f m l, env, μ, Q, Q', X, X', hQ, hX, q => wpE_mono o env μ _ _ X X' (fun v μ1 z => ⟨z.1, wpEs_mono l env μ1 _ _ X X' (fun vs μ2 y => hΦ f m _ μ2 _ _ _ _ hQ hX y) hX z.2⟩) hX q
  | .mk c f l, env, μ, Q, Q', X, X', hQ, hX, q => wpEs_mono l env μ _ _ X X' (fun vs μ1 z p hp => hΦ f .keep _ _ _ _ _ _ (fun r μ2 y => by
      split at y
      · exact hQ _ _ y
      · exact y.elim) hX (z p hp)) hX q
  | .comp elt tg own it cond, env, μ, Q, Q', X, X', hQ, hX, q => wpI_mono it env μ _ _ X X' (fun l a μ1 z => loopC_mono (fun v μ2 R R' hR y => by
      split at y
      · rename_i env' _
        exact wpE_mono cond env' μ2 _ _ _ _ (fun t μ3 x => by
          split at x
          · exact wpE_mono elt env' μ3 _ _ _ _ (fun w μ4 u => hR _ _ u) (fun _ _ u => u) x
          · exact hR _ _ x
          · exact x.elim) (fun _ _ u => u) y
      · exact y.elim) l [] μ1 _ _ (fun r μ' x => hQ _ _ x) z) hX q
  | .compX elt tg own it cond, env, μ, Q, Q', X, X', hQ, hX, q => wpI_mono it env μ _ _ X X' (fun l a μ1 z => loopC_mono (fun v μ2 R R' hR y => by
      split at y
      · rename_i env' _
        exact wpE_mono cond env' μ2 _ _ _ _ (fun t μ3 x => by
          split at x
          · exact wpE_mono elt env' μ3 _ _ _ _ (fun w μ4 u => hR _ _ u) hX x
          · exact hR _ _ x
          · exact x.elim) (fun _ _ u => u) y
      · exact y.elim) l [] μ1 _ _ (fun r μ' x => hQ _ _ x) z) hX q
  | .stuck, env, μ, Q, Q', X, X', hQ, hX, q => q.elim
  | .new a, env, μ, Q, Q', X, X', hQ, hX, q => wpE_mono a env μ _ _ X X' (fun v μ1 z => ⟨z.1, fun p hp => hQ _ _ (z.2 p hp)⟩) hX q
theorem wpEs_mono : ∀ (l : Es) (env : Env) (μ : Mu) (Q Q' : List Val → Mu → Prop) (X X' : XQ), (∀ v μ, Q v μ → Q' v μ) → (∀ v μ, X v μ → X' v μ) → wpEs Φ l env μ Q X → wpEs Φ l env μ Q' X'
  | .nil, env, μ, Q, Q', X, X', hQ, hX, q => hQ _ _ q
  | .cons a r, env, μ, Q, Q', X, X', hQ, hX, q => wpE_mono a env μ _ _ X X' (fun v μ1 z => wpEs_mono r env μ1 _ _ X X' (fun vs μ2 y => hQ _ _ y) hX z) hX q
theorem wpI_mono : ∀ (i : It) (env : Env) (μ : Mu) (Q Q' : List Val → Option (Ad × List Val) → Mu → Prop) (X X' : XQ), (∀ l a μ, Q l a μ → Q' l a μ) → (∀ v μ, X v μ → X' v μ) → wpI Φ i env μ Q X → wpI Φ i env μ Q' X'
  | .e a, env, μ, Q, Q', X, X', hQ, hX, q => wpE_mono a env μ _ _ X X' (fun v μ1 z => by
      split at z
      · exact hQ _ _ _ z
      · exact hQ _ _ _ z
      · exact hQ _ _ _ z
      · exact ⟨z.1, hQ _ _ _ z.2⟩
      · exact z.elim) hX q
  | .range a, env, μ, Q, Q', X, X', hQ, hX, q => wpE_mono a env μ _ _ X X' (fun v μ1 z => by
      split at z
      · exact ⟨z.1, z.2.1, hQ _ _ _ z.2.2⟩
      · exact z.elim) hX q
  | .range2 a b, env, μ, Q, Q', X, X', hQ, hX, q => wpE_mono a env μ _ _ X X' (fun v μ1 z => wpE_mono b env μ1 _ _ X X' (fun w μ2 y => by
      split at y
      · exact ⟨y.1, hQ _ _ _ y.2⟩
      · exact y.elim) hX z) hX q
  | .enum a, env, μ, Q, Q', X, X', hQ, hX, q => wpE_mono a env μ _ _ X X' (fun v μ1 z => by
      split at z
      · exact hQ _ _ _ z
      · exact z.elim) hX q
  | .zip a b, env, μ, Q, Q', X, X', hQ, hX, q => wpE_mono a env μ _ _ X X' (fun v μ1 z => wpE_mono b env μ1 _ _ X X' (fun w μ2 y => by
      split at y
      · exact ⟨y.1, hQ _ _ _ y.2⟩
      · exact y.elim) hX z) hX q
  | .down a b, env, μ, Q, Q', X, X', hQ, hX, q => wpE_mono a env μ _ _ X X' (fun v μ1 z => wpE_mono b env μ1 _ _ X X' (fun w μ2 y => by
      split at y
      · exact ⟨y.1, hQ _ _ _ y.2⟩
      · exact y.elim) hX z) hX q
  | .rev a, env, μ, Q, Q', X, X', hQ, hX, q => wpE_mono a env μ _ _ X X' (fun v μ1 z => by
      split at z
      · exact hQ _ _ _ z
      · exact z.elim) hX q
end

structure En.Le (D D' : En) : Prop where
  nx : ∀ e μ, D.nx e μ → D'.nx e μ
  rt : ∀ v μ, D.rt v μ → D'.rt v μ
  ex : ∀ v e μ, D.ex v e μ → D'.ex v e μ
end
theorem wpS_mono : ∀ {Φ : Ph} (hΦ : MonoP Φ) (s : S) (env : Env) (μ : Mu) (D D' : En), D.Le D' → wpS Φ s env μ D → wpS Φ s env μ D'
  | Φ, hΦ, .skip, env, μ, D, D', h, q => h.nx _ _ q
  | Φ, hΦ, .seq a b, env, μ, D, D', h, q => by
    rw [wpS] at q ⊢
    refine wpS_mono hΦ a env μ _ _ ?_ q
    exact ⟨fun e μ' z => wpS_mono hΦ b e μ' D D' h z, h.rt, h.ex⟩
  | Φ, hΦ, .ex e, env, μ, D, D', h, q => by
    rw [wpS] at q ⊢
    exact wpE_mono hΦ e env μ _ _ _ _ (fun _ _ z => h.nx _ _ z) (fun _ _ z => h.ex _ _ _ z) q
  | Φ, hΦ, .asg i e, env, μ, D, D', h, q => by
    rw [wpS] at q ⊢
    exact wpE_mono hΦ e env μ _ _ _ _ (fun _ _ z => h.nx _ _ z) (fun _ _ z => h.ex _ _ _ z) q
  | Φ, hΦ, .asgT t e, env, μ, D, D', h, q => by
    rw [wpS] at q ⊢
    exact wpE_mono hΦ e env μ _ _ _ _ (fun _ _ z => by
      split at z
      · exact h.nx _ _ z
      · exact z.elim) (fun _ _ z => h.ex _ _ _ z) q
  | Φ, hΦ, .setix o i e, env, μ, D, D', h, q => by
    rw [wpS] at q ⊢
    exact wpE_mono hΦ e env μ _ _ _ _ (fun _ μ1 z => wpE_mono hΦ o env μ1 _ _ _ _ (fun _ μ2 y => wpE_mono hΦ i env μ2 _ _ _ _ (fun _ μ3 x => by
      split at x
      · exact h.nx _ _ x
      · exact x.elim) (fun _ _ z => h.ex _ _ _ z) y) (fun _ _ z => h.ex _ _ _ z) z) (fun _ _ z => h.ex _ _ _ z) q
  | Φ, hΦ, .setattr o f e, env, μ, D, D', h, q => by
    rw [wpS] at q ⊢
    exact wpE_mono hΦ e env μ _ _ _ _ (fun _ μ1 z => wpE_mono hΦ o env μ1 _ _ _ _ (fun _ μ2 y => by
      split at y
      · exact h.nx _ _ y
      · exact y.elim) (fun _ _ z => h.ex _ _ _ z) z) (fun _ _ z => h.ex _ _ _ z) q
  | Φ, hΦ, .ite c a b, env, μ, D, D', h, q => by
    rw [wpS] at q ⊢
    exact wpE_mono hΦ c env μ _ _ _ _ (fun _ μ1 z => by
      split at z
      · exact wpS_mono hΦ a env μ1 D D' h z
      · exact wpS_mono hΦ b env μ1 D D' h z
      · exact z.elim) (fun _ _ z => h.ex _ _ _ z) q
  | Φ, hΦ, .forS t it b, env, μ, D, D', h, q => by
    rw [wpS] at q ⊢
    exact wpI_mono hΦ it env μ _ _ _ _ (fun l a μ1 z => loopF_mono (fun v env' μ2 R R' hR y => by
      split at y
      · refine wpS_mono hΦ b _ μ2 _ _ ?_ y
        exact ⟨hR, h.rt, h.ex⟩
      · exact y.elim) h.nx l env μ1 z) (fun _ _ z => h.ex _ _ _ z) q
  | Φ, hΦ, .forB t it s c b, env, μ, D, D', h, q => by
    rw [wpS] at q ⊢
    exact wpI_mono hΦ it env μ _ _ _ _ (fun l a μ1 z => loopF_mono (fun v env' μ2 R R' hR y => by
      split at y
      · refine wpS_mono hΦ s _ μ2 _ _ ?_ y
        exact ⟨fun e3 μ3 w => wpE_mono hΦ c e3 μ3 _ _ _ _ (fun _ μ4 x => by
          split at x
          · exact wpS_mono hΦ b _ μ4 D D' h x
          · exact hR _ _ x
          · exact x.elim) (fun _ _ z => h.ex _ _ _ z) w, h.rt, h.ex⟩
      · exact y.elim) h.nx l env μ1 z) (fun _ _ z => h.ex _ _ _ z) q
  | Φ, hΦ, .whileS c b, env, μ, D, D', h, q => by
    rw [wpS] at q ⊢
    obtain ⟨n, q⟩ := q
    exact ⟨n, loopW_mono (fun env' μ2 R R' hR y => wpE_mono hΦ c env' μ2 _ _ _ _ (fun _ μ3 x => by
      split at x
      · refine wpS_mono hΦ b _ μ3 _ _ ?_ x
        exact ⟨hR, h.rt, h.ex⟩
      · exact h.nx _ _ x
      · exact x.elim) (fun _ _ z => h.ex _ _ _ z) y) n env μ q⟩
  | Φ, hΦ, .ret e, env, μ, D, D', h, q => by
    rw [wpS] at q ⊢
    exact wpE_mono hΦ e env μ _ _ _ _ (fun _ _ z => h.rt _ _ z) (fun _ _ z => h.ex _ _ _ z) q
  | Φ, hΦ, .raise c, env, μ, D, D', h, q => h.ex _ _ _ q
  | Φ, hΦ, .stuck, env, μ, D, D', h, q => q.elim
  | Φ, hΦ, .try2 b c hb c2 hb2, env, μ, D, D', h, q => by
    rw [wpS] at q ⊢
    refine wpS_mono hΦ b env μ _ _ ?_ q
    refine ⟨h.nx, h.rt, fun v e μ' z => ?_⟩
    dsimp only at z ⊢
    split at z
    · rename_i d l
      by_cases hc : isSub d c = true
      · rw [if_pos hc] at z ⊢
        exact wpS_mono hΦ hb _ _ _ _ h z
      · rw [if_neg hc] at z ⊢
        by_cases hc2 : isSub d c2 = true
        · rw [if_pos hc2] at z ⊢
          exact wpS_mono hΦ hb2 _ _ _ _ h z
        · rw [if_neg hc2] at z ⊢
          exact h.ex _ _ _ z
    · exact z.elim
  | Φ, hΦ, .tryS b cs none hb, env, μ, D, D', h, q => by
    rw [wpS] at q ⊢
    refine wpS_mono hΦ b env μ _ _ ?_ q
    refine ⟨h.nx, h.rt, fun v e μ' z => ?_⟩
    dsimp only at z ⊢
    split at z
    · rename_i c l
      by_cases hc : (cs.any fun d => isSub c d) = true
      · rw [if_pos hc] at z ⊢
        exact wpS_mono hΦ hb _ _ _ _ h z
      · rw [if_neg hc] at z ⊢
        exact h.ex _ _ _ z
    · exact z.elim
  | Φ, hΦ, .tryS b cs (some i) hb, env, μ, D, D', h, q => by
    rw [wpS] at q ⊢
    refine wpS_mono hΦ b env μ _ _ ?_ q
    refine ⟨h.nx, h.rt, fun v e μ' z => ?_⟩
    dsimp only at z ⊢
    split at z
    · rename_i c l
      by_cases hc : (cs.any fun d => isSub c d) = true
      · rw [if_pos hc] at z ⊢
        exact fun a ha => wpS_mono (Φ := Φ.at c a) hΦ hb _ _ { D with nx := fun e2 μ2 => D.nx (e2.set i none) μ2 } { D' with nx := fun e2 μ2 => D'.nx (e2.set i none) μ2 } ⟨fun e2 μ2 y => h.nx _ _ y, h.rt, h.ex⟩ (z a ha)
      · rw [if_neg hc] at z ⊢
        exact h.ex _ _ _ z
    · exact z.elim

theorem finM_mono {m : Md} {μ : Mu} {Q Q' : Val → Mu → Prop} (hQ : ∀ v μ, Q v μ → Q' v μ) {v : Val} {μ' : Mu} (h : finM m μ Q v μ') : finM m μ Q' v μ' := by
  cases m with
  | keep => exact hQ _ _ h
  | val => exact hQ _ _ h
  | obj =>
    simp only [finM] at h ⊢
    split at h
    · refine ⟨h.1, ?_⟩
      have h2 := h.2
      split at h2
      · exact hQ _ _ h2
      · exact h2.elim
    · exact h.elim
theorem phi_mono (P : Prog) : ∀ n, MonoP (phi P n)
  | 0 => fun _ _ _ _ _ _ _ _ _ _ h => h.elim
  | n + 1 => fun f m args μ Q Q' X X' hQ hX h => by
    rw [phi_succ] at h ⊢
    split at h
    · exact ⟨h.1, wpS_mono (phi_mono P n) _ _ _ _ _ ⟨fun _ _ z => finM_mono hQ z, fun _ _ z => finM_mono hQ z, fun _ _ _ z => hX _ _ z⟩ h.2⟩
    · exact h.elim

def LeP (Φ Ψ : Ph) : Prop := ∀ f m args μ Q X, Φ f m args μ Q X → Ψ f m args μ Q X
/-! ### sorted -/
end Mi
/-! Mi2: data by value against the layer's heap. -/
namespace Mi
open PySem PySem.Spec PyProof.Rows L2

abbrev Fr := PySem.W.Frag

def WL (K : Fr) (a : Addr) (xs : List V) : Prop := ∃ (o : Obj) (its : Array Value) (n : Nat), K.lookup a = some o ∧ o.cls = .type "list" ∧ o.dict = none ∧ o.data = .seq its n ∧ its.size ≤ sizeLine ∧ Vals xs its.toList
def WT (K : Fr) (a : Addr) (xs : List V) : Prop := ∃ (o : Obj) (its : Array Value) (n : Nat), K.lookup a = some o ∧ o.cls = .type "tuple" ∧ o.data = .seq its n ∧ its.size ≤ sizeLine ∧ Vals xs its.toList

def clsAt (K : Fr) (c : String) (C : Addr) : Prop := PySem.W.nsIn K mainGlobals (Str.ofString c) = some (some (.ref C))
def flds (c : String) (xs : List V) : List (Str × V) := ((fieldsOf c).map Str.ofString).zip xs
def ttK (l : List (List Int × Int)) : List (List Key × V) := l.map fun p => (p.1.map Sum.inl, V.int p.2)
def keyOf : Val → Option Key
  | .int i => some (.inl i)
  | .str s => some (.inr s)
  | _ => none

mutual
def Den (K : Fr) (D : Addr → Prop) (H : Hp) : Val → V → Prop
  | .non, x => x = .non
  | .bl b, x => x = .bl b
  | .int i, x => x = .int i
  | .str s, x => x = .str s ∧ PyData.strOk s = true
  | .tup l, x => ∃ a xs, x = .ref a ∧ (¬ D a ∧ H a = some (.tup xs)) ∧ DenL K D H l xs
  | .lst l, x => ∃ a xs, x = .ref a ∧ ((¬ D a ∧ Rd H a (.lst xs)) ∨ WL K a xs) ∧ DenL K D H l xs
  | .dct l, x => ∃ a kvs, x = .ref a ∧ ¬ D a ∧ Rd H a (.dK kvs) ∧ DenP K D H l kvs
  | .ref a, x => x = .ref a
  | .exn _ _, _ => False
  | .ins c l, x => ∃ a C dx xs, x = .ref a ∧ ¬ D a ∧ Rd H a (.ins C dx (flds c xs)) ∧ clsAt K c C ∧ DenL K D H l xs
  | .dtt l, x => ∃ a, x = .ref a ∧ ¬ D a ∧ Rd H a (.dT (ttK l))
def DenL (K : Fr) (D : Addr → Prop) (H : Hp) : List Val → List V → Prop
  | [], xs => xs = []
  | v :: r, xs => ∃ x t, xs = x :: t ∧ Den K D H v x ∧ DenL K D H r t
def DenP (K : Fr) (D : Addr → Prop) (H : Hp) : List Val → List (Key × V) → Prop
  | [], kvs => kvs = []
  | .tup [kv, v] :: r, kvs => ∃ k x t, kvs = (k, x) :: t ∧ keyOf kv = some k ∧ Den K D H v x ∧ DenP K D H r t
  | _ :: _, _ => False
end

def Dn (Xc : Addr → Prop) (μ : Mu) : Addr → Prop := fun a => (μ a).isSome = true ∨ Xc a

def CRel (K : Fr) (D : Addr → Prop) (H : Hp) : Val → HO → Prop
  | .lst l, o => ∃ xs, o = .lst xs ∧ DenL K D H l xs
  | .dct l, o => ∃ kvs, o = .dK kvs ∧ DenP K D H l kvs
  | .ins c l, o => ∃ C dx xs, o = .ins C dx (flds c xs) ∧ clsAt K c C ∧ DenL K D H l xs
  | .dtt l, o => o = .dT (ttK l)
  | _, _ => False

def Nf (H : Hp) (a : Addr) : Prop := ∃ o, H a = some o ∧ ∀ ob u, o ≠ .frz ob u
structure MRel (K : Fr) (Xc : Addr → Prop) (μ : Mu) (H : Hp) : Prop where
  obj : ∀ a c, μ a = some c → ∃ o, H a = some o ∧ CRel K (Dn Xc μ) H c o
  xc : ∀ a, Xc a → Nf H a ∧ μ a = none
structure SRel (K : Fr) (Xc : Addr → Prop) (σ : List (Option V)) (H : Hp) (env : Env) (μ : Mu) : Prop where
  m : MRel K Xc μ H
  slot : ∀ (i : Nat) (v : Val), env[i]? = some (some v) → ∃ x, σ[i]? = some (some x) ∧ Den K (Dn Xc μ) H v x
  len : env.length = σ.length

structure Ext (μ : Mu) (H : Hp) (μ' : Mu) (H' : Hp) : Prop where
  keepO : ∀ a o, H a = some o → μ a = none → H' a = some o ∨ ∃ ob kvs, o = .dK kvs ∧ H' a = some (.frz ob o)
  nonew : ∀ a, H a ≠ none → μ a = none → μ' a = none
  there : ∀ a, H a ≠ none → H' a ≠ none

theorem Ext.refl {μ : Mu} {H : Hp} : Ext μ H μ H := ⟨fun _ _ h _ => .inl h, fun _ _ h => h, fun _ h => h⟩
theorem Ext.keepE {μ μ' : Mu} {H H' : Hp} (e : Ext μ H μ' H') (a : Addr) (o : HO) (h : H a = some o) (n : μ a = none) (no : ∀ kvs, o ≠ .dK kvs) : H' a = some o := by
  rcases e.keepO a o h n with z | ⟨ob, kvs, ek, _⟩
  · exact z
  · exact (no kvs ek).elim
theorem Ext.keep {μ μ' : Mu} {H H' : Hp} (e : Ext μ H μ' H') (a : Addr) (u : HO) (h : Rd H a u) (n : μ a = none) : Rd H' a u := by
  rcases h with h | ⟨o, h⟩
  · rcases e.keepO a _ h n with z | ⟨ob, _, _, z⟩
    · exact .inl z
    · exact .inr ⟨ob, z⟩
  · exact .inr ⟨o, e.keepE a _ h n (fun _ z => by cases z)⟩
theorem rdSome {H : Hp} {a : Addr} {u : HO} (h : Rd H a u) : H a ≠ none := by
  rcases h with h | ⟨o, h⟩ <;> (rw [h]; intro z; cases z)
theorem Ext.trans {μ μ1 μ2 : Mu} {H H1 H2 : Hp} (a : Ext μ H μ1 H1) (b : Ext μ1 H1 μ2 H2) : Ext μ H μ2 H2 where
  keepO := fun c u h n => by
    have n1 := a.nonew c (by rw [h]; intro z; cases z) n
    rcases a.keepO c u h n with z | ⟨ob, kvs, ek, z⟩
    · exact b.keepO c u z n1
    · exact .inr ⟨ob, kvs, ek, b.keepE c _ z n1 (fun _ y => by cases y)⟩
  nonew := fun c h n => b.nonew c (a.there c h) (a.nonew c h n)
  there := fun c h => b.there c (a.there c h)

section
variable {K : Fr} {Xc : Addr → Prop} {μ μ' : Mu} {H H' : Hp} {σ : List (Option V)} {env : Env}
theorem Ext.dn (e : Ext μ H μ' H') {a : Addr} (h : H a ≠ none) (n : ¬ Dn Xc μ a) : ¬ Dn Xc μ' a := by
  intro z
  rcases z with z | z
  · have hn : μ a = none := by
      cases q : μ a with
      | none => rfl
      | some c => exact (n (.inl (by rw [q]; rfl))).elim
    rw [e.nonew a h hn] at z
    cases z
  · exact n (.inr z)
theorem dn_none {a : Addr} (n : ¬ Dn Xc μ a) : μ a = none := by
  cases q : μ a with
  | none => rfl
  | some c => exact (n (.inl (by rw [q]; rfl))).elim
mutual
theorem Den.ext (e : Ext μ H μ' H') : ∀ (v : Val) (x : V), Den K (Dn Xc μ) H v x → Den K (Dn Xc μ') H' v x
  | .non, x, h => h
  | .bl _, x, h => h
  | .int _, x, h => h
  | .str _, x, h => h
  | .ref _, x, h => h
  | .exn _ _, x, h => h
  | .ins c l, x, ⟨a, C, dx, xs, e1, n, r, hc, hl⟩ => ⟨a, C, dx, xs, e1, e.dn (rdSome r) n, e.keep a _ r (dn_none n), hc, DenL.ext e l xs hl⟩
  | .tup l, x, ⟨a, xs, e1, ⟨n, r⟩, hl⟩ => ⟨a, xs, e1, ⟨e.dn (rdSome (.inl r)) n, e.keepE a _ r (dn_none n) (fun _ z => by cases z)⟩, DenL.ext e l xs hl⟩
  | .dtt l, x, ⟨a, e1, n, r⟩ => ⟨a, e1, e.dn (rdSome r) n, e.keep a _ r (dn_none n)⟩
  | .lst l, x, ⟨a, xs, e1, h, hl⟩ => ⟨a, xs, e1, h.imp (fun ⟨n, r⟩ => ⟨e.dn (rdSome r) n, e.keep a _ r (dn_none n)⟩) id, DenL.ext e l xs hl⟩
  | .dct l, x, ⟨a, kvs, e1, n, r, hl⟩ => ⟨a, kvs, e1, e.dn (rdSome r) n, e.keep a _ r (dn_none n), DenP.ext e l kvs hl⟩
theorem DenL.ext (e : Ext μ H μ' H') : ∀ (l : List Val) (xs : List V), DenL K (Dn Xc μ) H l xs → DenL K (Dn Xc μ') H' l xs
  | [], xs, h => h
  | v :: r, xs, ⟨x, t, e1, h1, h2⟩ => ⟨x, t, e1, Den.ext e v x h1, DenL.ext e r t h2⟩
theorem DenP.ext (e : Ext μ H μ' H') : ∀ (l : List Val) (kvs : List (Key × V)), DenP K (Dn Xc μ) H l kvs → DenP K (Dn Xc μ') H' l kvs
  | [], kvs, h => h
  | .tup [kv, v] :: r, kvs, ⟨k, x, t, e1, ek, h1, h2⟩ => ⟨k, x, t, e1, ek, Den.ext e v x h1, DenP.ext e r t h2⟩
  | .tup [] :: _, kvs, h => h
  | .tup [_] :: _, kvs, h => h
  | .tup (_ :: _ :: _ :: _) :: _, kvs, h => h
  | .non :: _, kvs, h => h
  | .bl _ :: _, kvs, h => h
  | .int _ :: _, kvs, h => h
  | .str _ :: _, kvs, h => h
  | .lst _ :: _, kvs, h => h
  | .dct _ :: _, kvs, h => h
  | .ref _ :: _, kvs, h => h
  | .exn _ _ :: _, kvs, h => h
  | .ins _ _ :: _, kvs, h => h
  | .dtt _ :: _, kvs, h => h
end
theorem CRel.ext (e : Ext μ H μ' H') {c : Val} {o : HO} (h : CRel K (Dn Xc μ) H c o) : CRel K (Dn Xc μ') H' c o := by
  cases c with
  | lst l => obtain ⟨xs, e1, hl⟩ := h; exact ⟨xs, e1, DenL.ext e l xs hl⟩
  | dct l => obtain ⟨kvs, e1, hl⟩ := h; exact ⟨kvs, e1, DenP.ext e l kvs hl⟩
  | ins c l => obtain ⟨C, dx, xs, e1, hc, hl⟩ := h; exact ⟨C, dx, xs, e1, hc, DenL.ext e l xs hl⟩
  | dtt l => exact h
  | _ => exact h.elim

theorem DenL.length : ∀ {l : List Val} {xs : List V} {D : Addr → Prop}, DenL K D H l xs → l.length = xs.length
  | [], xs, D, h => by rw [show xs = [] from h]; rfl
  | v :: r, xs, D, ⟨x, t, e1, h1, h2⟩ => by rw [e1, List.length_cons, List.length_cons, DenL.length h2]
theorem DenL.get : ∀ {l : List Val} {xs : List V} {D : Addr → Prop} {i : Nat} {v : Val}, DenL K D H l xs → l[i]? = some v → ∃ x, xs[i]? = some x ∧ Den K D H v x
  | [], xs, D, i, v, h, e => by simp at e
  | w :: r, xs, D, 0, v, ⟨x, t, e1, h1, h2⟩, e => by
    simp only [List.getElem?_cons_zero, Option.some.injEq] at e
    subst e; subst e1
    exact ⟨x, rfl, h1⟩
  | w :: r, xs, D, i + 1, v, ⟨x, t, e1, h1, h2⟩, e => by
    subst e1
    obtain ⟨y, e2, h3⟩ := DenL.get (i := i) (v := v) h2 (by simpa using e)
    exact ⟨y, by simpa using e2, h3⟩
theorem DenL.append : ∀ {l r : List Val} {xs ys : List V} {D : Addr → Prop}, DenL K D H l xs → DenL K D H r ys → DenL K D H (l ++ r) (xs ++ ys)
  | [], r, xs, ys, D, h, h' => by rw [show xs = [] from h]; exact h'
  | v :: l, r, xs, ys, D, ⟨x, t, e1, h1, h2⟩, h' => by subst e1; exact ⟨x, t ++ ys, rfl, h1, DenL.append h2 h'⟩
theorem DenL.drop : ∀ {l : List Val} {xs : List V} {D : Addr → Prop} (n : Nat), DenL K D H l xs → DenL K D H (l.drop n) (xs.drop n)
  | l, xs, D, 0, h => h
  | [], xs, D, n + 1, h => by rw [show xs = [] from h]; exact rfl
  | v :: l, xs, D, n + 1, ⟨x, t, e1, h1, h2⟩ => by subst e1; exact DenL.drop n h2
theorem DenL.take : ∀ {l : List Val} {xs : List V} {D : Addr → Prop} (n : Nat), DenL K D H l xs → DenL K D H (l.take n) (xs.take n)
  | l, xs, D, 0, h => rfl
  | [], xs, D, n + 1, h => by rw [show xs = [] from h]; exact rfl
  | v :: l, xs, D, n + 1, ⟨x, t, e1, h1, h2⟩ => by subst e1; exact ⟨x, t.take n, rfl, h1, DenL.take n h2⟩
theorem DenL.set : ∀ {l : List Val} {xs : List V} {D : Addr → Prop} {v : Val} {x : V} (n : Nat), DenL K D H l xs → Den K D H v x → DenL K D H (l.set n v) (xs.set n x)
  | [], xs, D, v, x, n, h, hv => by rw [show xs = [] from h]; exact rfl
  | w :: l, xs, D, v, x, 0, ⟨y, t, e1, h1, h2⟩, hv => by subst e1; exact ⟨x, t, rfl, hv, h2⟩
  | w :: l, xs, D, v, x, n + 1, ⟨y, t, e1, h1, h2⟩, hv => by subst e1; exact ⟨y, t.set n x, rfl, h1, DenL.set n h2 hv⟩
theorem DenL.eraseIdx : ∀ {l : List Val} {xs : List V} {D : Addr → Prop} (n : Nat), DenL K D H l xs → DenL K D H (l.eraseIdx n) (xs.eraseIdx n)
  | [], xs, D, n, h => by rw [show xs = [] from h]; exact rfl
  | w :: l, xs, D, 0, ⟨y, t, e1, h1, h2⟩ => by subst e1; exact h2
  | w :: l, xs, D, n + 1, ⟨y, t, e1, h1, h2⟩ => by subst e1; exact ⟨y, t.eraseIdx n, rfl, h1, DenL.eraseIdx n h2⟩
theorem DenL.dropLast {l : List Val} {xs : List V} {D : Addr → Prop} (h : DenL K D H l xs) : DenL K D H l.dropLast xs.dropLast := by
  rw [List.dropLast_eq_take, List.dropLast_eq_take, h.length]
  exact h.take _
theorem DenL.nil_iff {l : List Val} {xs : List V} {D : Addr → Prop} (h : DenL K D H l xs) : l.isEmpty = xs.isEmpty := by
  cases l with
  | nil => rw [show xs = [] from h]; rfl
  | cons v r => obtain ⟨x, t, e1, _⟩ := h; rw [e1]; rfl

/-! ### a new object -/
theorem Ext.laid {p : Addr} {o : HO} (hp : H p = none) : Ext μ H μ (upd H p o) where
  keepO := fun a u h n => by
    have ne : a ≠ p := fun z => by rw [z, hp] at h; cases h
    rw [upd_ne ne]; exact .inl h
  nonew := fun _ _ n => n
  there := fun a h => by
    by_cases e : a = p
    · rw [e, upd_same]; intro z; cases z
    · rw [upd_ne e]; exact h
theorem MRel.xcn (m : MRel K Xc μ H) {p : Addr} (h : Xc p) (hp : H p = none) : False := by
  obtain ⟨⟨o, e, _⟩, _⟩ := m.xc p h
  rw [hp] at e
  cases e
theorem Nf.upd {a p : Addr} {o : HO} (h : Nf H a) (hp : H p = none) : Nf (upd H p o) a := by
  obtain ⟨u, e, n⟩ := h
  exact ⟨u, by rw [upd_ne (fun z => by rw [z, hp] at e; cases e)]; exact e, n⟩
theorem CRel.nf {D : Addr → Prop} {c : Val} {o : HO} (h : CRel K D H c o) : ∀ ob u, o ≠ .frz ob u := fun ob u z => by
  subst z
  cases c with
  | lst l => obtain ⟨_, e, _⟩ := h; cases e
  | dct l => obtain ⟨_, e, _⟩ := h; cases e
  | ins c l => obtain ⟨_, _, _, e, _⟩ := h; cases e
  | dtt l => cases h
  | _ => exact h.elim
theorem Ext.frz (e : Ext μ H μ' H') (m : MRel K Xc μ H) {a : Addr} {ob : Obj} {u : HO} (h : H a = some (.frz ob u)) : H' a = some (.frz ob u) := by
  refine e.keepE a _ h ?_ (fun _ z => by cases z)
  cases q : μ a with
  | none => rfl
  | some c =>
    obtain ⟨o, e1, r⟩ := m.obj a c q
    rw [h] at e1
    cases e1
    exact (r.nf ob u rfl).elim
theorem MRel.fresh (m : MRel K Xc μ H) {p : Addr} (hp : H p = none) : ¬ Dn Xc μ p := by
  intro z
  rcases z with z | z
  · cases q : μ p with
    | none => rw [q] at z; cases z
    | some c =>
      obtain ⟨o, e, _⟩ := m.obj p c q
      rw [hp] at e; cases e
  · exact m.xcn z hp
theorem MRel.laid (m : MRel K Xc μ H) {p : Addr} {o : HO} (hp : H p = none) : MRel K Xc μ (upd H p o) where
  obj := fun a c h => by
    obtain ⟨u, e, r⟩ := m.obj a c h
    exact ⟨u, by rw [upd_ne (ne_of_none e hp)]; exact e, r.ext (Ext.laid hp)⟩
  xc := fun a h => ⟨(m.xc a h).1.upd hp, (m.xc a h).2⟩
theorem SRel.of_ext {H' : Hp} {μ' : Mu} (s : SRel K Xc σ H env μ) (m : MRel K Xc μ' H') (e : Ext μ H μ' H') : SRel K Xc σ H' env μ' where
  m := m
  slot := fun i v h => by
    obtain ⟨x, e1, d⟩ := s.slot i v h
    exact ⟨x, e1, d.ext e⟩
  len := s.len
theorem SRel.laid (s : SRel K Xc σ H env μ) {p : Addr} {o : HO} (hp : H p = none) : SRel K Xc σ (upd H p o) env μ := s.of_ext (s.m.laid hp) (Ext.laid hp)

theorem Mu.set_same {a : Addr} {c : Val} : (μ.set a c) a = some c := by unfold Mu.set; rw [if_pos rfl]
theorem Mu.set_ne {a b : Addr} {c : Val} (h : b ≠ a) : (μ.set a c) b = μ b := by unfold Mu.set; rw [if_neg h]
theorem Ext.laidM {p : Addr} {o : HO} {c : Val} (hp : H p = none) : Ext μ H (μ.set p c) (upd H p o) where
  keepO := (Ext.laid (μ := μ) hp).keepO
  nonew := fun a h n => by
    have ne : a ≠ p := fun z => h (by rw [z]; exact hp)
    rw [Mu.set_ne ne]; exact n
  there := (Ext.laid (μ := μ) hp).there
theorem MRel.laidM (m : MRel K Xc μ H) {p : Addr} {o : HO} {c : Val} (hp : H p = none) (r : CRel K (Dn Xc μ) H c o) : MRel K Xc (μ.set p c) (upd H p o) where
  obj := fun a c' h => by
    by_cases e : a = p
    · subst e
      rw [Mu.set_same] at h; cases h
      exact ⟨o, upd_same, r.ext (Ext.laidM hp)⟩
    · rw [Mu.set_ne e] at h
      obtain ⟨u, e1, r1⟩ := m.obj a c' h
      exact ⟨u, by rw [upd_ne e]; exact e1, r1.ext (Ext.laidM hp)⟩
  xc := fun a h => ⟨(m.xc a h).1.upd hp, by rw [Mu.set_ne (fun z => by subst z; exact m.xcn h hp)]; exact (m.xc a h).2⟩
theorem SRel.laidM (s : SRel K Xc σ H env μ) {p : Addr} {o : HO} {c : Val} (hp : H p = none) (r : CRel K (Dn Xc μ) H c o) : SRel K Xc σ (upd H p o) env (μ.set p c) := s.of_ext (s.m.laidM hp r) (Ext.laidM hp)

theorem Ext.put {a : Addr} {c c' : Val} {o : HO} (h : μ a = some c) : Ext μ H (μ.set a c') (upd H a o) where
  keepO := fun b u r n => by
    have ne : b ≠ a := fun z => by rw [z, h] at n; cases n
    rw [upd_ne ne]; exact .inl r
  nonew := fun b _ n => by
    have ne : b ≠ a := fun z => by rw [z, h] at n; cases n
    rw [Mu.set_ne ne]; exact n
  there := fun b q => by
    by_cases e : b = a
    · rw [e, upd_same]; intro z; cases z
    · rw [upd_ne e]; exact q
theorem MRel.put (m : MRel K Xc μ H) {a : Addr} {c c' : Val} {o : HO} (h : μ a = some c) (r : CRel K (Dn Xc μ) H c' o) : MRel K Xc (μ.set a c') (upd H a o) where
  obj := fun b d hb => by
    by_cases e : b = a
    · subst e
      rw [Mu.set_same] at hb; cases hb
      exact ⟨o, upd_same, r.ext (Ext.put h)⟩
    · rw [Mu.set_ne e] at hb
      obtain ⟨u, e1, r1⟩ := m.obj b d hb
      exact ⟨u, by rw [upd_ne e]; exact e1, r1.ext (Ext.put h)⟩
  xc := fun b q => by
    obtain ⟨⟨u, e1, n⟩, n2⟩ := m.xc b q
    have e : b ≠ a := fun z => by rw [z, h] at n2; cases n2
    exact ⟨⟨u, by rw [upd_ne e]; exact e1, n⟩, by rw [Mu.set_ne e]; exact n2⟩
theorem SRel.put (s : SRel K Xc σ H env μ) {a : Addr} {c c' : Val} {o : HO} (h : μ a = some c) (r : CRel K (Dn Xc μ) H c' o) : SRel K Xc σ (upd H a o) env (μ.set a c') := s.of_ext (s.m.put h r) (Ext.put h)

/-! ### what is seen of a value -/
theorem MRel.lst (m : MRel K Xc μ H) {v : Val} {x : V} {l : List Val} (d : Den K (Dn Xc μ) H v x) (h : content μ v = some (.lst l)) : ∃ a xs, x = .ref a ∧ SqL K H a xs ∧ DenL K (Dn Xc μ) H l xs := by
  cases v with
  | ref a =>
    obtain ⟨o, e, xs, e1, hl⟩ := m.obj a _ h
    subst e1
    exact ⟨a, xs, d, SqL.of e, hl⟩
  | lst l' =>
    cases h
    obtain ⟨a, xs, e1, q, hl⟩ := d
    refine ⟨a, xs, e1, ?_, hl⟩
    rcases q with ⟨_, q⟩ | q
    · exact .inl q
    · exact .inr q
  | _ => cases h
theorem MRel.lstM (m : MRel K Xc μ H) {a : Addr} {l : List Val} (h : μ a = some (.lst l)) : ∃ xs, H a = some (.lst xs) ∧ DenL K (Dn Xc μ) H l xs := by
  obtain ⟨o, e, xs, e1, hl⟩ := m.obj a _ h
  subst e1
  exact ⟨xs, e, hl⟩
theorem MRel.dctM (m : MRel K Xc μ H) {a : Addr} {l : List Val} (h : μ a = some (.dct l)) : ∃ kvs, H a = some (.dK kvs) ∧ DenP K (Dn Xc μ) H l kvs := by
  obtain ⟨o, e, kvs, e1, hl⟩ := m.obj a _ h
  subst e1
  exact ⟨kvs, e, hl⟩
theorem MRel.tup (m : MRel K Xc μ H) {v : Val} {x : V} {l : List Val} (d : Den K (Dn Xc μ) H v x) (h : content μ v = some (.tup l)) : ∃ a xs, x = .ref a ∧ SqT K H a xs ∧ DenL K (Dn Xc μ) H l xs := by
  cases v with
  | ref a =>
    obtain ⟨o, e, r⟩ := m.obj a _ h
    exact r.elim
  | tup l' =>
    cases h
    obtain ⟨a, xs, e1, q, hl⟩ := d
    exact ⟨a, xs, e1, .inl (.inl q.2), hl⟩
  | _ => cases h
theorem MRel.dct (m : MRel K Xc μ H) {v : Val} {x : V} {l : List Val} (d : Den K (Dn Xc μ) H v x) (h : content μ v = some (.dct l)) : ∃ a kvs, x = .ref a ∧ Rd H a (.dK kvs) ∧ DenP K (Dn Xc μ) H l kvs := by
  cases v with
  | ref a =>
    obtain ⟨o, e, kvs, e1, hl⟩ := m.obj a _ h
    subst e1
    exact ⟨a, kvs, d, .inl e, hl⟩
  | dct l' =>
    cases h
    obtain ⟨a, kvs, e1, n, q, hl⟩ := d
    exact ⟨a, kvs, e1, q, hl⟩
  | _ => cases h
theorem MRel.flat (m : MRel K Xc μ H) {v w : Val} {x : V} (d : Den K (Dn Xc μ) H v x) (h : content μ v = some w) (hw : match w with | .non | .bl _ | .int _ | .str _ => True | _ => False) : Den K (Dn Xc μ) H w x := by
  cases v with
  | ref a =>
    obtain ⟨o, e, r⟩ := m.obj a _ h
    cases w <;> first | exact r.elim | exact hw.elim
  | _ => cases h; exact d
end
end Mi
/-! Mi3: the language's expressions against the layer's judgements. -/
namespace Mi
open PySem PySem.Spec PyProof.Rows L2

/-! ### readings -/
def excNames : List String := ["FoldError", "Twice", "NoDeed", "WrongCount", "TooDeep", "TooLong", "TooBig", "NoCall", "NoMark", "TooMany", "Called", "NoWay", "NoRow", "NoBack", "Broken", "Ringed", "BadRun", "NoText"]
structure IsExc (K : Fr) (mg : Str → Option Value) (c : String) : Prop where
  ex : ∀ cls, mg (Str.ofString c) = some cls → ∀ h ∈ excNames, ∀ c', mg (Str.ofString h) = some c' → PySem.W.exmOne K cls c' = some (isSub c h)
  kit : ∀ cls, mg (Str.ofString c) = some cls → ∃ D, cls = .ref D ∧ ExcC K D ∧ (∀ h ∈ excNames, ∀ c', mg (Str.ofString h) = some c' → (∃ C, c' = .ref C) ∧ PySem.W.kitOne K cls c' = some (isSub c h)) ∧ PySem.W.kitOne K cls (.type "ValueError") = some true
def ExR (K : Fr) (mg : Str → Option Value) (e : Val) (cls : Value) (d : Option Addr) : Prop := ∃ c, e = .exn c [] ∧ mg (Str.ofString c) = some cls ∧ IsExc K mg c ∧ d = none
section
variable (K : Fr) (mg : Str → Option Value) (W : WX) (Xc : Addr → Prop) (σ : List (Option V)) (H : Hp) (env : Env) (μ : Mu)
def EPost (Q : VK) : Val → Mu → Prop := fun v μ' => ∀ x H', SRel K Xc σ H' env μ' → Ext μ H μ' H' → Den K (Dn Xc μ') H' v x → Q x H'
def LPost (Q : List V → Hp → Prop) : List Val → Mu → Prop := fun vs μ' => ∀ xs H', SRel K Xc σ H' env μ' → Ext μ H μ' H' → DenL K (Dn Xc μ') H' vs xs → Q xs H'
def TPost (Q : Bool → Hp → Prop) : Val → Mu → Prop := fun v μ' => match truthV μ' v with
  | some b => ∀ H', SRel K Xc σ H' env μ' → Ext μ H μ' H' → Q b H'
  | none => False
def XPost : XQ := fun e μ' => ∀ cls d H', SRel K Xc σ H' env μ' → Ext μ H μ' H' → ExR K mg e cls d → W cls d σ H'
end
def rdE (K : Fr) (mg : Str → Option Value) (Φ : Ph) (W : WX) (e : E) : TE := fun σ H Q => ∃ Xc env μ, SRel K Xc σ H env μ ∧ wpE Φ e env μ (EPost K Xc σ H env μ Q) (XPost K mg W Xc σ H env μ)
def rdA (K : Fr) (mg : Str → Option Value) (Φ : Ph) (W : WX) (l : Es) : TA := fun σ H Q => ∃ Xc env μ, SRel K Xc σ H env μ ∧ wpEs Φ l env μ (LPost K Xc σ H env μ Q) (XPost K mg W Xc σ H env μ)
def rdT (K : Fr) (mg : Str → Option Value) (Φ : Ph) (W : WX) (e : E) : TT := fun σ H Q => ∃ Xc env μ, SRel K Xc σ H env μ ∧ wpE Φ e env μ (TPost K Xc σ H env μ Q) (XPost K mg W Xc σ H env μ)

def NewRel (K : Fr) (D : Addr → Prop) (H : Hp) (v : Val) (o : HO) : Prop := match v with
  | .tup l => ∃ xs, o = .tup xs ∧ DenL K D H l xs
  | v => CRel K D H v o
def FPost (K : Fr) (Xc : Addr → Prop) (σ : List (Option V)) (H : Hp) (env : Env) (μ : Mu) (Q : VK) : Val → Mu → Prop := fun v μ' => ∀ p o H1, SRel K Xc σ H1 env μ' → Ext μ H μ' H1 → H1 p = none → NewRel K (Dn Xc μ') H1 v o → Q (.ref p) (upd H1 p o)
def rdF (K : Fr) (mg : Str → Option Value) (Φ : Ph) (W : WX) (e : E) : TE := fun σ H Q => ∃ Xc env μ, SRel K Xc σ H env μ ∧ wpE Φ e env μ (FPost K Xc σ H env μ Q) (XPost K mg W Xc σ H env μ)

abbrev SE (X : Cx) (Φ : Ph) (W : WX) (a : Expr) (e : E) : Prop := PE X a (rdE X.K X.mg Φ W e)
abbrev SA (X : Cx) (Φ : Ph) (W : WX) (a : List Expr) (e : Es) : Prop := PA X a (rdA X.K X.mg Φ W e)
abbrev ST (X : Cx) (Φ : Ph) (W : WX) (a : Expr) (e : E) : Prop := PT X a (rdT X.K X.mg Φ W e)
abbrev SW (X : Cx) (Φ : Ph) (W : WX) (a : Expr) (e : E) : Prop := PW X a (rdT X.K X.mg Φ W e)
abbrev SF (X : Cx) (Φ : Ph) (W : WX) (a : Expr) (e : E) : Prop := PE X a (rdF X.K X.mg Φ W e)

theorem PE.imp {X : Cx} {a : Expr} {t t' : TE} (h : PE X a t) (f : ∀ σ H Q, t' σ H Q → t σ H Q) : PE X a t' := ⟨fun pins s σ H Q I q => h.run pins s σ H Q I (f _ _ _ q)⟩
theorem PA.imp {X : Cx} {a : List Expr} {t t' : TA} (h : PA X a t) (f : ∀ σ H Q, t' σ H Q → t σ H Q) : PA X a t' := ⟨fun pos pins s σ H Q I q => h.run pos pins s σ H Q I (f _ _ _ q)⟩
theorem PT.imp {X : Cx} {a : Expr} {t t' : TT} (h : PT X a t) (f : ∀ σ H Q, t' σ H Q → t σ H Q) : PT X a t' := ⟨fun pins s σ H Q I q => h.run pins s σ H Q I (f _ _ _ q)⟩
theorem PW.imp {X : Cx} {a : Expr} {t t' : TT} (h : PW X a t) (f : ∀ σ H Q, t' σ H Q → t σ H Q) : PW X a t' := ⟨fun wh pins s σ H Q I q => h.run wh pins s σ H Q I (f _ _ _ q)⟩

section
variable {K : Fr} {mg : Str → Option Value} {Φ : Ph} {W : WX} {Xc : Addr → Prop} {σ : List (Option V)} {H H0 : Hp} {env : Env} {μ μ0 : Mu}
theorem XPost.from {e : Val} {μ' : Mu} (E0 : Ext μ0 H0 μ H) (h : XPost K mg W Xc σ H0 env μ0 e μ') : XPost K mg W Xc σ H env μ e μ' := fun cls d H' S E r => h cls d H' S (E0.trans E) r
theorem use (hΦ : MonoP Φ) {e : E} {F : Val → Mu → Prop} {R : VK} (S : SRel K Xc σ H env μ) (E0 : Ext μ0 H0 μ H) (q : wpE Φ e env μ F (XPost K mg W Xc σ H0 env μ0))
    (k : ∀ v μ1 x H1, SRel K Xc σ H1 env μ1 → Ext μ H μ1 H1 → Ext μ0 H0 μ1 H1 → Den K (Dn Xc μ1) H1 v x → F v μ1 → R x H1) : rdE K mg Φ W e σ H R :=
  ⟨Xc, env, μ, S, wpE_mono hΦ e env μ _ _ _ _ (fun v μ1 f x H1 S1 E1 d => k v μ1 x H1 S1 E1 (E0.trans E1) d f) (fun v μ1 f => XPost.from E0 f) q⟩
theorem useT (hΦ : MonoP Φ) {e : E} {F : Val → Mu → Prop} {R : Bool → Hp → Prop} (S : SRel K Xc σ H env μ) (E0 : Ext μ0 H0 μ H) (q : wpE Φ e env μ F (XPost K mg W Xc σ H0 env μ0))
    (t : ∀ v μ1, F v μ1 → truthV μ1 v ≠ none)
    (k : ∀ v μ1 b H1, SRel K Xc σ H1 env μ1 → Ext μ0 H0 μ1 H1 → truthV μ1 v = some b → F v μ1 → R b H1) : rdT K mg Φ W e σ H R :=
  ⟨Xc, env, μ, S, wpE_mono hΦ e env μ _ _ _ _ (fun v μ1 f => by
      unfold TPost
      cases hb : truthV μ1 v with
      | none => exact (t v μ1 f hb).elim
      | some b => exact fun H1 S1 E1 => k v μ1 b H1 S1 (E0.trans E1) hb f) (fun v μ1 f => XPost.from E0 f) q⟩
theorem useA (hΦ : MonoP Φ) {l : Es} {F : List Val → Mu → Prop} {R : List V → Hp → Prop} (S : SRel K Xc σ H env μ) (E0 : Ext μ0 H0 μ H) (q : wpEs Φ l env μ F (XPost K mg W Xc σ H0 env μ0))
    (k : ∀ vs μ1 xs H1, SRel K Xc σ H1 env μ1 → Ext μ H μ1 H1 → Ext μ0 H0 μ1 H1 → DenL K (Dn Xc μ1) H1 vs xs → F vs μ1 → R xs H1) : rdA K mg Φ W l σ H R :=
  ⟨Xc, env, μ, S, wpEs_mono hΦ l env μ _ _ _ _ (fun v μ1 f x H1 S1 E1 d => k v μ1 x H1 S1 E1 (E0.trans E1) d f) (fun v μ1 f => XPost.from E0 f) q⟩

theorem NewRel.den {v : Val} {o : HO} {p : Addr} (m : MRel K Xc μ H) (hp : H p = none) (r : NewRel K (Dn Xc μ) H v o) : Den K (Dn Xc μ) (upd H p o) v (.ref p) := by
  have n := m.fresh hp
  have e : Ext μ H μ (upd H p o) := Ext.laid hp
  cases v with
  | tup l => obtain ⟨xs, rfl, h⟩ := r; exact ⟨p, xs, rfl, ⟨n, upd_same⟩, h.ext e⟩
  | dtt l => obtain rfl : o = .dT (ttK l) := r; exact ⟨p, rfl, n, .inl upd_same⟩
  | lst l => obtain ⟨xs, rfl, h⟩ := r; exact ⟨p, xs, rfl, .inl ⟨n, .inl upd_same⟩, h.ext e⟩
  | dct l => obtain ⟨xs, rfl, h⟩ := r; exact ⟨p, xs, rfl, n, .inl upd_same, h.ext e⟩
  | ins c l => obtain ⟨C, dx, xs, rfl, hc, h⟩ := r; exact ⟨p, C, dx, xs, rfl, n, .inl upd_same, hc, h.ext e⟩
  | _ => exact r.elim
theorem EPost.new {Q : VK} {v : Val} {μ' : Mu} (q : EPost K Xc σ H env μ Q v μ') : FPost K Xc σ H env μ Q v μ' := fun p o H1 S E hp r => q _ _ (S.laid hp) (E.trans (Ext.laid hp)) (r.den S.m hp)
end

section
variable {X : Cx} {Φ : Ph} {W : WX} {a b c : Expr} {pos : Pos}
theorem SF.val (hΦ : MonoP Φ) {e : E} (h : SF X Φ W a e) : SE X Φ W a e := PE.imp h fun σ H Q ⟨Xc, env, μ, S, q⟩ => ⟨Xc, env, μ, S, wpE_mono hΦ e env μ _ _ _ _ (fun v μ1 f => f.new) (fun _ _ z => z) q⟩
theorem SF.new (hΦ : MonoP Φ) {e : E} (h : SF X Φ W a e) : SE X Φ W a (.new e) := PE.imp h fun σ H Q ⟨Xc, env, μ, S, q⟩ => ⟨Xc, env, μ, S, wpE_mono hΦ e env μ _ _ _ _ (fun v μ1 f p o H1 S1 E1 hp r => by
    obtain ⟨hc, k⟩ := f
    have hm : μ1 p = none := dn_none (S1.m.fresh hp)
    have r' : CRel X.K (Dn Xc μ1) H1 v o := by
      cases v with
      | lst l => exact r
      | dct l => exact r
      | dtt l => exact r
      | _ => cases hc
    exact k p hm _ _ (S1.laidM hp r') (E1.trans (Ext.laidM hp)) rfl) (fun _ _ z => z) q⟩

/-! ### names, constants -/
theorem se_v {i : Nat} {x : Str} (h : PE X (.Name x pos) (tVar i)) : SE X Φ W (.Name x pos) (.v i) := PE.imp h fun σ H Q ⟨Xc, env, μ, S, q⟩ => by
  simp only [wpE] at q
  split at q
  · rename_i v hv
    obtain ⟨x, e, d⟩ := S.slot i v hv
    exact ⟨x, e, q x H S Ext.refl d⟩
  · exact q.elim
theorem se_int {i j} : SE X Φ W (.Constant (.int i) j pos) (.c (.int i)) := PE.imp pe_int fun σ H Q ⟨Xc, env, μ, S, q⟩ => q _ H S Ext.refl rfl
theorem se_bl {i j} : SE X Φ W (.Constant (.bool i) j pos) (.c (.bl i)) := PE.imp pe_bl fun σ H Q ⟨Xc, env, μ, S, q⟩ => q _ H S Ext.refl rfl
theorem se_str {x : Str} {j} (h : PyData.strOk x = true) : SE X Φ W (.Constant (.str x) j pos) (.c (.str x)) := PE.imp pe_str fun σ H Q ⟨Xc, env, μ, S, q⟩ => q _ H S Ext.refl ⟨rfl, h⟩

/-! ### argument lists, displays -/
theorem sa_nil : SA X Φ W [] .nil := PA.imp pa_nil fun σ H Q ⟨Xc, env, μ, S, q⟩ => q _ H S Ext.refl rfl
theorem sa_cons (hΦ : MonoP Φ) {es : List Expr} {e : E} {l : Es} (ha : SE X Φ W a e) (hr : SA X Φ W es l) (hs : starEach (a :: es) X.env = (false, eval a X.env) :: starEach es X.env := by rfl) : SA X Φ W (a :: es) (.cons e l) :=
  PA.imp (pa_cons ha hr hs) fun σ H Q ⟨Xc, env, μ, S, q⟩ => by
    rw [wpEs] at q
    exact use hΦ S Ext.refl q fun v μ1 x H1 S1 E1 _ d q1 => useA hΦ S1 E1 q1 fun vs μ2 xs H2 S2 E2 E2' d2 q2 => q2 (x :: xs) H2 S2 E2' ⟨x, xs, rfl, d.ext E2, d2⟩
theorem len_line {l : List Val} {xs : List V} {K : Fr} {D : Addr → Prop} {H : Hp} (h : DenL K D H l xs) (n : Nat) (hl : l.length = n) (hn : n ≤ 1000) : xs.length ≤ sizeLine := by
  rw [← h.length, hl, sizeLine_eq]; omega
def Es.len : Es → Nat
  | .nil => 0
  | .cons _ r => r.len + 1
theorem wpEs_len (hΦ : MonoP Φ) : ∀ (l : Es) (env : Env) (μ : Mu) (F : List Val → Mu → Prop) (Y : XQ), wpEs Φ l env μ F Y → wpEs Φ l env μ (fun vs μ' => vs.length = l.len ∧ F vs μ') Y
  | .nil, env, μ, F, Y, q => ⟨rfl, q⟩
  | .cons e r, env, μ, F, Y, q => by
    rw [wpEs] at q ⊢
    exact wpE_mono hΦ e env μ _ _ _ _ (fun v μ1 q1 => wpEs_mono hΦ r env μ1 _ _ _ _ (fun vs μ2 z => ⟨by rw [List.length_cons, z.1]; rfl, z.2⟩) (fun _ _ z => z) (wpEs_len hΦ r env μ1 _ _ q1)) (fun _ _ z => z) q
theorem sf_lst (hΦ : MonoP Φ) {es : List Expr} {l : Es} (h : SA X Φ W es l) (hl : l.len ≤ 1000 := by decide) : SF X Φ W (.List es pos) (.lst l) :=
  PE.imp (pe_lst h) fun σ H Q ⟨Xc, env, μ, S, q⟩ => by
    rw [wpE] at q
    exact useA hΦ S Ext.refl (wpEs_len hΦ l env μ _ _ q) fun vs μ1 xs H1 S1 E1 _ d ⟨n, q1⟩ => ⟨len_line d _ n hl, fun p hp => q1 p _ H1 S1 E1 hp ⟨xs, rfl, d⟩⟩
theorem se_tup (hΦ : MonoP Φ) {es : List Expr} {l : Es} {k} (h : SA X Φ W es l) (hl : l.len ≤ 1000 := by decide) : SE X Φ W (.Tuple es k pos) (.tup l) := by
  refine SF.val hΦ (PE.imp (pe_tup h) fun σ H Q ⟨Xc, env, μ, S, q⟩ => ?_)
  rw [wpE] at q
  exact useA hΦ S Ext.refl (wpEs_len hΦ l env μ _ _ q) fun vs μ1 xs H1 S1 E1 _ d ⟨n, q1⟩ => ⟨len_line d _ n hl, fun p hp => q1 p _ H1 S1 E1 hp ⟨xs, rfl, d⟩⟩
end
end Mi
/-! Mi3b: text times int, list times int. -/
namespace Mi
open PySem PySem.Spec PyProof.Rows L2
open AutoSeq1 (wpAny_loadPart')

theorem list_mulW (l : Addr) (items : Array Value) (n : Nat) (dd : Option Addr) (sl : Array (Option Value)) (x : Int) (u : Tok) (hc0 : ¬(!Builtin.List.listFitsIndex x) = true) (hc1 : ¬items.size * x.toNat > (2 ^ 63 - 1) / 8) (hc2 : ¬Builtin.List.listTooLong (items.size * x.toNat) = true) :
    Meets (Builtin.«list.__mul__» ⟨[.ref l, .int x u], []⟩) (fun _ R s => s.heap.get? l = some { cls := .type "list", dict := dd, data := .seq items n, slots := sl } ∧ R (.ok (.ret (Value.ref s.heap.objs.size))) { s with heap := s.heap.push { cls := Value.type "list", data := Data.seq (List.foldl (fun x1 x2 => x1 ++ x2) #[] (List.replicate (if items.isEmpty = true then 0 else x.toNat) items)) }, toks := s.toks }) :=
  .of_wp fun prog w A R s h => by
    obtain ⟨hp, g, d, tk, os⟩ := s; obtain ⟨hl, h⟩ := h
    have hsz := PySem.AutoListH.joined_fits hc2
    wp_walk using wpAny_loadPart' hl; refine wpAny_ite_false (decide_eq_false (Nat.not_lt.mpr hsz)) ?_; wp_walk; exact ⟨_, rfl, h⟩
theorem int_rmulW (a : Int) (t : Tok) (l : Addr) (items : Array Value) (n : Nat) (dd : Option Addr) (sl : Array (Option Value)) :
    Meets (Builtin.«int.__rmul__» ⟨[.int a t, .ref l], []⟩) (fun _ R s => s.heap.get? l = some { cls := .type "list", dict := dd, data := .seq items n, slots := sl } ∧ R (.ok (.ret Value.notImplemented)) s) :=
  .of_wp fun prog w A R s h => by obtain ⟨hp, g, d, tk, os⟩ := s; obtain ⟨hl, h⟩ := h; wp_walk using wpAny_loadPart' hl; exact ⟨_, rfl, h⟩
section
variable {X : Cx}
def rRepR (K : Fr) : R2 := fun x y H Q => ∃ l k xs, x = .ref l ∧ y = .int k ∧ SqL K H l xs ∧ -(2 ^ 63) ≤ k ∧ k < 2 ^ 63 ∧ xs.length * k.toNat ≤ sizeLine ∧
  ∀ p, H p = none → Q (.ref p) (upd H p (.lst (List.replicate k.toNat xs).flatten))
theorem op_repR : OpR X (binaryOp .Mult) (rRepR X.K) := by
  intro pins s σ H x y v u Q I rx ry h
  obtain ⟨l, k, xs, rfl, rfl, hH, h1, h2, hz, q⟩ := h
  cases rx
  obtain ⟨t, rfl⟩ := ry
  obtain ⟨its, r, hl, z⟩ := I.list hH
  have el := r.length
  obtain ⟨⟨cls, dd, data, sl⟩, ho, hc, n, hd⟩ := id hl.isList
  simp only at hc hd
  subst hc hd
  have hlen : its.toArray.size * k.toNat ≤ sizeLine := by rw [List.size_toArray, ← el]; exact hz
  have hcap : ¬ its.toArray.size * k.toNat > (2 ^ 63 - 1) / 8 := by
    have : (sizeLine : Nat) ≤ (2 ^ 63 - 1) / 8 := by decide
    omega
  have hfit : ¬ (!Builtin.List.listFitsIndex k) = true := by
    rw [fitsIndex_both h1 h2]
    exact Bool.false_ne_true
  have hlong : ¬ Builtin.List.listTooLong (its.toArray.size * k.toNat) = true := by
    rw [notLongL hlen]
    exact Bool.false_ne_true
  have hnew : List.foldl (fun x1 x2 => x1 ++ x2) #[] (List.replicate (if its.toArray.isEmpty = true then 0 else k.toNat) its.toArray) = (List.replicate k.toNat its).flatten.toArray := by
    have f0 : ∀ m : Nat, List.foldl (fun x1 x2 => x1 ++ x2) #[] (List.replicate m its.toArray) = (List.replicate m its).flatten.toArray := fun m => by
      have := foldl_rep its m []
      rw [List.nil_append] at this
      exact this
    rw [f0]
    cases its with
    | nil => simp
    | cons a r' => rw [if_neg (by simp)]
  refine wpAny_binaryOp_repeat_ref (T := "list") (U := "int") (by decide) ⟨_, ho, rfl⟩ (fun s' => typeIs_int s' k t) noFill_list_mul F.fills_int_mul F.slot_int_rmul repeat_list F.slot_int_index.lookup
    (call_meets F.slot_int_rmul (typeIs_int s k t) F.entry_int_rmul (F.args_int_rmul_2 _ _) (int_rmulW k t l its.toArray n dd sl)
      ⟨ho, rfl, ⟨_, ho, rfl⟩, call_meets F.slot_list_mul ⟨_, ho, rfl⟩ F.entry_list_mul (F.args_list_mul_2 _ _) (list_mulW l its.toArray n dd sl k t hfit hcap hlong) ⟨ho, ?_⟩⟩)
  rw [hnew]
  exact ⟨.ref _, _, I.lnew (t' := s.toks) (r.rep k.toNat) (by rw [PyProof.Rows.lm_len_rep_flat, Nat.mul_comm]; exact hz), rfl, q _ I.fresh⟩

theorem foldl_repS (its : List Nat) : ∀ (k : Nat) (acc : List Nat),
    List.foldl (fun x1 x2 => x1 ++ x2) acc.toArray (List.replicate k its.toArray) = (acc ++ (List.replicate k its).flatten).toArray
  | 0, acc => by simp
  | k + 1, acc => by
    have e : acc.toArray ++ its.toArray = (acc ++ its).toArray := by simp
    have e2 : (acc ++ its) ++ (List.replicate k its).flatten = acc ++ (List.replicate (k + 1) its).flatten := by
      rw [List.replicate_succ, List.flatten_cons, List.append_assoc]
    rw [← e2, ← foldl_repS its k (acc ++ its), ← e, List.replicate_succ, List.foldl_cons]
end
section
variable {X : Cx}
def rRepS : R2 := fun x y H Q => ∃ a k, x = .str a ∧ y = .int k ∧ 1 ≤ k ∧ k < 2 ^ 62 ∧ a.length * k.toNat ≤ sizeLine ∧ Q (.str ⟨(List.replicate k.toNat a.cps.toList).flatten.toArray⟩) H
theorem op_repS : OpR X (binaryOp .Mult) rRepS := by
  intro pins s σ H x y v u Q I rx ry h
  obtain ⟨a, k, rfl, rfl, h1, h2, hz, q⟩ := h
  obtain ⟨t, rfl⟩ := rx
  obtain ⟨t', rfl⟩ := ry
  have hs : (sizeLine : Nat) < 2 ^ 25 := by decide
  have ea : ⟨(List.replicate k.toNat a.cps.toList).flatten.toArray⟩ = (⟨(List.replicate k.toNat a.cps).foldl (· ++ ·) #[]⟩ : Str) := by
    have := foldl_repS a.cps.toList k.toNat []
    rw [List.nil_append] at this
    rw [← this]
  refine PySem.P.mul_str ?_ (fun _ hc => ?_) (fun _ _ => ?_) ?_
  · rw [decide_eq_false (by omega), decide_eq_false (by omega)]; rfl
  · have hk : (0 : Int) < k := by omega
    intro hgt
    have h3 := (Int.ediv_lt_iff_lt_mul hk).mp hgt
    have h4 : ((a.length * k.toNat : Nat) : Int) = (a.length : Int) * k := by
      rw [Int.natCast_mul, Int.toNat_of_nonneg (by omega)]
    omega
  · unfold Builtin.Str.tooLong
    exact decide_eq_false (by omega)
  · rw [if_neg (by omega)]
    have hfit : (⟨(List.replicate k.toNat a.cps).foldl (· ++ ·) #[]⟩ : Str).length ≤ sizeLine := by
      rw [← ea]
      show (List.replicate k.toNat a.cps.toList).flatten.toArray.size ≤ sizeLine
      rw [List.size_toArray, PyProof.Rows.lm_len_rep_flat]
      show k.toNat * a.cps.toList.length ≤ sizeLine
      rw [Array.length_toList, Nat.mul_comm]
      exact hz
    split
    · rename_i hc
      have : a = (⟨(List.replicate k.toNat a.cps.toList).flatten.toArray⟩ : Str) := by
        rcases (Bool.or_eq_true _ _).mp hc with z | z
        · have : k = 1 := by simpa using z
          subst this
          cases a
          simp
        · have z0 : a.length = 0 := by simpa using z
          have : a.cps = #[] := Array.eq_empty_of_size_eq_zero z0
          cases a
          simp only at this
          subst this
          simp
      rw [← this] at q
      exact ⟨.str a, H, I, ⟨_, rfl⟩, q⟩
    · refine ⟨hfit, ?_⟩
      rw [← ea]
      exact ⟨.str _, H, I.tok _, ⟨_, rfl⟩, q⟩
end
end Mi
/-! Mi4: operators. -/
namespace Mi
open PySem PySem.Spec PyProof.Rows L2

structure Fin (K : Fr) (D : Addr → Prop) (H : Hp) (r : Val) (Q : VK) : Prop where
  now : ∀ x, Den K D H r x → Q x H
  new : ∀ p o, H p = none → NewRel K D H r o → Q (.ref p) (upd H p o)
theorem big_line : big = sizeLine := by rw [sizeLine_eq]; rfl

section
variable {K : Fr} {W : WX} {Xc : Addr → Prop} {σ : List (Option V)} {H H0 : Hp} {env : Env} {μ μ0 : Mu}
theorem EPost.fin {Q : VK} {v : Val} (q : EPost K Xc σ H0 env μ0 Q v μ) (S : SRel K Xc σ H env μ) (E : Ext μ0 H0 μ H) : Fin K (Dn Xc μ) H v Q :=
  ⟨fun x d => q x H S E d, fun p o hp r => q.new p o H S E hp r⟩
theorem FPost.fin {Q : VK} {v : Val} (q : FPost K Xc σ H0 env μ0 Q v μ) (S : SRel K Xc σ H env μ) (E : Ext μ0 H0 μ H) {p : Addr} {o : HO} (hp : H p = none) (r : NewRel K (Dn Xc μ) H v o) : Q (.ref p) (upd H p o) := q p o H S E hp r
theorem DenL.nil_l {D : Addr → Prop} {l : List Val} (h : DenL K D H l []) : l = [] := by
  cases l with
  | nil => rfl
  | cons _ _ => obtain ⟨_, _, h, _⟩ := h; cases h
theorem MRel.int (m : MRel K Xc μ H) {v : Val} {x : V} {i : Int} (d : Den K (Dn Xc μ) H v x) (h : content μ v = some (.int i)) : x = .int i := m.flat d h trivial
theorem MRel.strV (m : MRel K Xc μ H) {v : Val} {x : V} {i : Str} (d : Den K (Dn Xc μ) H v x) (h : content μ v = some (.str i)) : x = .str i ∧ PyData.strOk i = true := m.flat d h trivial
end

section
variable {X : Cx} {pins : List (Addr × Obj)} {σ : List (Option V)} {H : Hp} {s : Shared} {l : Addr} {xs : List V}
def rCatR (K : Fr) : R2 := fun x y H Q => ∃ l b xs zs, x = .ref l ∧ y = .ref b ∧ SqL K H l xs ∧ SqL K H b zs ∧ xs.length + zs.length ≤ sizeLine ∧ ∀ p, H p = none → Q (.ref p) (upd H p (.lst (xs ++ zs)))
theorem op_catR : OpR X (binaryOp .Add) (rCatR X.K) := by
  intro pins s σ H x y v u Q I rx ry h
  obtain ⟨l, b, xs, zs, rfl, rfl, hH, hB, hz, q⟩ := h
  cases rx
  cases ry
  obtain ⟨its, r, hl, z⟩ := I.list hH
  obtain ⟨its2, r2, hl2, z2⟩ := I.list hB
  have el := r.length
  have el2 := r2.length
  obtain ⟨⟨cls, dd, data, sl⟩, ho, hc, n, hd⟩ := id hl.isList
  obtain ⟨⟨cls2, dd2, data2, sl2⟩, ho2, hc2, n2, hd2⟩ := id hl2.isList
  simp only at hc hd hc2 hd2
  subst hc hd hc2 hd2
  have ea : its.toArray ++ its2.toArray = (its ++ its2).toArray := by simp
  refine concat_meets ⟨_, ho, rfl⟩ ⟨_, ho2, rfl⟩ noFill_list_add seq_list_add PySem.F.slot_list_add PySem.F.entry_list_add (PySem.F.args_list_add_2 _ _) (list_addW l b its.toArray its2.toArray n n2 dd dd2 sl sl2 (by rw [List.size_toArray, List.size_toArray]; omega)) ⟨ho, ho2, ?_⟩
  rw [ea]
  exact ⟨.ref _, _, I.lnew (t' := s.toks) (r.append r2) (by rw [List.length_append]; omega), rfl, q _ I.fresh⟩
end

theorem strOk_append {a b : Str} (ha : PyData.strOk a = true) (hb : PyData.strOk b = true) : PyData.strOk (a ++ b) = true := by
  unfold PyData.strOk at *
  show ((a.cps ++ b.cps).all _) = true
  rw [Array.all_append, ha, hb]; rfl

theorem all_rep {p : Nat → Bool} {l : List Nat} (h : l.all p = true) : ∀ k : Nat, (List.replicate k l).flatten.all p = true
  | 0 => rfl
  | k + 1 => by rw [List.replicate_succ, List.flatten_cons, List.all_append, h, all_rep h k]; rfl
theorem strOk_rep {a : Str} (k : Int) (ha : PyData.strOk a = true) : PyData.strOk (repS a k) = true := by
  unfold PyData.strOk at *
  show ((List.replicate k.toNat a.cps.toList).flatten.toArray.all _) = true
  rw [List.all_toArray]
  rw [← Array.all_toList] at ha
  exact all_rep ha _
theorem DenL.rep {K : Fr} {D : Addr → Prop} {H : Hp} {l : List Val} {xs : List V} (h : DenL K D H l xs) : ∀ k : Nat, DenL K D H (List.replicate k l).flatten (List.replicate k xs).flatten
  | 0 => rfl
  | k + 1 => by
    rw [List.replicate_succ, List.flatten_cons, List.replicate_succ, List.flatten_cons]
    exact h.append (h.rep k)

def pyOp : Op → Operator
  | .add => .Add
  | .sub => .Sub
  | .mul => .Mult
  | .mod => .Mod
  | .fdiv => .FloorDiv
  | .pow => .Pow

section
variable {X : Cx} {Φ : Ph} {W : WX} {a b c : Expr} {pos : Pos}
def rBin (K : Fr) (o : Op) : R2 := fun x y H Q => ∃ Xc μ v w r, MRel K Xc μ H ∧ Den K (Dn Xc μ) H v x ∧ Den K (Dn Xc μ) H w y ∧ binV μ o v w = some r ∧ Fin K (Dn Xc μ) H r Q
theorem op_bin (o : Op) : OpR X (binaryOp (pyOp o)) (rBin X.K o) := by
  intro pins s σ H x y v u Q I rx ry h
  obtain ⟨Xc, μ, v', w', r, m, d1, d2, e, f⟩ := h
  unfold binV at e
  cases e1 : content μ v' with
  | none => rw [e1] at e; cases e
  | some a =>
    cases e2 : content μ w' with
    | none => rw [e1, e2] at e; cases e
    | some b =>
      rw [e1, e2] at e
      replace e : binC o a b = some r := e
      unfold binC at e
      split at e
      · cases e
        exact op_add pins s σ H x y v u Q I rx ry ⟨_, _, m.int d1 e1, m.int d2 e2, f.now _ rfl⟩
      · split at e
        · rename_i hz
          cases e
          obtain ⟨h1, o1⟩ := m.strV d1 e1
          obtain ⟨h2, o2⟩ := m.strV d2 e2
          exact op_add_str pins s σ H x y v u Q I rx ry ⟨_, _, h1, h2, by rw [← big_line]; exact hz, f.now _ ⟨rfl, strOk_append o1 o2⟩⟩
        · cases e
      · split at e
        · rename_i hz
          cases e
          obtain ⟨a1, xs, h1, q1, l1⟩ := m.lst d1 e1
          obtain ⟨a2, ys, h2, q2, l2⟩ := m.lst d2 e2
          exact op_catR pins s σ H x y v u Q I rx ry ⟨a1, a2, xs, ys, h1, h2, q1, q2, by rw [← big_line, ← l1.length, ← l2.length]; exact hz, fun p hp => f.new p _ hp ⟨_, rfl, l1.append l2⟩⟩
        · cases e
      · split at e
        · rename_i hz
          cases e
          obtain ⟨a1, xs, h1, q1, l1⟩ := m.tup d1 e1
          obtain ⟨a2, ys, h2, q2, l2⟩ := m.tup d2 e2
          subst h1; subst h2
          have side : ∀ {v : Val} {a : Addr} {l : List Val}, Den X.K (Dn Xc μ) H v (.ref a) → content μ v = some (.tup l) → Den X.K (Dn Xc μ) H (.tup l) (.ref a) := fun {v a l} d h => by
            cases v with
            | ref b => obtain ⟨o, _, z⟩ := m.obj b _ h; exact z.elim
            | tup _ => cases h; exact d
            | _ => cases h
          refine op_catA pins s σ H _ _ v u Q I rx ry ⟨a1, a2, xs, ys, rfl, rfl, q1, q2, by rw [← big_line, ← l1.length, ← l2.length]; exact hz, fun z => ?_, fun z z2 => ?_, fun z z2 p hp => f.new p _ hp ⟨_, rfl, l1.append l2⟩⟩
          · subst z
            have h0 := DenL.nil_l l1
            subst h0
            exact f.now _ (by rw [List.nil_append]; exact side d2 e2)
          · subst z2
            have h0 := DenL.nil_l l2
            subst h0
            exact f.now _ (by rw [List.append_nil]; exact side d1 e1)
        · cases e
      · cases e
        exact op_sub pins s σ H x y v u Q I rx ry ⟨_, _, m.int d1 e1, m.int d2 e2, f.now _ rfl⟩
      · split at e
        · rename_i hz
          cases e
          exact op_mul pins s σ H x y v u Q I rx ry ⟨_, _, m.int d1 e1, m.int d2 e2, hz, f.now _ rfl⟩
        · cases e
      · split at e
        · rename_i hz
          cases e
          obtain ⟨h1, o1⟩ := m.strV d1 e1
          exact op_repS pins s σ H x y v u Q I rx ry ⟨_, _, h1, m.int d2 e2, hz.1, hz.2.1, by rw [← big_line]; exact hz.2.2, f.now _ ⟨rfl, strOk_rep _ o1⟩⟩
        · cases e
      · split at e
        · rename_i hz
          cases e
          obtain ⟨a1, xs, h1, q1, l1⟩ := m.lst d1 e1
          exact op_repR pins s σ H x y v u Q I rx ry ⟨a1, _, xs, h1, m.int d2 e2, q1, by omega, by omega, by rw [← big_line, ← l1.length]; exact hz.2.2, fun p hp => f.new p _ hp ⟨_, rfl, l1.rep _⟩⟩
        · cases e
      · split at e
        · rename_i hz
          cases e
          exact op_modN pins s σ H x y v u Q I rx ry ⟨_, _, m.int d1 e1, m.int d2 e2, hz, f.now _ rfl⟩
        · cases e
      · split at e
        · rename_i hz
          cases e
          exact op_fdivN pins s σ H x y v u Q I rx ry ⟨_, _, m.int d1 e1, m.int d2 e2, hz, f.now _ rfl⟩
        · cases e
      · split at e
        · rename_i hz
          cases e
          exact op_pow pins s σ H x y v u Q I rx ry ⟨_, _, m.int d1 e1, m.int d2 e2, hz, f.now _ rfl⟩
        · cases e
      · cases e
theorem se_bin (hΦ : MonoP Φ) (o : Op) {ea eb : E} (ha : SE X Φ W a ea) (hb : SE X Φ W b eb) : SE X Φ W (.BinOp a (pyOp o) b pos) (.bin o ea eb) :=
  PE.imp (pe_op (op_bin o) ha hb) fun σ H Q ⟨Xc, env, μ, S, q⟩ => by
    rw [wpE] at q
    refine use hΦ S Ext.refl q fun v μ1 x H1 S1 E1 _ d q1 => use hΦ S1 E1 q1 fun w μ2 y H2 S2 E2 E2' d2 q2 => ?_
    split at q2
    · rename_i r hr
      exact ⟨Xc, μ2, v, w, r, S2.m, d.ext E2, d2, hr, q2.fin S2 E2'⟩
    · exact q2.elim
/-! ### comparisons of ints -/
def pyCm : Cm → CmpOp
  | .lt => .Lt
  | .le => .LtE
  | .gt => .Gt
  | .ge => .GtE
theorem op_cm (o : Cm) : OpR X (compareOp (pyCm o)) (rI0 fun i j => .bl (cmpI o i j)) := by
  cases o with
  | lt => exact op_lt
  | le => exact op_le
  | gt => exact op_gt
  | ge => exact op_ge
theorem mark_cm (o : Cm) (b : Expr) : behindInMarks (pyCm o) b = false := by cases o <;> exact nomark _
theorem cmpV_ints {c : Cm} {v w : Val} {r : Bool} (h : cmpV c v w = some r) : ∃ i j, v = .int i ∧ w = .int j ∧ r = cmpI c i j := by
  unfold cmpV at h
  split at h
  · cases h; exact ⟨_, _, rfl, rfl, rfl⟩
  · cases h
theorem cmp_read (hΦ : MonoP Φ) {K : Fr} {mg : Str → Option Value} (o : Cm) {ea eb : E} {σ : List (Option V)} {H : Hp} {Q : VK} (h : rdE K mg Φ W (.cmp o ea eb) σ H Q) : tOp (rI0 fun i j => .bl (cmpI o i j)) (rdE K mg Φ W ea) (rdE K mg Φ W eb) σ H Q := by
  obtain ⟨Xc, env, μ, S, q⟩ := h
  rw [wpE] at q
  refine use hΦ S Ext.refl q fun v μ1 x H1 S1 E1 _ d q1 => use hΦ S1 E1 q1 fun w μ2 y H2 S2 E2 E2' d2 q2 => ?_
  split at q2
  · rename_i r hr
    obtain ⟨i, j, rfl, rfl, rfl⟩ := cmpV_ints hr
    exact ⟨i, j, d, d2, q2 _ _ S2 E2' rfl⟩
  · exact q2.elim
end
end Mi
/-! Mi4b: == of tuples whose items are equal, whatever they are. -/
namespace Mi
open PySem PySem.Spec PyProof.Rows L2
open AutoSeq1 (wpAny_loadPart')
section
variable {prog : Program} {w : World}
structure TupTwin (prog : Program) (w : World) (A : Around) (s : Shared) (a b : Addr) (xs ys : Array Value) : Prop where
  fst : ∃ n dd sl, s.heap.get? a = some { cls := .type "tuple", dict := dd, data := .seq xs n, slots := sl }
  snd : ∃ n dd sl, s.heap.get? b = some { cls := .type "tuple", dict := dd, data := .seq ys n, slots := sl }
  size : xs.size = ys.size
  eq : ∀ p ∈ xs.toList.zip ys.toList, SeqAt.EqP prog w A.in1 s p.1 p.2 true
theorem twin_eq (a b : Addr) (xs ys : Array Value) : MeetsIn prog w (Builtin.«tuple.__eq__» ⟨[.ref a, .ref b], []⟩) (fun A R s => TupTwin prog w A s a b xs ys ∧ R (.ok (.ret (.bool true))) s) := by
  intro A R s h
  obtain ⟨hp, g, d, tk, os⟩ := s
  obtain ⟨⟨⟨n, dd, sl, ha⟩, ⟨n2, dd2, sl2, hb⟩, hsz, he⟩, h⟩ := h
  have f2 := AutoSeq1.sub_tuple_tuple
  wp_walk using wpAny_loadPart' ha, wpAny_loadPart' hb, wpAny_forIn_list _ (fun rest b s' => b.1 = none ∧ s' = ⟨hp, g, d, tk, os⟩ ∧ ∀ p ∈ rest, SeqAt.EqP prog w A.in1 ⟨hp, g, d, tk, os⟩ p.1 p.2 true) _
  case turn =>
    rintro ⟨y, x⟩ rest b s' ⟨hb', rfl, hall⟩
    refine wpAny_bind (hall _ List.mem_cons_self _ _ ?_)
    wp_walk
    exact ⟨rfl, rfl, fun p hp => hall p (List.mem_cons_of_mem _ hp)⟩
  case fin =>
    rintro ⟨b1, b2⟩ s' ⟨hb', rfl, hall⟩
    simp only at hb'
    subst hb'
    wp_walk
    simpa [Builtin.Tuple.tupleCompareSizes, hsz] using h
  case h => exact ⟨rfl, rfl, he⟩
theorem twin_ne (a b : Addr) (xs ys : Array Value) : MeetsIn prog w (Builtin.«tuple.__ne__» ⟨[.ref a, .ref b], []⟩) (fun A R s => TupTwin prog w A s a b xs ys ∧ R (.ok (.ret (.bool false))) s) := by
  intro A R s h
  obtain ⟨hp, g, d, tk, os⟩ := s
  obtain ⟨⟨⟨n, dd, sl, ha⟩, ⟨n2, dd2, sl2, hb⟩, hsz, he⟩, h⟩ := h
  have f2 := AutoSeq1.sub_tuple_tuple
  wp_walk using wpAny_loadPart' ha, wpAny_loadPart' hb, wpAny_forIn_list _ (fun rest b s' => b.1 = none ∧ s' = ⟨hp, g, d, tk, os⟩ ∧ ∀ p ∈ rest, SeqAt.EqP prog w A.in1 ⟨hp, g, d, tk, os⟩ p.1 p.2 true) _
  case turn =>
    rintro ⟨y, x⟩ rest b s' ⟨hb', rfl, hall⟩
    refine wpAny_bind (hall _ List.mem_cons_self _ _ ?_)
    wp_walk
    exact ⟨rfl, rfl, fun p hp => hall p (List.mem_cons_of_mem _ hp)⟩
  case fin =>
    rintro ⟨b1, b2⟩ s' ⟨hb', rfl, hall⟩
    simp only at hb'
    subst hb'
    wp_walk
    simpa [Builtin.Tuple.tupleCompareSizes, hsz] using h
  case h => exact ⟨rfl, rfl, he⟩
variable {A : Around} {s : Shared} {a b : Addr} {xs ys : Array Value}
theorem twin_cmpEq (t : TupTwin prog w A s a b xs ys) (hu : A.units < cLine) (E Q : Value → Shared → Prop) (q : Q (.bool true) s) : wpAny (model prog w) A (richCompare .Eq (.ref a) (.ref b)) Q E s := by
  obtain ⟨n, dd, sl, ha⟩ := t.fst
  obtain ⟨n2, dd2, sl2, hb⟩ := t.snd
  have ta : s.TypeIs (.ref a) "tuple" := ⟨_, ha, rfl⟩
  exact wpAny_richCompare_same_room (op := .Eq) ta ⟨_, hb, rfl⟩ PySem.F.slot_tuple_eq (call_meetsIn PySem.F.slot_tuple_eq ta PySem.F.entry_tuple_eq (PySem.F.args_tuple_eq_2 _ _) (twin_eq a b xs ys) ⟨t, show Value.bool true ≠ Value.notImplemented ∧ Q (.bool true) s from ⟨(fun x => nomatch x), q⟩⟩) hu
theorem twin_cmpNe (t : TupTwin prog w A s a b xs ys) (hu : A.units < cLine) (E Q : Value → Shared → Prop) (q : Q (.bool false) s) : wpAny (model prog w) A (richCompare .NotEq (.ref a) (.ref b)) Q E s := by
  obtain ⟨n, dd, sl, ha⟩ := t.fst
  obtain ⟨n2, dd2, sl2, hb⟩ := t.snd
  have ta : s.TypeIs (.ref a) "tuple" := ⟨_, ha, rfl⟩
  exact wpAny_richCompare_same_room (op := .NotEq) ta ⟨_, hb, rfl⟩ PySem.F.slot_tuple_ne (call_meetsIn PySem.F.slot_tuple_ne ta PySem.F.entry_tuple_ne (PySem.F.args_tuple_ne_2 _ _) (twin_ne a b xs ys) ⟨t, show Value.bool false ≠ Value.notImplemented ∧ Q (.bool false) s from ⟨(fun x => nomatch x), q⟩⟩) hu
end
end Mi
/-! Mi5: ==, in, None, and, or, not. -/
namespace Mi
open PySem PySem.Spec PyProof.Rows L2
structure RoomH (k : Nat) (A : Around) : Prop where
  un : A.units + 16 * k + 200 < cLine
theorem roomH_of {k : Nat} {A : Around} (r : Room k A) : RoomH k A := ⟨r.un⟩

mutual
def toPy : Val → PyData
  | .bl b => .bool b
  | .int i => .int i
  | .str s => .str s
  | .tup l => .tuple (toPyL l)
  | .lst l => .list (toPyL l)
  | _ => .none
def toPyL : List Val → List PyData
  | [] => []
  | v :: r => toPy v :: toPyL r
end
mutual
theorem dep_py : ∀ v : Val, (toPy v).depth = dep v
  | .non => rfl
  | .bl _ => rfl
  | .int _ => rfl
  | .str _ => rfl
  | .tup l => by simp only [toPy, dep, PyData.depth, depL_py l]
  | .lst l => by simp only [toPy, dep, PyData.depth, depL_py l]
  | .dct _ => rfl
  | .ref _ => rfl
  | .exn _ _ => rfl
  | .ins _ _ => rfl
  | .dtt _ => rfl
theorem depL_py : ∀ l : List Val, PyData.depthAll (toPyL l) = depL l
  | [] => rfl
  | v :: r => by simp only [toPyL, depL, PyData.depthAll, dep_py v, depL_py r]
end
mutual
theorem eqb_py : ∀ v w : Val, plain v = true → plain w = true → PyData.eqv (toPy v) (toPy w) = eqb v w
  | .non, w, h, h' => by cases w <;> first | rfl | cases h'
  | .bl _, w, h, h' => by cases w <;> first | rfl | cases h'
  | .int _, w, h, h' => by cases w <;> first | rfl | cases h'
  | .str _, w, h, h' => by cases w <;> first | rfl | cases h'
  | .tup l, w, h, h' => by
    cases w with
    | tup r => exact eqbL_py l r h h'
    | _ => first | rfl | cases h'
  | .lst l, w, h, h' => by
    cases w with
    | lst r => exact eqbL_py l r h h'
    | _ => first | rfl | cases h'
  | .dct _, _, h, _ => by cases h
  | .ref _, _, h, _ => by cases h
  | .exn _ _, _, h, _ => by cases h
  | .ins _ _, _, h, _ => by cases h
  | .dtt _, _, h, _ => by cases h
theorem eqbL_py : ∀ l r : List Val, plainL l = true → plainL r = true → PyData.eqvAll (toPyL l) (toPyL r) = eqbL l r
  | [], [], _, _ => rfl
  | [], _ :: _, _, _ => rfl
  | _ :: _, [], _, _ => rfl
  | v :: l, w :: r, h, h' => by
    have h1 := Bool.and_eq_true_iff.mp h
    have h2 := Bool.and_eq_true_iff.mp h'
    simp only [toPyL, PyData.eqvAll, eqbL, eqb_py v w h1.1 h2.1, eqbL_py l r h1.2 h2.2]
end
theorem any_py : ∀ (l : List Val) (x : Val), plain x = true → plainL l = true → (toPyL l).any (fun y => PyData.eqv y (toPy x)) = l.any fun y => eqb y x
  | [], _, _, _ => rfl
  | v :: r, x, hx, h => by
    have h1 := Bool.and_eq_true_iff.mp h
    simp only [toPyL, List.any_cons, eqb_py v x h1.1 hx, any_py r x hx h1.2]
section
variable {K : Fr} {D : Addr → Prop} {H : Hp}
mutual
theorem dp_of : ∀ (v : Val) (x : V), plain v = true → Den K D H v x → Dp K H x (toPy v) ∧ (toPy v).canLay0 = true
  | .non, x, _, h => by rw [show x = _ from h]; exact ⟨.non, by simp [toPy, PyData.canLay0]⟩
  | .bl b, x, _, h => by rw [show x = _ from h]; exact ⟨.bl b, by simp [toPy, PyData.canLay0]⟩
  | .int b, x, _, h => by rw [show x = _ from h]; exact ⟨.int b, by simp [toPy, PyData.canLay0]⟩
  | .str b, x, _, h => by
    obtain ⟨e, o⟩ := h
    rw [e]
    exact ⟨.str b, by simpa [toPy, PyData.canLay0] using o⟩
  | .tup l, x, p, ⟨a, xs, e, q, hl⟩ => by
    obtain ⟨h1, h2⟩ := dpL_of l xs p hl
    rw [e]
    exact ⟨.tup (.inl (.inl q.2)) h1, by simpa [toPy, PyData.canLay0] using h2⟩
  | .lst l, x, p, ⟨a, xs, e, q, hl⟩ => by
    obtain ⟨h1, h2⟩ := dpL_of l xs p hl
    rw [e]
    refine ⟨.lst ?_ h1, by simpa [toPy, PyData.canLay0] using h2⟩
    rcases q with ⟨_, q⟩ | q
    · exact .inl q
    · exact .inr q
  | .dct _, _, h, _ => by cases h
  | .ref _, _, h, _ => by cases h
  | .exn _ _, _, h, _ => by cases h
  | .ins _ _, _, h, _ => by cases h
  | .dtt _, _, h, _ => by cases h
theorem dpL_of : ∀ (l : List Val) (xs : List V), plainL l = true → DenL K D H l xs → DpAll K H xs (toPyL l) ∧ PyData.canLayAll0 (toPyL l) = true
  | [], xs, _, h => by rw [show xs = _ from h]; exact ⟨.nil, by simp [toPyL, PyData.canLayAll0]⟩
  | v :: r, xs, p, ⟨x, t, e, h1, h2⟩ => by
    have p1 := Bool.and_eq_true_iff.mp p
    obtain ⟨a1, a2⟩ := dp_of v x p1.1 h1
    obtain ⟨b1, b2⟩ := dpL_of r t p1.2 h2
    rw [e]
    exact ⟨.cons a1 b1, by simp [toPyL, PyData.canLayAll0, a2, b2]⟩
end
end
section
variable {K : Fr} {Xc : Addr → Prop} {H : Hp} {μ : Mu}
theorem MRel.dp (m : MRel K Xc μ H) {v w : Val} {x : V} (d : Den K (Dn Xc μ) H v x) (e : content μ v = some w) (p : plain w = true) : Dp K H x (toPy w) ∧ (toPy w).canLay0 = true := by
  cases v with
  | ref a =>
    obtain ⟨o, ho, r⟩ := m.obj a w e
    cases w with
    | lst l =>
      obtain ⟨xs, rfl, hl⟩ := r
      obtain ⟨h1, h2⟩ := dpL_of l xs p hl
      rw [show x = V.ref a from d]
      exact ⟨.lst (SqL.of ho) h1, by simpa [toPy, PyData.canLay0] using h2⟩
    | dct l => cases p
    | ins _ _ => cases p
    | dtt _ => cases p
    | _ => exact r.elim
  | _ => cases e; exact dp_of _ x p d
end

section
variable {X : Cx} {Φ : Ph} {W : WX} {a b c : Expr} {pos : Pos}
def pyEq : Eqm → CmpOp
  | .eq => .Eq
  | .ne => .NotEq
def flip (o : Eqm) (r : Bool) : Bool := match o with | .eq => r | .ne => !r
def pyIn : Inm → CmpOp
  | .isin => .In
  | .notin => .NotIn
def flipI (o : Inm) (r : Bool) : Bool := match o with | .isin => r | .notin => !r

theorem den_flat {K : Fr} {D : Addr → Prop} {H : Hp} {v w : Val} {x y : V} (d : Den K D H v x) (d' : Den K D H w y) (h : flatEq v w = true) : x = y ∧ flatB x = true := by
  unfold flatEq at h
  split at h
  · rw [show x = _ from d, show y = _ from d']; exact ⟨rfl, rfl⟩
  · rw [show x = _ from d, show y = _ from d', eq_of_beq h]; exact ⟨rfl, rfl⟩
  · rw [show x = _ from d, show y = _ from d', eq_of_beq h]; exact ⟨rfl, rfl⟩
  · rw [d.1, d'.1, eq_of_beq h]; exact ⟨rfl, rfl⟩
  · cases h
theorem keyEq_of {k k' : Val} {j j' : Key} (h : keyOf k = some j) (h' : keyOf k' = some j') : keyEq k k' = decide (j = j') := by
  cases k <;> first | (cases h; done) | skip
  all_goals (cases k' <;> first | (cases h'; done) | skip)
  all_goals (cases h; cases h'; simp only [keyEq])
  · exact (key_ll _ _).symm
  · exact (key_lr _ _).symm
  · exact (key_rl _ _).symm
  · rw [key_rr]; rfl
theorem DenP.look {K : Fr} {D : Addr → Prop} {H : Hp} {k : Val} {j : Key} (hk : keyOf k = some j) : ∀ {l : List Val} {kvs : List (Key × V)}, DenP K D H l kvs →
    (match dLook k l with | some v => ∃ x, valV kvs j = some x ∧ Den K D H v x | none => valV kvs j = none)
  | [], kvs, h => by rw [show kvs = [] from h]; rfl
  | .tup [k', v] :: r, kvs, ⟨j', x, t, e, hk', d, dr⟩ => by
    subst e
    have ih := DenP.look hk dr
    simp only [dLook]
    rw [keyEq_of hk hk']
    by_cases z : j = j'
    · rw [decide_eq_true z, if_pos rfl]
      exact ⟨x, valV_pos z.symm, d⟩
    · rw [decide_eq_false z, if_neg Bool.false_ne_true]
      have e2 : valV ((j', x) :: t) j = valV t j := valV_neg (fun q => z q.symm)
      rw [e2]
      exact ih
  | .tup [] :: _, _, h => h.elim
  | .tup [_] :: _, _, h => h.elim
  | .tup (_ :: _ :: _ :: _) :: _, _, h => h.elim
  | .non :: _, _, h => h.elim
  | .bl _ :: _, _, h => h.elim
  | .int _ :: _, _, h => h.elim
  | .str _ :: _, _, h => h.elim
  | .lst _ :: _, _, h => h.elim
  | .dct _ :: _, _, h => h.elim
  | .ref _ :: _, _, h => h.elim
  | .exn _ _ :: _, _, h => h.elim
  | .ins _ _ :: _, _, h => h.elim
  | .dtt _ :: _, _, h => h.elim
theorem DenP.length {K : Fr} {D : Addr → Prop} {H : Hp} : ∀ {l : List Val} {kvs : List (Key × V)}, DenP K D H l kvs → l.length = kvs.length
  | [], kvs, h => by rw [show kvs = [] from h]; rfl
  | .tup [k', v] :: r, kvs, ⟨j', x, t, e, hk', d, dr⟩ => by subst e; rw [List.length_cons, List.length_cons, DenP.length dr]
  | .tup [] :: _, _, h => h.elim
  | .tup [_] :: _, _, h => h.elim
  | .tup (_ :: _ :: _ :: _) :: _, _, h => h.elim
  | .non :: _, _, h => h.elim
  | .bl _ :: _, _, h => h.elim
  | .int _ :: _, _, h => h.elim
  | .str _ :: _, _, h => h.elim
  | .lst _ :: _, _, h => h.elim
  | .dct _ :: _, _, h => h.elim
  | .ref _ :: _, _, h => h.elim
  | .exn _ _ :: _, _, h => h.elim
  | .ins _ _ :: _, _, h => h.elim
  | .dtt _ :: _, _, h => h.elim
theorem dct_hits {K : Fr} {D : Addr → Prop} {H : Hp} {b : List Val} {ls : List (Key × V)} (hb : DenP K D H b ls) : ∀ {a : List Val} {ks : List (Key × V)}, DenP K D H a ks → dctIn b a = true → ∀ p ∈ ks, valV ls p.1 = some p.2 ∧ flatB p.2 = true
  | [], ks, h, _, p, hp => by rw [show ks = [] from h] at hp; cases hp
  | .tup [k', v] :: r, kvs, ⟨j', x, t, e, hk', d, dr⟩, hd, p, hp => by
    subst e
    simp only [dctIn, Bool.and_eq_true] at hd
    obtain ⟨⟨_, h1⟩, h2⟩ := hd
    rcases List.mem_cons.mp hp with rfl | hp
    · have := DenP.look hk' hb
      cases q : dLook k' b with
      | none => rw [q] at h1; cases h1
      | some w =>
        rw [q] at h1 this
        obtain ⟨y, e1, d1⟩ := this
        obtain ⟨e2, e3⟩ := den_flat d d1 h1
        refine ⟨?_, e3⟩
        show valV ls j' = some x
        rw [e1, e2]
    · exact dct_hits hb dr h2 p hp
  | .tup [] :: _, _, h, _, _, _ => h.elim
  | .tup [_] :: _, _, h, _, _, _ => h.elim
  | .tup (_ :: _ :: _ :: _) :: _, _, h, _, _, _ => h.elim
  | .non :: _, _, h, _, _, _ => h.elim
  | .bl _ :: _, _, h, _, _, _ => h.elim
  | .int _ :: _, _, h, _, _, _ => h.elim
  | .str _ :: _, _, h, _, _, _ => h.elim
  | .lst _ :: _, _, h, _, _, _ => h.elim
  | .dct _ :: _, _, h, _, _, _ => h.elim
  | .ref _ :: _, _, h, _, _, _ => h.elim
  | .exn _ _ :: _, _, h, _, _, _ => h.elim
  | .ins _ _ :: _, _, h, _, _, _ => h.elim
  | .dtt _ :: _, _, h, _, _, _ => h.elim

def rEqM (K : Fr) (o : Eqm) : R2 := fun x y H Q => ∃ Xc μ v w r, MRel K Xc μ H ∧ Den K (Dn Xc μ) H v x ∧ Den K (Dn Xc μ) H w y ∧ eqV μ v w = some r ∧ Q (.bl (flip o r)) H
section
variable {X : Cx} {pins : List (Addr × Obj)} {σ : L2.St} {H : Hp} {s : Shared} {Xc : Addr → Prop} {μ : Mu}
theorem eq2_run (m : MRel X.K Xc μ H) (I : Inv X pins σ H s) {A : Around} (hu : A.units + 110 < cLine) {v w : Val} {x y : V} {u u' : Value} (d : Den X.K (Dn Xc μ) H v x) (d' : Den X.K (Dn Xc μ) H w y) (rx : RelV x u) (ry : RelV y u') (h : eq2 μ v w = true) : SeqAt.EqP X.prog X.w A s u u' true := by
  unfold eq2 at h
  split at h
  · rename_i la lb e1 e2
    simp only [Bool.and_eq_true, decide_eq_true_eq] at h
    obtain ⟨p, ks, h1, q1, l1⟩ := m.dct d e1
    obtain ⟨p', ls, h2, q2, l2⟩ := m.dct d' e2
    subst h1; subst h2
    obtain rfl : u = Value.ref p := rx
    obtain rfl : u' = Value.ref p' := ry
    obtain ⟨_, ya, va, ra, da⟩ := dk_rd I.hok q1
    obtain ⟨_, yb, vb, rb, db⟩ := dk_rd I.hok q2
    by_cases e : p = p'
    · subst e
      exact (SeqAt.EqAt.same _).eqP
    · refine SeqAt.eqP_refs e fun E Q q => PySem.W.rcP_dicts (knd := mixKind X.prog X.w) (r := true) ya yb da db (by omega) (fun _ => hits_run (F := fun x y => x = y ∧ flatB x = true) (fun x y v u ⟨e, f⟩ rx ry => ?_) rb ra fun p hp => ?_) E Q ?_
      · subst e
        exact (eqAt_same rx ry f).eqP
      · obtain ⟨e1, e2⟩ := dct_hits l2 l1 h.2 p hp
        exact ⟨_, e1, rfl, e2⟩
      · have e3 : va.length = vb.length := by rw [← ra.length, ← rb.length, ← l1.length, ← l2.length]; exact h.1
        rw [show (va.length == vb.length && true) = true from by rw [e3]; simp]
        exact q
  · rename_i a b _ e1 e2
    simp only [Bool.and_eq_true, decide_eq_true_eq] at h
    obtain ⟨⟨⟨pv, pw⟩, hd⟩, he⟩ := h
    obtain ⟨p1, c1⟩ := m.dp d e1 pv
    obtain ⟨p2, c2⟩ := m.dp d' e2 pw
    obtain ⟨as, r1⟩ := Dp.reads I _ x u p1 rx
    obtain ⟨bs, r2⟩ := Dp.reads I _ y u' p2 ry
    have k := SeqAt.eqAt_reads (toPy a) (toPy b) A s u u' as bs r1 r2 c1 c2 (by rw [dep_py, dep_py]; omega)
    rw [eqb_py a b pv pw, he] at k
    exact k.eqP
  · cases h
theorem eq2L_run (m : MRel X.K Xc μ H) (I : Inv X pins σ H s) {A : Around} (hu : A.units + 110 < cLine) : ∀ {l t : List Val} {xs ys : List V} {us ws : List Value}, DenL X.K (Dn Xc μ) H l xs → DenL X.K (Dn Xc μ) H t ys → Vals xs us → Vals ys ws → eq2L μ l t = true →
    us.length = ws.length ∧ ∀ p ∈ us.zip ws, SeqAt.EqP X.prog X.w A s p.1 p.2 true
  | [], [], xs, ys, us, ws, h1, h2, r1, r2, _ => by
    rw [show xs = [] from h1] at r1
    rw [show ys = [] from h2] at r2
    cases r1
    cases r2
    exact ⟨rfl, fun p hp => by cases hp⟩
  | [], _ :: _, _, _, _, _, _, _, _, _, h => by cases h
  | _ :: _, [], _, _, _, _, _, _, _, _, h => by cases h
  | v :: l, w :: t, xs, ys, us, ws, ⟨x, xr, e1, d1, dr1⟩, ⟨y, yr, e2, d2, dr2⟩, r1, r2, h => by
    subst e1
    subst e2
    cases r1 with
    | cons a1 b1 =>
      cases r2 with
      | cons a2 b2 =>
        have h' : eq2 μ v w = true ∧ eq2L μ l t = true := by simpa [eq2L] using h
        obtain ⟨i1, i2⟩ := eq2L_run m I hu dr1 dr2 b1 b2 h'.2
        refine ⟨by rw [List.length_cons, List.length_cons, i1], fun p hp => ?_⟩
        rw [List.zip_cons_cons] at hp
        rcases List.mem_cons.mp hp with rfl | hp
        · exact eq2_run m I hu d1 d2 a1 a2 h'.1
        · exact i2 p hp
end
theorem op_eqM {k : Nat} (hr : RoomH k X.A) (o : Eqm) : OpR X (compareOp (pyEq o)) (rEqM X.K o) := by
  intro pins s σ H x y v u Q I rx ry h
  obtain ⟨Xc, μ, v', w', r, m, d1, d2, e, q⟩ := h
  have hu := hr.un
  unfold eqV at e
  cases e1 : content μ v' with
  | none => rw [e1] at e; cases e
  | some a =>
    cases e2 : content μ w' with
    | none => rw [e1, e2] at e; cases e
    | some b =>
      rw [e1, e2] at e
      replace e : (match eqC a b with | some r => some r | none => eqT μ a b) = some r := e
      cases hE : eqC a b with
      | none =>
        rw [hE] at e
        replace e : eqT μ a b = some r := e
        unfold eqT at e
        split at e
        · rename_i la lb
          split at e
          · rename_i hc
            cases e
            obtain ⟨p, ks, h1, q1, l1⟩ := m.tup d1 e1
            obtain ⟨p', ls, h2, q2, l2⟩ := m.tup d2 e2
            subst h1; subst h2
            obtain rfl : v = Value.ref p := rx
            obtain rfl : u = Value.ref p' := ry
            obtain ⟨us, r1, ⟨o1, g1, c1, n1, w1⟩, _⟩ := I.tuple q1
            obtain ⟨ws, r2, ⟨o2, g2, c2, n2, w2⟩, _⟩ := I.tuple q2
            obtain ⟨i1, i2⟩ := eq2L_run m I (A := X.A.in1) (by show X.A.units + 1 + 110 < cLine; omega) l1 l2 r1 r2 hc
            obtain ⟨cl, dd, da, sl⟩ := o1
            obtain ⟨cl2, dd2, da2, sl2⟩ := o2
            simp only at c1 w1 c2 w2
            subst c1 w1 c2 w2
            have t : TupTwin X.prog X.w X.A s p p' us.toArray ws.toArray := ⟨⟨_, _, _, g1⟩, ⟨_, _, _, g2⟩, by simpa using i1, i2⟩
            cases o with
            | eq => exact twin_cmpEq t (by omega) _ _ ⟨.bl true, H, I, rfl, q⟩
            | ne => exact twin_cmpNe t (by omega) _ _ ⟨.bl false, H, I, rfl, q⟩
          · cases e
        · cases e
      | some r' =>
      rw [hE] at e
      cases (show some r' = some r from e)
      replace e : eqC a b = some r := hE
      have main : plain a = true → plain b = true → min (dep a) (dep b) ≤ 150 → r = eqb a b → wpAny (model X.prog X.w) X.A (compareOp (pyEq o) v u) (EP X pins σ Q) X.xe s := fun pa pb hd hr => by
        obtain ⟨p1, c1⟩ := m.dp d1 e1 pa
        obtain ⟨p2, c2⟩ := m.dp d2 e2 pb
        obtain ⟨as, r1⟩ := Dp.reads I _ x v p1 rx
        obtain ⟨bs, r2⟩ := Dp.reads I _ y u p2 ry
        subst hr
        rw [← eqb_py a b pa pb] at q
        have hm : X.A.units + min (toPy a).depth (toPy b).depth < cLine := by rw [dep_py, dep_py]; omega
        cases o with
        | eq => exact SeqAt.compareEq_reads r1 r2 c1 c2 hm ⟨.bl _, H, I, rfl, q⟩
        | ne => exact SeqAt.compareNe_reads r1 r2 c1 c2 hm ⟨.bl _, H, I, rfl, q⟩
      unfold eqC at e
      split at e
      · rename_i la lb
        split at e
        · rename_i hc
          cases e
          have two : ∀ {v : Val} {x : V} {l : List Val}, Den X.K (Dn Xc μ) H v x → content μ v = some (.dct l) → ∃ a kvs, x = .ref a ∧ Rd H a (.dK kvs) ∧ DenP X.K (Dn Xc μ) H l kvs := fun d h => m.dct d h
          obtain ⟨p, ks, h1, q1, l1⟩ := m.dct d1 e1
          obtain ⟨p', ls, h2, q2, l2⟩ := m.dct d2 e2
          subst h1; subst h2
          obtain rfl : v = Value.ref p := rx
          obtain rfl : u = Value.ref p' := ry
          obtain ⟨_, ya, va, ra, da⟩ := dk_rd I.hok q1
          obtain ⟨_, yb, vb, rb, db⟩ := dk_rd I.hok q2
          have hl : va.length = vb.length := by rw [← ra.length, ← rb.length, ← l1.length, ← l2.length]; exact hc.1
          have hits := dct_hits l2 l1 hc.2
          cases o with
          | eq => exact PySem.W.keq_eq (knd := mixKind X.prog X.w) (r := true) ya yb da db (by omega) (fun _ => hits_all rb ra hits) (fin_bl I q (by simp [flip, hl]))
          | ne => exact PySem.W.keq_ne (knd := mixKind X.prog X.w) (r := true) ya yb da db (by omega) (fun _ => hits_all rb ra hits) (fin_bl I q (by simp [flip, hl]))
        · cases e
      · split at e
        · rename_i hc
          cases e
          exact main hc.1 hc.2.1 hc.2.2 rfl
        · cases e
theorem mark_eq (o : Eqm) (b : Expr) : behindInMarks (pyEq o) b = false := by cases o <;> exact nomark _
theorem eq_read (hΦ : MonoP Φ) {K : Fr} {mg : Str → Option Value} (o : Eqm) {ea eb : E} {σ : List (Option V)} {H : Hp} {Q : VK} (h : rdE K mg Φ W (.eq o ea eb) σ H Q) : tOp (rEqM K o) (rdE K mg Φ W ea) (rdE K mg Φ W eb) σ H Q := by
  obtain ⟨Xc, env, μ, S, q⟩ := h
  rw [wpE] at q
  refine use hΦ S Ext.refl q fun v μ1 x H1 S1 E1 _ d q1 => use hΦ S1 E1 q1 fun w μ2 y H2 S2 E2 E2' d2 q2 => ?_
  split at q2
  · rename_i r hr
    exact ⟨Xc, μ2, v, w, r, S2.m, d.ext E2, d2, hr, q2 _ _ S2 E2' rfl⟩
  · exact q2.elim
theorem se_eq {k : Nat} (hΦ : MonoP Φ) (hr : RoomH k X.A) (o : Eqm) {ea eb : E} (ha : SE X Φ W a ea) (hb : SE X Φ W b eb) : SE X Φ W (.Compare a [pyEq o] [b] pos) (.eq o ea eb) :=
  PE.imp (pe_cmpR (op_eqM hr o) ha hb (mark_eq o b)) fun σ H Q h => eq_read hΦ o h

theorem key_isKey {k : Val} (h : isKey k = true) : ∃ j, keyOf k = some j := by
  cases k <;> first | exact ⟨_, rfl⟩ | cases h
theorem keyOf_den {K : Fr} {D : Addr → Prop} {H : Hp} {k : Val} {j : Key} {x : V} (h : keyOf k = some j) (d : Den K D H k x) : x = kV j := by
  cases k <;> first | (cases h; exact d) | (cases h; exact d.1) | (cases h; done)

def rInM (K : Fr) (o : Inm) : R2 := fun x y H Q => ∃ Xc μ v w r, MRel K Xc μ H ∧ Den K (Dn Xc μ) H v x ∧ Den K (Dn Xc μ) H w y ∧ inV μ v w = some r ∧ Q (.bl (flipI o r)) H
theorem op_inM {k : Nat} (hr : RoomH k X.A) (o : Inm) : OpR X (compareOp (pyIn o)) (rInM X.K o) := by
  intro pins s σ H x y v u Q I rx ry h
  obtain ⟨Xc, μ, v', w', r, m, d1, d2, e, q⟩ := h
  have hu := hr.un
  unfold inV at e
  split at e
  · rename_i l hl
    split at e
    · rename_i hc
      cases e
      obtain ⟨p1, c1⟩ := dp_of v' x hc.1 d1
      obtain ⟨p2, c2⟩ := m.dp d2 hl hc.2.1
      obtain ⟨as, r1⟩ := Dp.reads I _ x v p1 rx
      obtain ⟨bs, r2⟩ := Dp.reads I _ y u p2 ry
      rw [← any_py l v' hc.1 hc.2.1] at q
      have c2' : PyData.canLayAll0 (toPyL l) = true := by simpa [toPy, PyData.canLay0] using c2
      have hm : X.A.units + 1 + min (PyData.depthAll (toPyL l)) (toPy v').depth < cLine := by rw [dep_py, depL_py]; omega
      cases o with
      | isin => exact SeqAt.in_tuple_reads r2 r1 c2' c1 hm ⟨.bl _, H, I, rfl, q⟩
      | notin => exact SeqAt.notIn_tuple_reads r2 r1 c2' c1 hm ⟨.bl _, H, I, rfl, q⟩
    · cases e
  · rename_i l hl
    split at e
    · rename_i hc
      cases e
      obtain ⟨p1, c1⟩ := dp_of v' x hc.1 d1
      obtain ⟨p2, c2⟩ := m.dp d2 hl hc.2.1
      obtain ⟨as, r1⟩ := Dp.reads I _ x v p1 rx
      obtain ⟨bs, r2⟩ := Dp.reads I _ y u p2 ry
      rw [← any_py l v' hc.1 hc.2.1] at q
      have c2' : PyData.canLayAll0 (toPyL l) = true := by simpa [toPy, PyData.canLay0] using c2
      have hm : X.A.units + 1 + min (PyData.depthAll (toPyL l)) (toPy v').depth < cLine := by rw [dep_py, depL_py]; omega
      cases o with
      | isin => exact SeqAt.in_list_reads r2 r1 c2' c1 hm ⟨.bl _, H, I, rfl, q⟩
      | notin => exact SeqAt.notIn_list_reads r2 r1 c2' c1 hm ⟨.bl _, H, I, rfl, q⟩
    · cases e
  · rename_i l hl
    split at e
    · rename_i hk
      cases e
      obtain ⟨j, hj⟩ := key_isKey hk
      obtain ⟨p, kvs, h2, q2, l2⟩ := m.dct d2 hl
      subst h2
      obtain rfl : u = Value.ref p := ry
      have g : DGet H p x (valV kvs j) := .inl ⟨kvs, j, q2, keyOf_den hj d1, rfl⟩
      have hs : (dLook v' l).isSome = (valV kvs j).isSome := by
        have := DenP.look hj l2
        cases z : dLook v' l with
        | none => rw [z] at this; rw [show valV kvs j = none from this]; rfl
        | some w => rw [z] at this; obtain ⟨_, e1, _⟩ := this; rw [e1]; rfl
      rw [hs] at q
      cases o with
      | isin => exact d_in (by omega) I g rx fun s' I' => ⟨.bl _, H, I', rfl, q⟩
      | notin => exact d_notIn (by omega) I g rx fun s' I' => ⟨.bl _, H, I', rfl, q⟩
    · cases e
  · cases e
theorem in_read (hΦ : MonoP Φ) {K : Fr} {mg : Str → Option Value} (o : Inm) {ea eb : E} {σ : List (Option V)} {H : Hp} {Q : VK} (h : rdE K mg Φ W (.isin o ea eb) σ H Q) : tOp (rInM K o) (rdE K mg Φ W ea) (rdE K mg Φ W eb) σ H Q := by
  obtain ⟨Xc, env, μ, S, q⟩ := h
  rw [wpE] at q
  refine use hΦ S Ext.refl q fun v μ1 x H1 S1 E1 _ d q1 => use hΦ S1 E1 q1 fun w μ2 y H2 S2 E2 E2' d2 q2 => ?_
  split at q2
  · rename_i r hr
    exact ⟨Xc, μ2, v, w, r, S2.m, d.ext E2, d2, hr, q2 _ _ S2 E2' rfl⟩
  · exact q2.elim
def isNon : Val → Bool
  | .non => true
  | _ => false
end
end Mi
/-! Mi6: truth, subscripts, slices. -/
namespace Mi
open PySem PySem.Spec PyProof.Rows L2

theorem natbne (n : Nat) : (n != 0) = ((n : Int) != 0) := by
  cases n with
  | zero => rfl
  | succ n =>
    rw [show (n + 1 != 0) = true by simp]
    symm
    simp only [bne_iff_ne, ne_eq]
    omega
section
variable {K : Fr} {Xc : Addr → Prop} {H : Hp} {μ : Mu}
theorem MRel.tru (m : MRel K Xc μ H) {v : Val} {x : V} {b : Bool} (d : Den K (Dn Xc μ) H v x) (e : truthV μ v = some b) : TruV K x H b := by
  unfold truthV at e
  cases e1 : content μ v with
  | none => rw [e1] at e; cases e
  | some w =>
    rw [e1] at e
    replace e : truthC w = some b := e
    unfold truthC at e
    split at e
    · cases e; rw [m.flat d e1 trivial]; rfl
    · cases e; rw [m.flat d e1 trivial]; rfl
    · cases e; rw [m.int d e1]; rfl
    · split at e
      · rename_i hz
        cases e
        rw [(m.strV d e1).1]
        exact ⟨by rw [← big_line]; exact hz, natbne _⟩
      · cases e
    · cases e
      obtain ⟨a, xs, rfl, q, hl⟩ := m.tup d e1
      exact .inr (.inl ⟨xs, q, by rw [hl.nil_iff]⟩)
    · cases e
      obtain ⟨a, xs, rfl, q, hl⟩ := m.lst d e1
      exact .inl ⟨xs, q, by rw [hl.nil_iff]⟩
    · cases e
end

section
variable {X : Cx} {Φ : Ph} {W : WX} {a b c : Expr} {pos : Pos}
theorem TPost.from {K : Fr} {Xc : Addr → Prop} {σ : List (Option V)} {H H0 : Hp} {env : Env} {μ μ0 : Mu} {Q : Bool → Hp → Prop} {v : Val} {μ' : Mu} (E0 : Ext μ0 H0 μ H) (h : TPost K Xc σ H0 env μ0 Q v μ') : TPost K Xc σ H env μ Q v μ' := by
  unfold TPost at *
  split at h
  · exact fun H' S E => h H' S (E0.trans E)
  · exact h.elim
theorem EPost.from {K : Fr} {Xc : Addr → Prop} {σ : List (Option V)} {H H0 : Hp} {env : Env} {μ μ0 : Mu} {Q : VK} {v : Val} {μ' : Mu} (E0 : Ext μ0 H0 μ H) (h : EPost K Xc σ H0 env μ0 Q v μ') : EPost K Xc σ H env μ Q v μ' := fun x H' S E => h x H' S (E0.trans E)
theorem st_of {e : E} (hΦ : MonoP Φ) (ha : SE X Φ W a e) (he : ∀ whole, isTrue a X.env whole = (do let v ← whole; standAt a.pos; holding [v] (truthy v)) := by intro _; rfl) : ST X Φ W a e :=
  PT.imp (pt_truth ha he) fun σ H Q ⟨Xc, env, μ, S, q⟩ => ⟨Xc, env, μ, S, wpE_mono hΦ e env μ _ _ _ _ (fun v μ1 f x H1 S1 E1 d => by
    unfold TPost at f
    split at f
    · rename_i b hb
      exact ⟨b, S1.m.tru d hb, f H1 S1 E1⟩
    · exact f.elim) (fun _ _ z => z) q⟩
def isB : E → Bool
  | .cmp _ _ _ => true
  | .eq _ _ _ => true
  | .isin _ _ _ => true
  | .isN _ _ => true
  | _ => false
theorem wpE_isB (hΦ : MonoP Φ) {e : E} (h : isB e = true) {env : Env} {μ : Mu} {Q : Val → Mu → Prop} {Y : XQ} (q : wpE Φ e env μ Q Y) : wpE Φ e env μ (fun v μ' => (∃ b, v = .bl b) ∧ Q v μ') Y := by
  unfold isB at h
  split at h
  · simp only [wpE] at q ⊢
    exact wpE_mono hΦ _ env μ _ _ _ _ (fun v μ1 z => wpE_mono hΦ _ env μ1 _ _ _ _ (fun w μ2 y => by
      split at y
      · exact ⟨⟨_, rfl⟩, y⟩
      · exact y.elim) (fun _ _ z => z) z) (fun _ _ z => z) q
  · simp only [wpE] at q ⊢
    exact wpE_mono hΦ _ env μ _ _ _ _ (fun v μ1 z => wpE_mono hΦ _ env μ1 _ _ _ _ (fun w μ2 y => by
      split at y
      · exact ⟨⟨_, rfl⟩, y⟩
      · exact y.elim) (fun _ _ z => z) z) (fun _ _ z => z) q
  · simp only [wpE] at q ⊢
    exact wpE_mono hΦ _ env μ _ _ _ _ (fun v μ1 z => wpE_mono hΦ _ env μ1 _ _ _ _ (fun w μ2 y => by
      split at y
      · exact ⟨⟨_, rfl⟩, y⟩
      · exact y.elim) (fun _ _ z => z) z) (fun _ _ z => z) q
  · simp only [wpE] at q ⊢
    exact wpE_mono hΦ _ env μ _ _ _ _ (fun v μ1 z => ⟨⟨_, rfl⟩, z⟩) (fun _ _ z => z) q
  · cases h
theorem rdT_E (hΦ : MonoP Φ) {K : Fr} {mg : Str → Option Value} {e : E} (hB : isB e = true) {σ : List (Option V)} {H : Hp} {Q : Bool → Hp → Prop} (h : rdT K mg Φ W e σ H Q) : rdE K mg Φ W e σ H (fun x H' => ∃ k, x = .bl k ∧ Q k H') := by
  obtain ⟨Xc, env, μ, S, q⟩ := h
  refine ⟨Xc, env, μ, S, wpE_mono hΦ e env μ _ _ _ _ (fun v μ' z x H' S' E' d => ?_) (fun _ _ z => z) (wpE_isB hΦ hB q)⟩
  obtain ⟨⟨b, rfl⟩, z⟩ := z
  exact ⟨b, d, z H' S' E'⟩
theorem st_cmp (hΦ : MonoP Φ) (o : Cm) {ea eb : E} (ha : SE X Φ W a ea) (hb : SE X Φ W b eb) : ST X Φ W (.Compare a [pyCm o] [b] pos) (.cmp o ea eb) :=
  PT.imp (pt_cmpR (op_cm o) ha hb (mark_cm o b)) fun σ H Q h => cmp_read hΦ o (rdT_E hΦ rfl h)
theorem st_eq {k : Nat} (hΦ : MonoP Φ) (hr : RoomH k X.A) (o : Eqm) {ea eb : E} (ha : SE X Φ W a ea) (hb : SE X Φ W b eb) : ST X Φ W (.Compare a [pyEq o] [b] pos) (.eq o ea eb) :=
  PT.imp (pt_cmpR (op_eqM hr o) ha hb (mark_eq o b)) fun σ H Q h => eq_read hΦ o (rdT_E hΦ rfl h)
theorem st_in {k : Nat} (hΦ : MonoP Φ) (hr : RoomH k X.A) (o : Inm) {ea eb : E} (ha : SE X Φ W a ea) (hb : SE X Φ W b eb) (hm : behindInMarks (pyIn o) b = false := by rfl) : ST X Φ W (.Compare a [pyIn o] [b] pos) (.isin o ea eb) :=
  PT.imp (pt_cmpR (op_inM hr o) ha hb hm) fun σ H Q h => in_read hΦ o (rdT_E hΦ rfl h)
theorem sw_and1 {e : E} (ha : ST X Φ W a e) : SW X Φ W (.BoolOp .And [a] pos) e := pw_and1 ha
theorem sw_or1 {e : E} (ha : ST X Φ W a e) : SW X Φ W (.BoolOp .Or [a] pos) e := pw_or1 ha
theorem sw_and (hΦ : MonoP Φ) {rest : List Expr} {ea eb : E} (ha : ST X Φ W a ea) (hb : SW X Φ W (.BoolOp .And (b :: rest) pos) eb) : SW X Φ W (.BoolOp .And (a :: b :: rest) pos) (.and ea eb) :=
  PW.imp (pw_and ha hb) fun σ H Q ⟨Xc, env, μ, S, q⟩ => by
    simp only [wpE] at q
    refine useT hΦ S Ext.refl q (fun v μ1 f z => ?_) fun v μ1 b H1 S1 E1 hb f => ?_
    · rw [z] at f; exact f
    · rw [hb] at f
      cases b with
      | true => exact iteT ⟨Xc, env, μ1, S1, wpE_mono hΦ eb env μ1 _ _ _ _ (fun v μ2 z => TPost.from E1 z) (fun v μ2 z => XPost.from E1 z) f⟩
      | false =>
        refine iteF ?_
        unfold TPost at f
        rw [hb] at f
        exact f H1 S1 E1
theorem sw_or (hΦ : MonoP Φ) {rest : List Expr} {ea eb : E} (ha : ST X Φ W a ea) (hb : SW X Φ W (.BoolOp .Or (b :: rest) pos) eb) : SW X Φ W (.BoolOp .Or (a :: b :: rest) pos) (.or ea eb) :=
  PW.imp (pw_or ha hb) fun σ H Q ⟨Xc, env, μ, S, q⟩ => by
    simp only [wpE] at q
    refine useT hΦ S Ext.refl q (fun v μ1 f z => ?_) fun v μ1 b H1 S1 E1 hb f => ?_
    · rw [z] at f; exact f
    · rw [hb] at f
      cases b with
      | false => exact iteF ⟨Xc, env, μ1, S1, wpE_mono hΦ eb env μ1 _ _ _ _ (fun v μ2 z => TPost.from E1 z) (fun v μ2 z => XPost.from E1 z) f⟩
      | true =>
        refine iteT ?_
        unfold TPost at f
        rw [hb] at f
        exact f H1 S1 E1
theorem SW.t {e : E} (h : SW X Φ W a e) : ST X Φ W a e := h.pt
theorem st_not (hΦ : MonoP Φ) {e : E} (ha : ST X Φ W a e) : ST X Φ W (.UnaryOp .Not a pos) (.not e) :=
  PT.imp (pt_not ha) fun σ H Q ⟨Xc, env, μ, S, q⟩ => by
    simp only [wpE] at q
    refine useT hΦ S Ext.refl q (fun v μ1 f z => ?_) fun v μ1 b H1 S1 E1 hb f => ?_
    · rw [z] at f; exact f
    · rw [hb] at f
      exact f H1 S1 E1
/-! ### subscripts -/
theorem DenL.at {K : Fr} {D : Addr → Prop} {H : Hp} {l : List Val} {xs : List V} {i : Int} {v : Val} (h : DenL K D H l xs) (e : Mi.atI l i = some v) : ∃ x, L2.atI xs i = some x ∧ Den K D H v x := by
  unfold Mi.atI at e
  unfold L2.atI
  rw [h.length] at e
  show ∃ x, ((Mi.ixN xs.length i).bind fun j => xs[j]?) = some x ∧ _
  cases q : Mi.ixN xs.length i with
  | none => rw [q] at e; cases e
  | some j =>
    rw [q] at e
    exact h.get e
theorem strOk_sign {s : Str} {c : Nat} (h : PyData.strOk s = true) (hc : c ∈ s.cps.toList) : PyData.strOk ⟨#[c]⟩ = true := by
  unfold PyData.strOk at *
  rw [Array.all_eq_true'] at h
  have := h c (by simpa using hc)
  simpa using this
theorem atI_mem {α : Type} {l : List α} {i : Int} {c : α} (h : Mi.atI l i = some c) : c ∈ l := by
  unfold Mi.atI at h
  cases q : Mi.ixN l.length i with
  | none => rw [q] at h; cases h
  | some j => rw [q] at h; exact List.mem_of_getElem? h
def rIxM (K : Fr) : R2 := fun x y H Q => ∃ Xc μ v w r, MRel K Xc μ H ∧ Den K (Dn Xc μ) H v x ∧ Den K (Dn Xc μ) H w y ∧ ixV μ v w = some r ∧ ∀ x, Den K (Dn Xc μ) H r x → Q x H
theorem ix_dict (hu : X.A.units + 1 < cLine) : IxR X (fun x y H Q => ∃ a v, x = .ref a ∧ DGet H a y (some v) ∧ Q v H) := by
  intro value slice pins s σ H x y v u Q I rx ry h hs
  obtain ⟨a, w, ex, g, q⟩ := h
  subst ex
  obtain rfl : v = Value.ref a := rx
  have hT := dict_typeIs I g
  unfold subscriptTail
  refine wpAny_bind ?_
  rw [getitemInPython_of_ne hT.not_modules]
  refine wpAny_bind (wpAny_specialOf hT PySem.F.slot_dict_getitem.lookup ?_)
  have fin : wpAny (model X.prog X.w) X.A (subscripted slice false (.ref a) u) (fun r s₃ => wpAny (model X.prog X.w) X.A (letTemporaryGo value (.ref a) r >>= fun _ => pure r) (EP X pins σ Q) X.xe s₃) X.xe s := by
    rw [hs]
    exact wpAny_operating (wpAny_mono (d_getItem (Q := EP X pins σ Q) hu I g ry fun w' s3 I3 rw' => ⟨w, H, I3, rw', q⟩) (fun r s₃ h₃ => wpAny_bind (wpAny_letTemporaryGo (wpAny_pure h₃))) fun _ _ x => x)
  first
    | exact wpAny_pure (wpAny_bind fin)
    | exact wpAny_bind (wpAny_pure (wpAny_bind fin))
    | exact wpAny_bind fin
theorem ix_m {k : Nat} (hr : RoomH k X.A) : IxR X (rIxM X.K) := by
  intro value slice pins s σ H x y v u Q I rx ry h hs
  obtain ⟨Xc, μ, v', w', r, m, d1, d2, e, q⟩ := h
  have hu := hr.un
  unfold ixV at e
  cases e1 : content μ v' with
  | none => rw [e1] at e; cases e
  | some a =>
    rw [e1] at e
    replace e : ixC a w' = some r := e
    unfold ixC at e
    split at e
    · obtain ⟨p, xs, rfl, q1, l1⟩ := m.tup d1 e1
      obtain ⟨z, hz, dz⟩ := l1.at e
      exact ix_tup value slice pins s σ H _ y v u Q I rx ry ⟨p, xs, _, z, rfl, d2, q1, hz, q z dz⟩ hs
    · obtain ⟨p, xs, rfl, q1, l1⟩ := m.lst d1 e1
      obtain ⟨z, hz, dz⟩ := l1.at e
      exact ix_list value slice pins s σ H _ y v u Q I rx ry ⟨p, xs, _, z, rfl, d2, q1, hz, q z dz⟩ hs
    · split at e
      · rename_i hz
        obtain ⟨c, hc, rfl⟩ := Option.map_eq_some_iff.mp e
        obtain ⟨rfl, ok⟩ := m.strV d1 e1
        exact ix_str value slice pins s σ H _ y v u Q I rx ry ⟨_, _, c, rfl, d2, by rw [← big_line]; exact hz, hc, q _ ⟨rfl, strOk_sign ok (atI_mem hc)⟩⟩ hs
      · cases e
    · split at e
      · rename_i hk
        obtain ⟨j, hj⟩ := key_isKey hk
        obtain ⟨p, kvs, rfl, q1, l1⟩ := m.dct d1 e1
        have hl := DenP.look hj l1
        rw [e] at hl
        obtain ⟨z, hz, dz⟩ := hl
        exact ix_dict (by omega) value slice pins s σ H _ y v u Q I rx ry ⟨p, z, rfl, .inl ⟨kvs, j, q1, keyOf_den hj d2, hz.symm⟩, q z dz⟩ hs
      · cases e
    · cases e
theorem se_ix {k : Nat} (hΦ : MonoP Φ) (hr : RoomH k X.A) {ea eb : E} (ha : SE X Φ W a ea) (hb : SE X Φ W b eb) (hs : PlainIx b := by exact fun _ _ => rfl) : SE X Φ W (.Subscript a b pos) (.ix ea eb) :=
  PE.imp (pe_ix (ix_m hr) ha hb hs) fun σ H Q ⟨Xc, env, μ, S, q⟩ => by
    simp only [wpE] at q
    refine use hΦ S Ext.refl q fun v μ1 x H1 S1 E1 _ d q1 => use hΦ S1 E1 q1 fun w μ2 y H2 S2 E2 E2' d2 q2 => ?_
    split at q2
    · rename_i r hr
      exact ⟨Xc, μ2, v, w, r, S2.m, d.ext E2, d2, hr, fun x dx => q2 _ _ S2 E2' dx⟩
    · exact q2.elim
end
end Mi
/-! Mi7: slices, built-ins, methods. -/
namespace Mi
open PySem PySem.Spec PyProof.Rows L2

section
variable {X : Cx} {Φ : Ph} {W : WX} {a b c : Expr} {pos : Pos}
/-! ### slices -/
def rdO (K : Fr) (mg : Str → Option Value) (Φ : Ph) (W : WX) (l : Es) : TO := fun σ H Q => ∃ Xc env μ, SRel K Xc σ H env μ ∧ wpEs Φ l env μ (fun vs μ' => match optInt vs with
  | some o => ∀ H', SRel K Xc σ H' env μ' → Ext μ H μ' H' → Q o H'
  | none => False) (XPost K mg W Xc σ H env μ)
abbrev SO (X : Cx) (Φ : Ph) (W : WX) (a : Option Expr) (l : Es) : Prop := PO X a (rdO X.K X.mg Φ W l)
theorem PO.imp {a : Option Expr} {t t' : TO} (h : PO X a t) (f : ∀ σ H Q, t' σ H Q → t σ H Q) : PO X a t' := ⟨fun pins s σ H Q I q => h.run pins s σ H Q I (f _ _ _ q)⟩
theorem so_none : SO X Φ W none .nil := PO.imp po_none fun σ H Q ⟨Xc, env, μ, S, q⟩ => q H S Ext.refl
theorem so_some (hΦ : MonoP Φ) {e : E} (h : SE X Φ W a e) : SO X Φ W (some a) (.cons e .nil) := PO.imp (po_some h) fun σ H Q ⟨Xc, env, μ, S, q⟩ => by
  simp only [wpEs] at q
  refine use hΦ S Ext.refl q fun v μ1 x H1 S1 E1 E1' d f => ?_
  unfold optInt at f
  split at f
  · rename_i o ho
    split at ho
    · rename_i hx; cases hx
    · rename_i i hx
      cases hx
      cases ho
      exact ⟨i, d, f H1 S1 E1⟩
    · cases ho
  · exact f.elim
theorem sIx_eq (n d : Nat) (o : Option Int) : HT.sIx n d o = Mi.sIx n d o := by
  cases o with
  | none => rfl
  | some v =>
    have h := HT.clip_eq v n d
    unfold Mi.sIx
    dsimp only
    by_cases hv : v < 0
    · rw [if_pos hv] at h ⊢
      omega
    · rw [if_neg hv] at h ⊢
      omega
theorem DenL.cut {K : Fr} {D : Addr → Prop} {H : Hp} {l : List Val} {xs : List V} (h : DenL K D H l xs) (lo hi : Option Int) : DenL K D H (cutL l lo hi) (cutV xs lo hi) := by
  unfold cutL cutV
  rw [sIx_eq, sIx_eq, h.length]
  exact (h.drop _).take _
theorem strOk_cut {s : Str} (h : PyData.strOk s = true) (lo hi : Option Int) : PyData.strOk ⟨(cutL s.cps.toList lo hi).toArray⟩ = true := by
  unfold PyData.strOk at *
  rw [Array.all_eq_true'] at h ⊢
  intro c hc
  refine h c ?_
  have : c ∈ cutL s.cps.toList lo hi := by simpa using hc
  unfold cutL at this
  simpa using List.mem_of_mem_drop (List.mem_of_mem_take this)
theorem cutS_cut (z : Str) (lo hi : Option Int) : cutS z lo hi = ⟨(cutL z.cps.toList lo hi).toArray⟩ := by
  unfold cutS cutL
  rw [sIx_eq, sIx_eq]
  simp [Str.length]
def rSlM (K : Fr) : V → Option Int → Option Int → Hp → VK → Prop := fun x lo hi H Q => ∃ Xc μ v c r, MRel K Xc μ H ∧ Den K (Dn Xc μ) H v x ∧ content μ v = some c ∧ slC c lo hi = some r ∧ Fin K (Dn Xc μ) H r Q
theorem sl_m : SlR X (rSlM X.K) := by
  intro pins s σ H x v vl vu lo hi sl Q I rx hs pl pu h
  obtain ⟨Xc, μ, v', c, r, m, d, e1, e, f⟩ := h
  unfold slC at e
  split at e
  · cases e
    rename_i l
    obtain ⟨p, xs, rfl, q1, l1⟩ := m.tup d e1
    refine sl_tupA pins s σ H _ v vl vu lo hi sl Q I rx hs pl pu ⟨p, xs, rfl, q1, fun hw => ?_, fun hw p' hp' => f.new p' _ hp' ⟨_, rfl, l1.cut lo hi⟩⟩
    have hl : cutL l lo hi = l := by
      unfold cutL
      rw [← sIx_eq, ← sIx_eq, l1.length, hw.1, hw.2]
      simp [← l1.length]
    have : Den X.K (Dn Xc μ) H (.tup l) (.ref p) := by
      cases v' with
      | ref b => obtain ⟨o, _, z⟩ := m.obj b _ e1; exact z.elim
      | tup _ => cases e1; exact d
      | _ => cases e1
    exact f.now _ (by rw [hl]; exact this)
  · cases e
    obtain ⟨p, xs, rfl, q1, l1⟩ := m.lst d e1
    exact sl_list pins s σ H _ v vl vu lo hi sl Q I rx hs pl pu ⟨p, xs, rfl, q1, fun p' hp' => f.new p' _ hp' ⟨_, rfl, l1.cut lo hi⟩⟩
  · split at e
    · rename_i hz
      cases e
      obtain ⟨rfl, ok⟩ := m.strV d e1
      refine sl_str pins s σ H _ v vl vu lo hi sl Q I rx hs pl pu ⟨_, rfl, by rw [← big_line]; exact hz, ?_⟩
      rw [cutS_cut]
      exact f.now _ ⟨rfl, strOk_cut ok lo hi⟩
    · cases e
  · cases e
theorem se_sl (hΦ : MonoP Φ) {lo hi : Option Expr} {e : E} {l h : Es} {p2 : Pos} (ha : SE X Φ W a e) (hl : SO X Φ W lo l) (hh : SO X Φ W hi h) : SE X Φ W (.Subscript a (.Slice lo hi none p2) pos) (.sl e l h) :=
  PE.imp (pe_slice sl_m ha hl hh) fun σ H Q ⟨Xc, env, μ, S, q⟩ => by
    simp only [wpE] at q
    refine use hΦ S Ext.refl q fun v μ1 x H1 S1 E1 E1' d q1 => ?_
    refine ⟨Xc, env, μ1, S1, wpEs_mono hΦ l env μ1 _ _ _ _ (fun vs μ2 q2 => ?_) (fun _ _ z => XPost.from E1' z) q1⟩
    cases ho : optInt vs with
    | none => rw [ho] at q2; exact q2
    | some o =>
      intro H2 S2 E2
      rw [ho] at q2
      refine ⟨Xc, env, μ2, S2, wpEs_mono hΦ h env μ2 _ _ _ _ (fun vs' μ3 q3 => ?_) (fun _ _ z => XPost.from (E1'.trans E2) z) q2⟩
      cases ho2 : optInt vs' with
      | none => rw [ho2] at q3; exact q3
      | some o2 =>
        intro H3 S3 E3
        rw [ho2] at q3
        cases hc : content μ3 v with
        | none => rw [hc] at q3; exact q3.elim
        | some c =>
          rw [hc] at q3
          replace q3 : match slC c o o2 with | some r => EPost X.K Xc σ H env μ Q r μ3 | none => False := q3
          cases hsl : slC c o o2 with
          | none => rw [hsl] at q3; exact q3.elim
          | some r =>
            rw [hsl] at q3
            exact ⟨Xc, μ3, v, c, r, S3.m, (d.ext E2).ext E3, hc, hsl, q3.fin S3 ((E1'.trans E2).trans E3)⟩

/-! ### built-ins -/
theorem se_biG (hΦ : MonoP Φ) {ast : Expr} {b : Bi} {l : Es} {r : List V → Hp → VK → Prop} (h : PE X ast (tCB r (rdA X.K X.mg Φ W l)))
    (k : ∀ {Xc : Addr → Prop} {μ : Mu} {H : Hp} {vs : List Val} {xs : List V} {res : Val} {Q : VK}, MRel X.K Xc μ H → DenL X.K (Dn Xc μ) H vs xs → biV μ b vs = some res → Fin X.K (Dn Xc μ) H res Q → r xs H Q) : SE X Φ W ast (.bi b l) :=
  PE.imp h fun σ H Q ⟨Xc, env, μ, S, q⟩ => by
    simp only [wpE] at q
    refine useA hΦ S Ext.refl q fun vs μ1 xs H1 S1 E1 E1' d q1 => ?_
    split at q1
    · rename_i res hr
      exact k S1.m d hr (q1.fin S1 E1')
    · exact q1.elim
theorem sf_biG (hΦ : MonoP Φ) {ast : Expr} {b : Bi} {l : Es} {r : List V → Hp → VK → Prop} (h : PE X ast (tCB r (rdA X.K X.mg Φ W l)))
    (k : ∀ {Xc : Addr → Prop} {μ : Mu} {H : Hp} {vs : List Val} {xs : List V} {res : Val} {Q : VK}, MRel X.K Xc μ H → DenL X.K (Dn Xc μ) H vs xs → biV μ b vs = some res → (∀ p o, H p = none → NewRel X.K (Dn Xc μ) H res o → Q (.ref p) (upd H p o)) → r xs H Q) : SF X Φ W ast (.bi b l) :=
  PE.imp h fun σ H Q ⟨Xc, env, μ, S, q⟩ => by
    simp only [wpE] at q
    refine useA hΦ S Ext.refl q fun vs μ1 xs H1 S1 E1 E1' d q1 => ?_
    split at q1
    · rename_i res hr
      exact k S1.m d hr fun p o hp n => q1 p o H1 S1 E1' hp n
    · exact q1.elim
theorem DenL.one {K : Fr} {D : Addr → Prop} {H : Hp} {v : Val} {xs : List V} (h : DenL K D H [v] xs) : ∃ x, xs = [x] ∧ Den K D H v x := by
  obtain ⟨x, t, e, d, e2⟩ := h
  rw [show t = [] from e2] at e
  exact ⟨x, e, d⟩
theorem DenL.two {K : Fr} {D : Addr → Prop} {H : Hp} {v w : Val} {xs : List V} (h : DenL K D H [v, w] xs) : ∃ x y, xs = [x, y] ∧ Den K D H v x ∧ Den K D H w y := by
  obtain ⟨x, t, e, d, h2⟩ := h
  obtain ⟨y, rfl, d2⟩ := h2.one
  exact ⟨x, y, e, d, d2⟩
def rLen (K : Fr) : List V → Hp → VK → Prop := fun xs H Q => (∃ x n, xs = [x] ∧ LenV K x H n ∧ Q (.int n) H) ∨ ∃ a kvs, xs = [V.ref a] ∧ Rd H a (.dK kvs) ∧ Q (.int kvs.length) H
theorem cr_len : CallR X (.builtin "len") (rLen X.K) := by
  intro pins s σ H xs us Q I r h
  rcases h with h | ⟨a, kvs, rfl, hd, q⟩
  · exact call_len pins s σ H xs us Q I r h
  · obtain ⟨u, rfl, rx⟩ := vals1 r
    cases rx
    exact d_len I hd fun t s' I' => ⟨.int _, H, I', ⟨_, rfl⟩, q⟩
theorem se_len (hΦ : MonoP Φ) {x : Str} {p pos : Pos} {e : E} (hg : Gl X x) (hm : X.mg x = none) (hv : bootBuiltins x = some (.builtin "len")) (hn : x ≠ "__name__") (hdb : (x == ("__debug__" : Str)) = false) (ha : SE X Φ W a e)
    (he : starEach (a :: []) X.env = (false, eval a X.env) :: starEach [] X.env := by rfl) (hpl : (backTo pos (starEach [] X.env)).any (·.1) = false := by rfl) : SE X Φ W (.Call (.Name x p) [a] [] pos) (.bi .len (.cons e .nil)) :=
  se_biG hΦ (pe_callB cr_len hg hm hv (sa_cons hΦ ha sa_nil he) hn hdb he hpl) fun {Xc μ H vs xs res Q} m d hr f => by
    simp only [biV, lenF] at hr
    split at hr
    · rename_i v
      obtain ⟨x, rfl, dx⟩ := d.one
      split at hr
      · rename_i l hl
        cases hr
        obtain ⟨a, ys, rfl, q1, l1⟩ := m.tup dx hl
        exact .inl ⟨_, ys.length, rfl, .inr ⟨ys, q1, rfl⟩, by rw [← l1.length]; exact f.now _ rfl⟩
      · rename_i l hl
        cases hr
        obtain ⟨a, ys, rfl, q1, l1⟩ := m.lst dx hl
        exact .inl ⟨_, ys.length, rfl, .inl ⟨ys, q1, rfl⟩, by rw [← l1.length]; exact f.now _ rfl⟩
      · rename_i s hl
        split at hr
        · rename_i hz
          cases hr
          obtain ⟨rfl, _⟩ := m.strV dx hl
          exact .inl ⟨_, s.length, rfl, ⟨by rw [← big_line]; exact hz, rfl⟩, f.now _ rfl⟩
        · cases hr
      · rename_i l hl
        cases hr
        obtain ⟨a, kvs, rfl, q1, l1⟩ := m.dct dx hl
        exact .inr ⟨a, kvs, rfl, q1, by rw [← l1.length]; exact f.now _ rfl⟩
      · cases hr
    · cases hr
theorem strOk_of (x : String) : PyData.strOk (Str.ofString x) = true := by
  rw [Str.ofString_eq_toList]
  unfold PyData.strOk
  rw [Array.all_eq_true']
  intro c hc
  have hc' : c ∈ x.toList.map Char.toNat := by simpa using hc
  obtain ⟨ch, _, rfl⟩ := List.mem_map.mp hc'
  have h := ch.valid
  simp only [UInt32.isValidChar, Nat.isValidChar] at h
  have : ch.toNat = ch.val.toNat := rfl
  rw [decide_eq_true_eq]
  omega
theorem se_strI (hΦ : MonoP Φ) {x : Str} {p pos : Pos} {e : E} (hg : Gl X x) (hm : X.mg x = none) (hv : bootBuiltins x = some (.type "str")) (hn : x ≠ "__name__") (hdb : (x == ("__debug__" : Str)) = false) (ha : SE X Φ W a e)
    (he : starEach (a :: []) X.env = (false, eval a X.env) :: starEach [] X.env := by rfl) (hpl : (backTo pos (starEach [] X.env)).any (·.1) = false := by rfl) : SE X Φ W (.Call (.Name x p) [a] [] pos) (.bi .str (.cons e .nil)) :=
  se_biG hΦ (pe_callTy call_str_int hg hm hv (sa_cons hΦ ha sa_nil he) hn hdb he hpl) fun {Xc μ H vs xs res Q} m d hr f => by
    simp only [biV, strF] at hr
    split at hr
    · rename_i i
      split at hr
      · rename_i hz
        cases hr
        obtain ⟨x, rfl, dx⟩ := d.one
        exact ⟨i, by rw [show x = V.int i from dx], hz, f.now _ ⟨rfl, strOk_of _⟩⟩
      · cases hr
    · cases hr
theorem cr_or {X : Cx} {f : Value} {r r' : List V → Hp → VK → Prop} (a : CallR X f r) (b : CallR X f r') : CallR X f (fun vs H Q => r vs H Q ∨ r' vs H Q) := fun pins s σ H xs us Q I v h => h.elim (a pins s σ H xs us Q I v) (b pins s σ H xs us Q I v)
theorem se_intB (hΦ : MonoP Φ) {x : Str} {p pos : Pos} {e : E} (hg : Gl X x) (hm : X.mg x = none) (hv : bootBuiltins x = some (.type "int")) (hn : x ≠ "__name__") (hdb : (x == ("__debug__" : Str)) = false) (ha : SE X Φ W a e)
    (he : starEach (a :: []) X.env = (false, eval a X.env) :: starEach [] X.env := by rfl) (hpl : (backTo pos (starEach [] X.env)).any (·.1) = false := by rfl) : SE X Φ W (.Call (.Name x p) [a] [] pos) (.bi .int (.cons e .nil)) :=
  se_biG hΦ (pe_callTy (cr_or call_int1 call_int_str) hg hm hv (sa_cons hΦ ha sa_nil he) hn hdb he hpl) fun {Xc μ H vs xs res Q} m d hr f => by
    simp only [biV, intF] at hr
    split at hr
    · rename_i b
      cases hr
      obtain ⟨x, rfl, dx⟩ := d.one
      exact .inl (.inr ⟨b, by rw [show x = V.bl b from dx], f.now _ rfl⟩)
    · rename_i s
      split at hr
      · rename_i hz
        cases hr
        obtain ⟨x, rfl, dx⟩ := d.one
        refine .inr ⟨s, _, by rw [show x = V.str s from dx.1], by exact (PySem.intText_digits (fun c hc => by simpa using List.all_eq_true.mp hz.2.2 c hc) (by intro e; have h0 : s.cps.toList.length = s.length := Array.length_toList; rw [e] at h0; have := hz.1; simp at h0; omega) (Nat.le_trans hz.2.1 (by decide))), Nat.le_trans hz.2.1 (by decide), f.now _ rfl⟩
      · cases hr
    · cases hr
theorem se_abs (hΦ : MonoP Φ) {x : Str} {p pos : Pos} {e : E} (hg : Gl X x) (hm : X.mg x = none) (hv : bootBuiltins x = some (.builtin "abs")) (hn : x ≠ "__name__") (hdb : (x == ("__debug__" : Str)) = false) (ha : SE X Φ W a e)
    (he : starEach (a :: []) X.env = (false, eval a X.env) :: starEach [] X.env := by rfl) (hpl : (backTo pos (starEach [] X.env)).any (·.1) = false := by rfl) : SE X Φ W (.Call (.Name x p) [a] [] pos) (.bi .abs (.cons e .nil)) :=
  se_biG hΦ (pe_callB call_abs hg hm hv (sa_cons hΦ ha sa_nil he) hn hdb he hpl) fun {Xc μ H vs xs res Q} m d hr f => by
    simp only [biV, absF] at hr
    split at hr
    · rename_i i
      cases hr
      obtain ⟨x, rfl, dx⟩ := d.one
      refine ⟨i, by rw [show x = V.int i from dx], ?_⟩
      have e : (if i < 0 then -i else i) = (i.natAbs : Int) := by split <;> omega
      rw [e]
      exact f.now _ rfl
    · cases hr
theorem sf_list (hΦ : MonoP Φ) {x : Str} {p pos : Pos} {e : E} (hg : Gl X x) (hm : X.mg x = none) (hv : bootBuiltins x = some (.type "list")) (hn : x ≠ "__name__") (hdb : (x == ("__debug__" : Str)) = false) (ha : SE X Φ W a e)
    (he : starEach (a :: []) X.env = (false, eval a X.env) :: starEach [] X.env := by rfl) (hpl : (backTo pos (starEach [] X.env)).any (·.1) = false := by rfl) : SF X Φ W (.Call (.Name x p) [a] [] pos) (.bi .list (.cons e .nil)) :=
  sf_biG hΦ (pe_callTy call_list_of hg hm hv (sa_cons hΦ ha sa_nil he) hn hdb he hpl) fun {Xc μ H vs xs res Q} m d hr f => by
    simp only [biV, listF] at hr
    split at hr
    · rename_i v
      obtain ⟨x, rfl, dx⟩ := d.one
      split at hr
      · rename_i l hl
        cases hr
        obtain ⟨a, ys, rfl, q1, l1⟩ := m.tup dx hl
        exact ⟨a, ys, rfl, .inr q1, fun l hl => f l _ hl ⟨ys, rfl, l1⟩⟩
      · rename_i l hl
        cases hr
        obtain ⟨a, ys, rfl, q1, l1⟩ := m.lst dx hl
        exact ⟨a, ys, rfl, .inl q1, fun l hl => f l _ hl ⟨ys, rfl, l1⟩⟩
      · cases hr
    · cases hr
theorem se_tuple (hΦ : MonoP Φ) {x : Str} {p pos : Pos} {e : E} (hg : Gl X x) (hm : X.mg x = none) (hv : bootBuiltins x = some (.type "tuple")) (hn : x ≠ "__name__") (hdb : (x == ("__debug__" : Str)) = false) (ha : SE X Φ W a e)
    (he : starEach (a :: []) X.env = (false, eval a X.env) :: starEach [] X.env := by rfl) (hpl : (backTo pos (starEach [] X.env)).any (·.1) = false := by rfl) : SE X Φ W (.Call (.Name x p) [a] [] pos) (.bi .tuple (.cons e .nil)) :=
  se_biG hΦ (pe_callTy call_tuple_of hg hm hv (sa_cons hΦ ha sa_nil he) hn hdb he hpl) fun {Xc μ H vs xs res Q} m d hr f => by
    simp only [biV, tupleF] at hr
    split at hr
    · rename_i v
      obtain ⟨x, rfl, dx⟩ := d.one
      split at hr
      · rename_i l hl
        cases hr
        obtain ⟨a, ys, rfl, q1, l1⟩ := m.tup dx hl
        have : Den X.K (Dn Xc μ) H (.tup l) (.ref a) := by
          cases v with
          | ref b => obtain ⟨o, _, z⟩ := m.obj b _ hl; exact z.elim
          | tup _ => cases hl; exact dx
          | _ => cases hl
        exact ⟨a, ys, rfl, .inr ⟨q1, f.now _ this⟩⟩
      · rename_i l hl
        cases hr
        obtain ⟨a, ys, rfl, q1, l1⟩ := m.lst dx hl
        exact ⟨a, ys, rfl, .inl ⟨q1, fun l hl => f.new l _ hl ⟨ys, rfl, l1⟩⟩⟩
      · cases hr
    · cases hr
/-! ### isinstance against a built-in type -/
def tyName : Ty → String
  | .int => "int"
  | .bool => "bool"
  | .str => "str"
  | .list => "list"
  | .tuple => "tuple"
  | .dict => "dict"
def kindN : Val → String → Prop
  | .non, n => n = "NoneType"
  | .bl _, n => n = "bool"
  | .int _, n => n = "int"
  | .str _, n => n = "str"
  | .tup _, n => n = "tuple"
  | .lst _, n => n = "list"
  | .dct _, n => n = "dict"
  | _, _ => False
theorem kit_all (t : Ty) (c : Val) (b : Bool) (h : tyC t c = some b) : ∃ n, kindN c n ∧ ∀ K : Fr, PySem.W.kitOne K (.type n) (.type (tyName t)) = some b := by
  cases c <;> first
    | (cases t <;> (cases h; done))
    | (cases t <;> cases h <;> exact ⟨_, rfl, fun K => kit_ty (by decide)⟩)
theorem MRel.ty {K : Fr} {Xc : Addr → Prop} {H : Hp} {μ : Mu} (m : MRel K Xc μ H) {v w : Val} {x : V} (d : Den K (Dn Xc μ) H v x) (e : content μ v = some w) {n : String}
    (hn : kindN w n) : TyX K H x (.type n) := by
  cases w with
  | non => subst hn; rw [m.flat d e trivial]; exact .base .non
  | bl b => subst hn; rw [m.flat d e trivial]; exact .base (.bl b)
  | int b => subst hn; rw [m.int d e]; exact .base (.int b)
  | str b => subst hn; rw [(m.strV d e).1]; exact .base (.str b)
  | tup l =>
    subst hn
    obtain ⟨a, xs, rfl, q, _⟩ := m.tup d e
    rcases q with (q | ⟨o, q⟩) | ⟨o, its, n, h1, h2, _⟩
    · exact .base (.tup q)
    · exact .fTuple q
    · exact .kTuple h1 h2
  | lst l =>
    subst hn
    obtain ⟨a, xs, rfl, q, _⟩ := m.lst d e
    rcases q with (q | ⟨o, q⟩) | ⟨o, its, n, h1, h2, _⟩
    · exact .base (.lst q)
    · exact .base (.frz q)
    · exact .kList h1 h2
  | dct l =>
    subst hn
    obtain ⟨a, xs, rfl, q, _⟩ := m.dct d e
    rcases q with q | ⟨o, q⟩
    · exact .base (.dK q)
    · exact .fDict q
  | _ => exact hn.elim
theorem se_isT (hΦ : MonoP Φ) {x y : Str} {p p2 pos : Pos} {e : E} (t : Ty) (hg : Gl X x) (hm : X.mg x = none) (hv : bootBuiltins x = some (.builtin "isinstance")) (hn : x ≠ "__name__") (hdb : (x == ("__debug__" : Str)) = false) (ha : SE X Φ W a e)
    (hy : PE X (.Name y p2) (tC (.ty (tyName t))))
    (he : starEach (a :: [.Name y p2]) X.env = (false, eval a X.env) :: starEach [.Name y p2] X.env := by rfl) (he2 : starEach [.Name y p2] X.env = (false, eval (.Name y p2) X.env) :: starEach [] X.env := by rfl) (hpl : (backTo pos (starEach [.Name y p2] X.env)).any (·.1) = false := by rfl) :
    SE X Φ W (.Call (.Name x p) [a, .Name y p2] [] pos) (.isT e t) :=
  PE.imp (pe_callB call_isi hg hm hv (pa_cons ha (pa_cons hy pa_nil he2) he) hn hdb he hpl) fun σ H Q ⟨Xc, env, μ, S, q⟩ => by
    simp only [wpE] at q
    refine use hΦ S Ext.refl q fun v μ1 x H1 S1 E1 E1' d q1 => ?_
    split at q1
    · rename_i b hb
      unfold tyV at hb
      cases hc : content μ1 v with
      | none => rw [hc] at hb; cases hb
      | some c =>
        rw [hc] at hb
        obtain ⟨n, h1, h2⟩ := kit_all t c b hb
        exact ⟨x, .ty (tyName t), .type n, .type (tyName t), b, rfl, .ty _, S1.m.ty d hc h1, h2 _, q1 _ H1 S1 E1' rfl⟩
    · exact q1.elim

/-! ### methods of lists and dicts -/
def Ty' (K : Fr) (T : String) (x : V) (H : Hp) : Prop := L2.tyV K T x H ∨ (T = "dict" ∧ ∃ a, x = .ref a ∧ IsD H a)
theorem ty'_is {pins : List (Addr × Obj)} {σ : List (Option V)} {H : Hp} {s : Shared} {T : String} {x : V} {v : Value} (I : Inv X pins σ H s) (r : RelV x v) (ty : Ty' X.K T x H) :
    s.TypeIs v T ∧ ∀ a, v = .ref a → ∃ ob, s.heap.get? a = some ob ∧ ob.dict = none := by
  rcases ty with ty | ⟨rfl, a, rfl, d⟩
  · exact tyV_is I r ty
  · cases r
    obtain ⟨h1, h2, _⟩ := isD_at I d
    exact ⟨h1, h2⟩
def tBM' (K : Fr) (T : String) (r : V → List V → Hp → VK → Prop) (to : TE) (t : TA) : TE := fun σ H Q => to σ H fun x H1 => Ty' K T x H1 ∧ t σ H1 fun xs H2 => r x xs H2 Q
theorem pe_bm' {o e : Expr} {es : List Expr} {to : TE} {t : TA} {name : Str} {apos cpos : Pos} {T id : String} {r : V → List V → Hp → VK → Prop} (pa : PlainAttrs T) (slot : Slot T name id) (hty : typeOf (.builtin id) = pure (.type "method_descriptor")) (hm : MtR X id r) (ho : PE X o to) (ha : PA X (e :: es) t)
    (hbase : attributeBase o name X.env (eval o X.env) = eval o X.env := by rfl)
    (hfew : ((backTo cpos (starEach (e :: es) X.env)).all (fun x => !x.1) && (backToKw cpos (keywordEach [] X.env)).all (fun x => x.1.isSome)
      && decide ((e :: es).length + ([] : List Keyword).length + (if ([] : List Keyword).isEmpty then 0 else 1) < 30)) = true := by rfl)
    (hline : (apos.endLine == cpos.line) = true := by rfl) (hs : starEach (e :: es) X.env = (false, eval e X.env) :: starEach es X.env := by rfl) (hplain : (backTo cpos (starEach es X.env)).any (·.1) = false := by rfl) :
    PE X (.Call (.Attribute o name apos) (e :: es) [] cpos) (tBM' X.K T r to t) := by
  refine ⟨fun pins s σ H Q I h => ?_⟩
  refine wpAny_Call_method_late hbase hfew hline rfl (thn (ho.run pins s σ H _ I h) fun v s1 ⟨x, H1, I1, r1, ty, q1⟩ => ?_)
  obtain ⟨h1, h2⟩ := ty'_is I1 r1 ty
  refine ⟨T, id, pa, slot, hty, h1, h2, ?_⟩
  have hA := ha.run cpos pins s1 σ H1 _ I1 q1
  rw [hs] at hA ⊢
  refine Calls.callWith_builtin (by show (false || (backTo cpos (starEach es X.env)).any (·.1)) = false; rw [hplain] <;> rfl) (Calls.evalArgs_plain ?_)
  exact thn hA fun us s2 ⟨vs, H2, I2, r2, q2⟩ => hm pins s2 σ H2 x vs v us Q I2 r1 r2 q2
def tBM0' (K : Fr) (T : String) (r : V → List V → Hp → VK → Prop) (to : TE) : TE := fun σ H Q => to σ H fun x H1 => Ty' K T x H1 ∧ r x [] H1 Q
def rMe (K : Fr) (m : Me) : V → List V → Hp → VK → Prop := fun x xs H Q => ∃ Xc μ v vs r μ', MRel K Xc μ H ∧ Den K (Dn Xc μ) H v x ∧ DenL K (Dn Xc μ) H vs xs ∧ meV μ m v vs = some (r, μ') ∧
  ∀ y H', MRel K Xc μ' H' → Ext μ H μ' H' → Den K (Dn Xc μ') H' r y → Q y H'
theorem se_meG {o e : Expr} {es : List Expr} {name : Str} {apos cpos : Pos} {T id : String} {m : Me} {eo : E} {l : Es} (hΦ : MonoP Φ)
    (h : PE X (.Call (.Attribute o name apos) (e :: es) [] cpos) (tBM' X.K T (rMe X.K m) (rdE X.K X.mg Φ W eo) (rdA X.K X.mg Φ W l)))
    (ty : ∀ {Xc : Addr → Prop} {μ : Mu} {H : Hp} {v : Val} {x : V}, MRel X.K Xc μ H → Den X.K (Dn Xc μ) H v x → meOk μ m v = true → Ty' X.K T x H) : SE X Φ W (.Call (.Attribute o name apos) (e :: es) [] cpos) (.me m eo l) :=
  PE.imp h fun σ H Q ⟨Xc, env, μ, S, q⟩ => by
    simp only [wpE] at q
    refine use hΦ S Ext.refl q fun v μ1 x H1 S1 E1 E1' d ⟨ok, q1⟩ => ⟨ty S1.m d ok, ?_⟩
    refine useA hΦ S1 E1' q1 fun vs μ2 xs H2 S2 E2 E2' d2 q2 => ?_
    split at q2
    · rename_i r μ3 hr
      exact ⟨Xc, μ2, v, vs, r, μ3, S2.m, d.ext E2, d2, hr, fun y H3 m3 E3 d3 => q2 y H3 (S2.of_ext m3 E3) (E2'.trans E3) d3⟩
    · exact q2.elim
theorem ty_lst {Xc : Addr → Prop} {μ : Mu} {H : Hp} {v : Val} {x : V} {l : List Val} (m : MRel X.K Xc μ H) (d : Den X.K (Dn Xc μ) H v x) (h : content μ v = some (.lst l)) : Ty' X.K "list" x H := by
  obtain ⟨a, xs, rfl, q, _⟩ := m.lst d h
  exact .inl (.inl ⟨rfl, xs, q⟩)
theorem mt_append' : MtR X "list.append" (rMe X.K .append) := by
  intro pins s σ H x xs v us Q I rx rv h
  obtain ⟨Xc, μ, v', vs, r, μ', m, d, ds, e, q⟩ := h
  simp only [meV, appendF] at e
  split at e
  · rename_i a y
    split at e
    · rename_i l hl
      split at e
      · rename_i hz
        cases e
        obtain ⟨ys, hy, l1⟩ := m.lstM hl
        obtain ⟨z, rfl, dz⟩ := ds.one
        have r' : CRel X.K (Dn Xc μ) H (.lst (l ++ [y])) (.lst (ys ++ [z])) := ⟨_, rfl, l1.append ⟨z, [], rfl, dz, rfl⟩⟩
        exact mt_append pins s σ H x [z] v us Q I rx rv ⟨a, ys, z, d, rfl, hy, by rw [← big_line, ← l1.length]; exact hz, q _ _ (m.put hl r') (Ext.put hl) rfl⟩
      · cases e
    · cases e
  all_goals first | (cases e; done) | skip
theorem mt_pop' : MtR X "list.pop" (rMe X.K .pop) := by
  intro pins s σ H x xs v us Q I rx rv h
  obtain ⟨Xc, μ, v', vs, r, μ', m, d, ds, e, q⟩ := h
  have hs : sizeLine = 16777216 := sizeLine_eq
  simp only [meV, popF] at e
  split at e
  all_goals first | (cases e; done) | skip
  · rename_i a
    split at e
    · rename_i l hl
      obtain ⟨y, hy, e2⟩ := Option.map_eq_some_iff.mp e
      cases e2
      obtain ⟨ys, hys, l1⟩ := m.lstM hl
      obtain ⟨z, hz, dz⟩ := l1.get hy
      have r' : CRel X.K (Dn Xc μ) H (.lst l.dropLast) (.lst ys.dropLast) := ⟨_, rfl, l1.dropLast⟩
      rw [show xs = [] from ds] at rv
      exact mt_pop pins s σ H x [] v us Q I rx rv ⟨a, ys, z, d, rfl, hys, by rw [← l1.length]; exact hz, q _ _ (m.put hl r') (Ext.put hl) (dz.ext (Ext.put hl))⟩
    · cases e
  · rename_i a i
    split at e
    · rename_i l hl
      split at e
      · rename_i hbig
        cases hk : Mi.ixN l.length i with
        | none => rw [hk] at e; cases e
        | some k =>
          rw [hk] at e
          obtain ⟨y, hy, e2⟩ := Option.map_eq_some_iff.mp e
          cases e2
          obtain ⟨ys, hys, l1⟩ := m.lstM hl
          obtain ⟨z, hz, dz⟩ := l1.get hy
          obtain ⟨w, rfl, dw⟩ := ds.one
          have r' : CRel X.K (Dn Xc μ) H (.lst (l.eraseIdx k)) (.lst (ys.eraseIdx k)) := ⟨_, rfl, l1.eraseIdx k⟩
          have hk' : L2.ixN ys.length i = some k := by rw [← l1.length]; exact hk
          obtain ⟨h1, h2, h3, h4⟩ := ixN_seq hk'
          have hbig' : l.length ≤ 16777216 := hbig
          have hln := l1.length
          exact mt_popAt pins s σ H x [w] v us Q I rx rv ⟨a, ys, i, k, z, d, by rw [show w = V.int i from dw], hys, by omega, by omega, h1, hz, q _ _ (m.put hl r') (Ext.put hl) (dz.ext (Ext.put hl))⟩
      · cases e
    · cases e
theorem se_append (hΦ : MonoP Φ) {o e : Expr} {apos cpos : Pos} {eo ea : E} (ho : SE X Φ W o eo) (ha : SE X Φ W e ea)
    (hbase : attributeBase o "append" X.env (eval o X.env) = eval o X.env := by rfl)
    (hfew : ((backTo cpos (starEach (e :: []) X.env)).all (fun x => !x.1) && (backToKw cpos (keywordEach [] X.env)).all (fun x => x.1.isSome)
      && decide ((e :: []).length + ([] : List Keyword).length + (if ([] : List Keyword).isEmpty then 0 else 1) < 30)) = true := by rfl)
    (hline : (apos.endLine == cpos.line) = true := by rfl) (hs : starEach (e :: []) X.env = (false, eval e X.env) :: starEach [] X.env := by rfl) (hplain : (backTo cpos (starEach [] X.env)).any (·.1) = false := by rfl) :
    SE X Φ W (.Call (.Attribute o "append" apos) [e] [] cpos) (.me .append eo (.cons ea .nil)) :=
  se_meG (id := "list.append") hΦ (pe_bm' PySem.F.plainAttrs_list PySem.F.slot_list_append PySem.F.type_list_append mt_append' ho (sa_cons hΦ ha sa_nil hs) hbase hfew hline hs hplain) fun {Xc μ H v x} m d ok => by
    replace ok : isLst μ v = true := ok
    unfold isLst at ok
    split at ok
    · rename_i hc; exact ty_lst m d hc
    · cases ok
theorem se_pop1 (hΦ : MonoP Φ) {o e : Expr} {apos cpos : Pos} {eo ea : E} (ho : SE X Φ W o eo) (ha : SE X Φ W e ea)
    (hbase : attributeBase o "pop" X.env (eval o X.env) = eval o X.env := by rfl)
    (hfew : ((backTo cpos (starEach (e :: []) X.env)).all (fun x => !x.1) && (backToKw cpos (keywordEach [] X.env)).all (fun x => x.1.isSome)
      && decide ((e :: []).length + ([] : List Keyword).length + (if ([] : List Keyword).isEmpty then 0 else 1) < 30)) = true := by rfl)
    (hline : (apos.endLine == cpos.line) = true := by rfl) (hs : starEach (e :: []) X.env = (false, eval e X.env) :: starEach [] X.env := by rfl) (hplain : (backTo cpos (starEach [] X.env)).any (·.1) = false := by rfl) :
    SE X Φ W (.Call (.Attribute o "pop" apos) [e] [] cpos) (.me .pop eo (.cons ea .nil)) :=
  se_meG (id := "list.pop") hΦ (pe_bm' PySem.F.plainAttrs_list PySem.F.slot_list_pop PySem.F.type_list_pop mt_pop' ho (sa_cons hΦ ha sa_nil hs) hbase hfew hline hs hplain) fun {Xc μ H v x} m d ok => by
    replace ok : isLst μ v = true := ok
    unfold isLst at ok
    split at ok
    · rename_i hc; exact ty_lst m d hc
    · cases ok
theorem ints_tup {K : Fr} {D : Addr → Prop} {H : Hp} : ∀ {ks : List Val} {ns : List Int} {xs : List V}, intsOf ks = some ns → DenL K D H ks xs → xs = (ns.map (Sum.inl : Int → Key)).map kV
  | [], ns, xs, h, d => by
    cases h
    exact d
  | v :: r, ns, xs, h, ⟨x, t, e1, d1, d2⟩ => by
    subst e1
    cases v with
    | int i =>
      obtain ⟨ns', h1, rfl⟩ := Option.map_eq_some_iff.mp (show (intsOf r).map (i :: ·) = some ns from h)
      rw [ints_tup h1 d2, show x = V.int i from d1]
      rfl
    | _ => cases h
theorem MRel.dtt {K : Fr} {Xc : Addr → Prop} {μ : Mu} {H : Hp} (m : MRel K Xc μ H) {v : Val} {x : V} {l : List (List Int × Int)} (d : Den K (Dn Xc μ) H v x) (h : content μ v = some (.dtt l)) : ∃ a, x = .ref a ∧ Rd H a (.dT (ttK l)) := by
  cases v with
  | ref a =>
    obtain ⟨o, e, r⟩ := m.obj a _ h
    obtain rfl : o = .dT (ttK l) := r
    exact ⟨a, d, .inl e⟩
  | dtt l' =>
    cases h
    obtain ⟨a, e1, _, r⟩ := d
    exact ⟨a, e1, r⟩
  | _ => cases h
end
end Mi
/-! Mi7b: more built-ins, more methods. -/
namespace Mi
open PySem PySem.Spec PyProof.Rows L2
open AutoSeq1 (wpAny_loadPart')

theorem lstOf_eq {μ : Mu} {v : Val} {l : List Val} (h : lstOf μ v = some l) : content μ v = some (.lst l) := by
  unfold lstOf at h
  split at h
  · rename_i hc; cases h; exact hc
  · cases h
section
variable {X : Cx} {Xc : Addr → Prop} {μ : Mu} {H : Hp}
end
section
variable {X : Cx} {Φ : Ph} {W : WX} {a b c : Expr} {pos : Pos}
theorem den_strs' {K : Fr} {D : Addr → Prop} {H : Hp} : ∀ {l : List Val} {ns : List Str} {xs : List V}, strsOf l = some ns → DenL K D H l xs → xs = ns.map V.str ∧ ∀ s ∈ ns, PyData.strOk s = true
  | [], ns, xs, h, d => by
    cases h
    exact ⟨d, fun s hs => by cases hs⟩
  | .str i :: r, ns, xs, h, d => by
    obtain ⟨ns', e1, rfl⟩ := Option.map_eq_some_iff.mp (show (strsOf r).map (i :: ·) = some ns from h)
    obtain ⟨x, ys, rfl, dx, dr⟩ := d
    obtain ⟨h1, h2⟩ := den_strs' e1 dr
    rw [h1, dx.1]
    refine ⟨rfl, fun s hs => ?_⟩
    rcases List.mem_cons.mp hs with rfl | hs
    · exact dx.2
    · exact h2 s hs
  | .non :: _, _, _, h, _ => by cases h
  | .bl _ :: _, _, _, h, _ => by cases h
  | .int _ :: _, _, _, h, _ => by cases h
  | .tup _ :: _, _, _, h, _ => by cases h
  | .lst _ :: _, _, _, h, _ => by cases h
  | .dct _ :: _, _, _, h, _ => by cases h
  | .ref _ :: _, _, _, h, _ => by cases h
  | .exn _ _ :: _, _, _, h, _ => by cases h
  | .ins _ _ :: _, _, _, h, _ => by cases h
  | .dtt _ :: _, _, _, h, _ => by cases h
theorem list_extendW (l : Addr) (items : Array Value) (n : Nat) (b : Addr) (items2 : Array Value) (n2 : Nat) (dd2 : Option Addr) (sl2 : Array (Option Value)) (hc0 : ¬(!items.isEmpty && Builtin.List.listTooLong (items.size + items2.size)) = true) (hc1 : items.size ≤ sizeLine) (hs2 : items.size + items2.size ≤ sizeLine + 1) :
    Meets (Builtin.«list.extend» ⟨[.ref l, .ref b], []⟩) (fun _ R s => s.heap.get? l = some { cls := .type "list", dict := none, data := .seq items n, slots := #[] } ∧ s.heap.get? b = some { cls := .type "list", dict := dd2, data := .seq items2 n2, slots := sl2 } ∧ R (.ok (.ret Value.none)) { s with heap := s.heap.update l (Obj.mapSeq fun x => x ++ items2), toks := s.toks }) :=
  .of_wp fun prog w A R s h => by
    obtain ⟨hp, g, d, tk, os⟩ := s; obtain ⟨hl, hb, h⟩ := h; have f1 := AutoSeq1.idx_int; have f2 := AutoSeq1.sub_tuple_tuple; have f3 := AutoSeq1.sub_list_list; have f4 := AutoSeq1.sub_tuple_list; have f5 := AutoSeq1.sub_list_tuple;
    have hz' : (items ++ items2).size ≤ sizeLine + 1 := by rw [Array.size_append]; exact hs2
    wp_walk using (wpAny_updateSeq hl rfl (hz := hc1) (_hz' := hz')), wpAny_loadPart' hl, wpAny_loadPart' hb; exact ⟨_, rfl, h⟩
theorem list_extendV (l : Addr) (items : Array Value) (n : Nat) (b : Addr) (items2 : Array Value) (n2 : Nat) (dd2 : Option Addr) (sl2 : Array (Option Value)) (hc0 : ¬(!items.isEmpty && Builtin.List.listTooLong (items.size + items2.size)) = true) (hc1 : items.size ≤ sizeLine) (hs2 : items.size + items2.size ≤ sizeLine + 1) :
    Meets (Builtin.«list.extend» ⟨[.ref l, .ref b], []⟩) (fun _ R s => s.heap.get? l = some { cls := .type "list", dict := none, data := .seq items n, slots := #[] } ∧ s.heap.get? b = some { cls := .type "tuple", dict := dd2, data := .seq items2 n2, slots := sl2 } ∧ R (.ok (.ret Value.none)) { s with heap := s.heap.update l (Obj.mapSeq fun x => x ++ items2), toks := s.toks }) :=
  .of_wp fun prog w A R s h => by
    obtain ⟨hp, g, d, tk, os⟩ := s; obtain ⟨hl, hb, h⟩ := h; have f1 := AutoSeq1.idx_int; have f2 := AutoSeq1.sub_tuple_tuple; have f3 := AutoSeq1.sub_list_list; have f4 := AutoSeq1.sub_tuple_list; have f5 := AutoSeq1.sub_list_tuple;
    have hz' : (items ++ items2).size ≤ sizeLine + 1 := by rw [Array.size_append]; exact hs2
    wp_walk using (wpAny_updateSeq hl rfl (hz := hc1) (_hz' := hz')), wpAny_loadPart' hl, wpAny_loadPart' hb; exact ⟨_, rfl, h⟩
theorem seqOf_eq {μ : Mu} {v : Val} {l : List Val} (h : seqOf μ v = some l) : content μ v = some (.lst l) ∨ content μ v = some (.tup l) := by
  unfold seqOf at h
  split at h
  · rename_i hc; cases h; exact .inl hc
  · rename_i hc; cases h; exact .inr hc
  · cases h
theorem mt_extend' : MtR X "list.extend" (rMe X.K .extend) := by
  intro pins s σ H x xs v us Q I rx rv h
  obtain ⟨Xc, μ, v', vs, r, μ', m, d, ds, e, q⟩ := h
  simp only [meV, extendF] at e
  split at e
  · rename_i a y
    split at e
    · rename_i l hl
      obtain ⟨r2, hr2, e2⟩ := Option.bind_eq_some_iff.mp e
      split at e2
      · rename_i hz
        cases e2
        obtain ⟨ys, hy, l1⟩ := m.lstM hl
        obtain ⟨z, rfl, dz⟩ := ds.one
        rcases seqOf_eq hr2 with hc | hc
        · obtain ⟨b, zs, rfl, q2, l2⟩ := m.lst dz hc
          have r' : CRel X.K (Dn Xc μ) H (.lst (l ++ r2)) (.lst (ys ++ zs)) := ⟨_, rfl, l1.append l2⟩
          have hq := q .non _ (m.put hl r') (Ext.put hl) rfl
          obtain rfl : x = V.ref a := d
          obtain rfl : v = Value.ref a := rx
          obtain ⟨u, rfl, ru⟩ := rv.one
          obtain rfl : u = Value.ref b := ru
          obtain ⟨z1, its, n, rr, hle, ho⟩ := I.lstM hy
          obtain ⟨its2, rr2, hl2, z2⟩ := I.list q2
          obtain ⟨⟨cls2, dd2, data2, sl2⟩, ho2, hc2, n2, hd2⟩ := id hl2.isList
          simp only at hc2 hd2
          subst hc2 hd2
          have hlen : ys.length + zs.length ≤ sizeLine := by rw [← big_line, ← l1.length, ← l2.length]; exact hz
          have e1 := rr.length
          have e2 := rr2.length
          have hsz : its.toArray.size + its2.toArray.size ≤ sizeLine := by rw [List.size_toArray, List.size_toArray]; omega
          have hlong : ¬ (!its.toArray.isEmpty && Builtin.List.listTooLong (its.toArray.size + its2.toArray.size)) = true := by
            rw [notLongL hsz, Bool.and_false]
            exact Bool.false_ne_true
          refine call_meets PySem.F.slot_list_extend ⟨_, ho, rfl⟩ PySem.F.entry_list_extend (PySem.F.args_list_extend_2 _ _)
            (list_extendW a its.toArray n b its2.toArray n2 dd2 sl2 hlong (by rw [List.size_toArray]; omega) (by omega)) ⟨ho, ho2, ?_⟩
          refine ⟨.non, _, I.lset (its' := its ++ its2) hy ho (by simp) (rr.append rr2) ?_, rfl, hq⟩
          rw [List.length_append]
          omega
        · obtain ⟨b, zs, rfl, q2, l2⟩ := m.tup dz hc
          have r' : CRel X.K (Dn Xc μ) H (.lst (l ++ r2)) (.lst (ys ++ zs)) := ⟨_, rfl, l1.append l2⟩
          have hq := q .non _ (m.put hl r') (Ext.put hl) rfl
          obtain rfl : x = V.ref a := d
          obtain rfl : v = Value.ref a := rx
          obtain ⟨u, rfl, ru⟩ := rv.one
          obtain rfl : u = Value.ref b := ru
          obtain ⟨z1, its, n, rr, hle, ho⟩ := I.lstM hy
          obtain ⟨its2, rr2, hl2, z2⟩ := I.tuple q2
          obtain ⟨⟨cls2, dd2, data2, sl2⟩, ho2, hc2, n2, hd2⟩ := id hl2
          simp only at hc2 hd2
          subst hc2 hd2
          have hlen : ys.length + zs.length ≤ sizeLine := by rw [← big_line, ← l1.length, ← l2.length]; exact hz
          have e1 := rr.length
          have e2 := rr2.length
          have hsz : its.toArray.size + its2.toArray.size ≤ sizeLine := by rw [List.size_toArray, List.size_toArray]; omega
          have hlong : ¬ (!its.toArray.isEmpty && Builtin.List.listTooLong (its.toArray.size + its2.toArray.size)) = true := by
            rw [notLongL hsz, Bool.and_false]
            exact Bool.false_ne_true
          refine call_meets PySem.F.slot_list_extend ⟨_, ho, rfl⟩ PySem.F.entry_list_extend (PySem.F.args_list_extend_2 _ _)
            (list_extendV a its.toArray n b its2.toArray n2 dd2 sl2 hlong (by rw [List.size_toArray]; omega) (by omega)) ⟨ho, ho2, ?_⟩
          refine ⟨.non, _, I.lset (its' := its ++ its2) hy ho (by simp) (rr.append rr2) ?_, rfl, hq⟩
          rw [List.length_append]
          omega
      · cases e2
    · cases e
  all_goals first | (cases e; done) | skip
theorem DenL.reverse {K : Fr} {D : Addr → Prop} {H : Hp} : ∀ {l : List Val} {xs : List V}, DenL K D H l xs → DenL K D H l.reverse xs.reverse
  | [], xs, h => by rw [show xs = [] from h]; exact rfl
  | v :: r, xs, ⟨x, t, e, d, h⟩ => by
    subst e
    rw [List.reverse_cons, List.reverse_cons]
    exact (DenL.reverse h).append ⟨x, [], rfl, d, rfl⟩
theorem se_extend (hΦ : MonoP Φ) {o e : Expr} {apos cpos : Pos} {eo ea : E} (ho : SE X Φ W o eo) (ha : SE X Φ W e ea)
    (hbase : attributeBase o "extend" X.env (eval o X.env) = eval o X.env := by rfl)
    (hfew : ((backTo cpos (starEach (e :: []) X.env)).all (fun x => !x.1) && (backToKw cpos (keywordEach [] X.env)).all (fun x => x.1.isSome)
      && decide ((e :: []).length + ([] : List Keyword).length + (if ([] : List Keyword).isEmpty then 0 else 1) < 30)) = true := by rfl)
    (hline : (apos.endLine == cpos.line) = true := by rfl) (hs : starEach (e :: []) X.env = (false, eval e X.env) :: starEach [] X.env := by rfl) (hplain : (backTo cpos (starEach [] X.env)).any (·.1) = false := by rfl) :
    SE X Φ W (.Call (.Attribute o "extend" apos) [e] [] cpos) (.me .extend eo (.cons ea .nil)) :=
  se_meG (id := "list.extend") hΦ (pe_bm' PySem.F.plainAttrs_list PySem.F.slot_list_extend PySem.F.type_list_extend mt_extend' ho (sa_cons hΦ ha sa_nil hs) hbase hfew hline hs hplain) fun {Xc μ H v x} m d ok => by
    replace ok : isLst μ v = true := ok
    unfold isLst at ok
    split at ok
    · rename_i hc; exact ty_lst m d hc
    · cases ok
/-! .count(b), .index(b) of bools -/
end
end Mi
/-! Mi7c: xs[::-1]. -/
namespace Mi
open PySem PySem.Spec PyProof.Rows L2
section
variable {prog : Program} {w : World} {A : Around} {E : Value → Shared → Prop} {s : Shared}
end
section
variable {X : Cx} {e st : Expr} {te : TE} {ts : TO} {pos p2 : Pos}
variable {Φ : Ph} {W : WX}
end
end Mi
/-! Mi7d: how many different ones a list, a tuple holds. -/
namespace Mi
open PySem PySem.Spec PyProof.Rows L2
abbrev Ky := L2.Key
def met (val : Nat → Ky) : Nat → List Ky
  | 0 => []
  | i + 1 => if (met val i).any (fun x => decide (x = val i)) = true then met val i else met val i ++ [val i]
def inMet (val : Nat → Ky) (i : Nat) : Ky → Bool := fun k => (met val i).any fun x => decide (x = k)
section
variable {prog : Program} {w : World} {A : Around} {R : Result → Shared → Prop} {I : Addr} {fp wr : List Addr} {G : Array GenState → Array GenState → Prop} {n : Nat} {P : Nat → Value → Prop} {St : Nat → Shared → Prop}
abbrev newSet (led : Bool) : Obj := { cls := .type "set", dict := none, data := .set #[] 0 (.fresh 0 0 led) }
end
/-! the data's side -/
def kVal : Ky → Val
  | .inl i => .int i
  | .inr x => .str x
def stepK (acc : List Ky) (v : Ky) : List Ky := if acc.any (fun x => decide (x = v)) = true then acc else acc ++ [v]
section
variable {X : Cx} {a : Expr} {ta : TE} {p p2 q pos : Pos}
variable {Φ : Ph} {W : WX}
end
end Mi
/-! Mi7e: list(d.keys()), list(d.values()), sorted(d.keys()) of whole numbers. -/
namespace Mi
open PySem PySem.Spec PyProof.Rows L2
section
variable {X : Cx} {e : Expr} {td : TE} {apos cpos p pos : Pos} {pins : List (Addr × Obj)} {σ : L2.St} {H : Hp} {s : Shared} {Q1 : VK} {R E : Value → Shared → Prop}
structure Look (X : Cx) (pins : List (Addr × Obj)) (σ : L2.St) (H : Hp) (T : String) (kvs : List (Key × V)) (s : Shared) (r d : Addr) (vs : List (Key × Value)) (ep : Nat) : Prop where
  inv : Inv X pins σ H s
  view : s.heap.get? r = some { cls := .type T, data := .fields #[.ref d] }
  dict : s.heap.DictAt (mixKind X.prog X.w) d vs ep
  rel : KV kvs vs
  few : vs.length ≤ sizeLine
def tKeysL (td : TE) : TE := fun σ H Q => td σ H fun x H1 => ∃ d kvs, x = .ref d ∧ Rd H1 d (.dK kvs) ∧ ∀ p, H1 p = none → Q (.ref p) (upd H1 p (.lst (kvs.map fun kv => kV kv.1)))
def tValsL (td : TE) : TE := fun σ H Q => td σ H fun x H1 => ∃ d kvs, x = .ref d ∧ Rd H1 d (.dK kvs) ∧ ∀ p, H1 p = none → Q (.ref p) (upd H1 p (.lst (kvs.map fun kv => kv.2)))
def tKeysS (td : TE) : TE := fun σ H Q => td σ H fun x H1 => ∃ d kvs, x = .ref d ∧ Rd H1 d (.dK kvs) ∧ ((∃ ks : List Int, kvs.map (·.1) = ks.map Sum.inl ∧ ks.length < 64 ∧ ∀ (ys : List Int) (p : Addr), ys.Perm ks → ys.Pairwise (· ≤ ·) → H1 p = none → Q (.ref p) (upd H1 p (.lst (ys.map V.int)))) ∨
  ∃ ks : List Str, kvs.map (·.1) = ks.map Sum.inr ∧ ks.length < 64 ∧ ∀ (ys : List Str) (p : Addr), ys.Perm ks → PyProof.Rows.sortedS ys = true → H1 p = none → Q (.ref p) (upd H1 p (.lst (ys.map V.str))))
end
/-! the language's side -/
section
variable {X : Cx} {e : Expr} {apos cpos p pos : Pos} {Φ : Ph} {W : WX} {ea : E}
end
end Mi
/-! Mi8: calls, what is walked, comprehensions. -/
namespace Mi
open PySem PySem.Spec PyProof.Rows L2

/-! ### calls of defs -/
def spP (K : Fr) (mg : Str → Option Value) (Φ : Ph) (f : String) : Sp := fun vs H Q E => ∃ Xc μ m args, MRel K Xc μ H ∧ DenL K (Dn Xc μ) H args vs ∧
  Φ f m args μ (fun v μ' => ∀ x H', MRel K Xc μ' H' → Ext μ H μ' H' → Den K (Dn Xc μ') H' v x → Q x H') (fun e μ' => ∀ cls d H', MRel K Xc μ' H' → Ext μ H μ' H' → ExR K mg e cls d → E cls d H')
def FnT (P : Program) (w : World) (K : Fr) (mg : Str → Option Value) (base : Heap) (Φ : Ph) (k : Nat) (f : String) : Prop :=
  ∃ (a : Addr) (fd : FuncData) (ps : List Str), mg (Str.ofString f) = some (.ref a) ∧ PySem.W.keepIn K (.ref a) = true ∧ Binds K fd ps [] ∧ FnOk P w K mg base (L2.CX P w) k a fd ps (spP K mg Φ f)
section
variable {X : Cx} {Φ : Ph} {W : WX} {a b c : Expr} {pos : Pos}
theorem se_call {k : Nat} {f : String} {e : Expr} {es : List Expr} {l : Es} {p : Pos} {m : Md} (hΦ : MonoP Φ) (T : FnT X.prog X.w X.K X.mg X.base Φ k f) (hr : Room k X.A) (tk : Takes X W) (hg : Gl X (Str.ofString f)) (ha : SA X Φ W (e :: es) l)
    (hdb : (Str.ofString f == ("__debug__" : Str)) = false) (he : starEach (e :: es) X.env = (false, eval e X.env) :: starEach es X.env := by rfl) (hpl : (backTo pos (starEach es X.env)).any (·.1) = false := by rfl) :
    SE X Φ W (.Call (.Name (Str.ofString f) p) (e :: es) [] pos) (.call f m l) := by
  obtain ⟨ad, fd, ps, h1, h2, h3, h4⟩ := T
  refine PE.imp (pe_callS (E := WE W) h4 hr hg h1 h2 h3 (fun σ => passAt tk σ) ha hdb he hpl) fun σ H Q ⟨Xc, env, μ, S, q⟩ => ?_
  simp only [wpE] at q
  refine useA hΦ S Ext.refl q fun vs μ1 xs H1 S1 E1 E1' d q1 => ⟨Xc, μ1, m, vs, S1.m, d, ?_⟩
  exact hΦ _ _ _ _ _ _ _ _ (fun v μ2 z x H2 m2 E2 d2 => z x H2 (S1.of_ext m2 E2) (E1'.trans E2) d2) (fun v μ2 z cls d H2 m2 E2 r => z cls d H2 (S1.of_ext m2 E2) (E1'.trans E2) r) q1

/-! ### what is walked -/
def ItOk (K : Fr) (Xc : Addr → Prop) (μ0 : Mu) (H0 : Hp) (l : List Val) (a : Option (Ad × List Val)) (J : L2.It) : Prop := ∀ (i : Nat) (Xc' : Addr → Prop) (μ : Mu) (H : Hp), MRel K Xc' μ H → (∀ v x, Den K (Dn Xc μ0) H0 v x → Den K (Dn Xc' μ) H v x) → (∀ a ob u, H0 a = some (.frz ob u) → H a = some (.frz ob u)) → gOk a μ →
  (∀ v, l[i]? = some v → J.go i H ∧ ∀ x H', J.yld i H x H' → Ext μ H μ H' ∧ MRel K Xc' μ H' ∧ Den K (Dn Xc' μ) H' v x) ∧ (l.length ≤ i → J.stop i H)
def rdI (K : Fr) (mg : Str → Option Value) (Φ : Ph) (W : WX) (it : It) : TI := fun σ H R => ∃ Xc env μ, SRel K Xc σ H env μ ∧ wpI Φ it env μ (fun l a μ' => ∀ J H', SRel K Xc σ H' env μ' → Ext μ H μ' H' → ItOk K Xc μ' H' l a J → R J H') (XPost K mg W Xc σ H env μ)
abbrev SI (X : Cx) (Φ : Ph) (W : WX) (tg a : Expr) (it : It) : Prop := PI X tg a (rdI X.K X.mg Φ W it)
theorem PI.imp {tg a : Expr} {t t' : TI} (h : PI X tg a t) (f : ∀ σ H R, t' σ H R → t σ H R) : PI X tg a t' := ⟨fun pins s σ H R I q => h.run pins s σ H R I (f _ _ _ q)⟩
def iAny (K : Fr) (tl : TE) : TI := fun σ H R => tl σ H fun x H1 => (∃ a, x = .ref a ∧ (∃ xs, SqL K H1 a xs) ∧ R (Itl K a) H1) ∨ (∃ a, x = .ref a ∧ (∃ xs, SqT K H1 a xs) ∧ R (Itt K a) H1) ∨ (∃ s, x = .str s ∧ R (Its s) H1) ∨
  ∃ d kvs, x = .ref d ∧ ((∃ o, H1 d = some (.frz o (.dK kvs)) ∧ R (Itk d o kvs) H1) ∨ (H1 d = some (.dK kvs) ∧ ∀ o, R (Itk d o kvs) (upd H1 d (.frz o (.dK kvs)))))
theorem pi_any {tg l : Expr} {tl : TE} (hl : PE X l tl) : PI X tg l (iAny X.K tl) := by
  refine ⟨fun pins s σ H R I h => ?_⟩
  refine thn (hl.run pins s σ H _ I h) fun v s1 ⟨x, H1, I1, r1, q1⟩ => ?_
  rcases q1 with ⟨a, e, ⟨xs, hq⟩, q⟩ | ⟨a, e, ⟨xs, hq⟩, q⟩ | ⟨x, ex, q⟩ | ⟨d, kvs, ex, q⟩
  · subst e
    cases r1
    obtain ⟨its, rv, p, hz⟩ := I1.list hq
    refine wpAny_pyIter_list p.isList ?_
    refine ⟨s1.heap.objs.size, [s1.heap.objs.size], _, _, H1, rfl, I1.kept (t' := s1.toks) fun b o e => Heap.get?_push_of_some _ e, turn_list a _, ⟨_, Heap.get?_push_size _ rfl, rfl, rfl⟩, fun b hb => ?_, q⟩
    have e : b = s1.heap.objs.size := by simpa using hb
    subst e
    exact I1.fpOk (Nat.le_refl _) (I1.hok.fresh (Nat.le_refl _))
  · subst e
    cases r1
    obtain ⟨its, rv, p, hz⟩ := I1.tuple hq
    refine wpAny_pyIter_tuple (show s1.heap.IsTuple a its.toArray from p) ?_
    refine ⟨s1.heap.objs.size, [s1.heap.objs.size], _, _, H1, rfl, I1.kept (t' := s1.toks) fun b o e => Heap.get?_push_of_some _ e, turn_tuple a _, ⟨_, Heap.get?_push_size _ rfl, rfl, rfl⟩, fun b hb => ?_, q⟩
    have e : b = s1.heap.objs.size := by simpa using hb
    subst e
    exact I1.fpOk (Nat.le_refl _) (I1.hok.fresh (Nat.le_refl _))
  · subst ex
    obtain ⟨t, rfl⟩ := r1
    cases ha : x.cps.all (· < 128)
    · exact wpAny_pyIter_wide ha (pi_one (tk := s1.toks) I1 _ (turn_str _ x t "str_iterator" (.inr rfl)) ⟨_, Heap.get?_push_size _ rfl, rfl, rfl⟩ q)
    · exact wpAny_pyIter_ascii ha (pi_one (tk := s1.toks) I1 _ (turn_str _ x t "str_ascii_iterator" (.inl rfl)) ⟨_, Heap.get?_push_size _ rfl, rfl, rfl⟩ q)
  · subst ex
    obtain rfl : v = Value.ref d := r1
    rcases q with ⟨o, hd, q⟩ | ⟨hd, q⟩
    · obtain ⟨hs, hgd, hx, es, ep, vs, hdt, hsz, kv, hm⟩ := I1.frzK hd
      refine iter_keys hs hgd hx hdt (pi_one (tk := s1.toks) I1 _ (turn_keys _ hdt) ⟨_, Heap.get?_push_size _ rfl, rfl, ?_⟩ q)
      rw [hsz] <;> rfl
    · obtain ⟨od, I2⟩ := I1.lock hd trivial
      obtain ⟨hs, hgd, hx, es, ep, vs, hdt, hsz, kv, hm⟩ := I2.frzK upd_same
      refine iter_keys hs hgd hx hdt (pi_one (tk := s1.toks) I2 _ (turn_keys _ hdt) ⟨_, Heap.get?_push_size _ rfl, rfl, ?_⟩ (q od))
      rw [hsz] <;> rfl
end
section
variable {K : Fr} {Xc : Addr → Prop} {μ0 : Mu} {H0 : Hp}
theorem gOk_list {l : List Val} {v : Val} {x : V} (d0 : Den K (Dn Xc μ0) H0 v x) (hc : content μ0 v = some (.lst l)) {Xc' : Addr → Prop} {μ : Mu} {H : Hp} (m : MRel K Xc' μ H) (hd : ∀ v x, Den K (Dn Xc μ0) H0 v x → Den K (Dn Xc' μ) H v x) (g : gOk (guard v l) μ) {p : Addr} (hx : x = .ref p) :
    ∃ xs, SqL K H p xs ∧ DenL K (Dn Xc' μ) H l xs := by
  subst hx
  cases v with
  | ref a =>
    have e : V.ref p = V.ref a := d0
    cases e
    obtain ⟨xs, h1, h2⟩ := m.lstM (show μ p = some (.lst l) from g)
    exact ⟨xs, SqL.of h1, h2⟩
  | lst l' =>
    cases hc
    obtain ⟨a, xs, e, q, hl⟩ := hd _ _ d0
    cases e
    refine ⟨xs, ?_, hl⟩
    rcases q with ⟨_, q⟩ | q
    · exact .inl q
    · exact .inr q
  | _ => cases hc
theorem itok_list {l : List Val} {v : Val} {p : Addr} (d0 : Den K (Dn Xc μ0) H0 v (.ref p)) (hc : content μ0 v = some (.lst l)) : ItOk K Xc μ0 H0 l (guard v l) (Itl K p) := fun i Xc' μ H m hd fz g => by
  obtain ⟨xs, q, hl⟩ := gOk_list d0 hc m hd g rfl
  refine ⟨fun w hw => ?_, fun hi => ⟨xs, q, by rw [← hl.length]; exact hi⟩⟩
  obtain ⟨x, hx, dx⟩ := hl.get hw
  refine ⟨⟨xs, x, q, hx⟩, fun y H' ⟨e, hy⟩ => ?_⟩
  subst e
  have := hy xs q
  rw [hx] at this
  cases this
  exact ⟨Ext.refl, m, dx⟩
theorem itok_tup {l : List Val} {v : Val} {p : Addr} (m0 : MRel K Xc μ0 H0) (d0 : Den K (Dn Xc μ0) H0 v (.ref p)) (hc : content μ0 v = some (.tup l)) : ItOk K Xc μ0 H0 l none (Itt K p) := fun i Xc' μ H m hd fz g => by
  have d1 : Den K (Dn Xc μ0) H0 (.tup l) (.ref p) := by
    cases v with
    | ref b => obtain ⟨o, _, z⟩ := m0.obj b _ hc; exact z.elim
    | tup _ => cases hc; exact d0
    | _ => cases hc
  obtain ⟨a, xs, e, q, hl⟩ := m.tup (hd _ _ d1) rfl
  cases e
  refine ⟨fun w hw => ?_, fun hi => ⟨xs, q, by rw [← hl.length]; exact hi⟩⟩
  obtain ⟨x, hx, dx⟩ := hl.get hw
  refine ⟨⟨xs, x, q, hx⟩, fun y H' ⟨e, hy⟩ => ?_⟩
  subst e
  have := hy xs q
  rw [hx] at this
  cases this
  exact ⟨Ext.refl, m, dx⟩
theorem keys_pair {D : Addr → Prop} {H : Hp} : ∀ {l : List Val} {kvs : List (Key × V)}, DenP K D H l kvs → (dKeys l).map keyOf = kvs.map fun p => some p.1
  | [], kvs, h => by rw [show kvs = [] from h]; rfl
  | .tup [k', v] :: r, kvs, ⟨j', x, t, e, hk', d, dr⟩ => by
    subst e
    show keyOf k' :: (dKeys r).map keyOf = some j' :: t.map fun p => some p.1
    rw [hk', keys_pair dr]
  | .tup [] :: _, _, h => h.elim
  | .tup [_] :: _, _, h => h.elim
  | .tup (_ :: _ :: _ :: _) :: _, _, h => h.elim
  | .non :: _, _, h => h.elim
  | .bl _ :: _, _, h => h.elim
  | .int _ :: _, _, h => h.elim
  | .str _ :: _, _, h => h.elim
  | .lst _ :: _, _, h => h.elim
  | .dct _ :: _, _, h => h.elim
  | .ref _ :: _, _, h => h.elim
  | .exn _ _ :: _, _, h => h.elim
  | .ins _ _ :: _, _, h => h.elim
  | .dtt _ :: _, _, h => h.elim
theorem itok_keys {l : List Val} {d : Addr} {o : Obj} {kvs : List (Key × V)} {D : Addr → Prop} {H : Hp} (fz0 : H0 d = some (.frz o (.dK kvs))) (dl : DenP K D H l kvs) (hk : (dKeys l).all okK = true) : ItOk K Xc μ0 H0 (dKeys l) none (Itk d o kvs) := fun i Xc' μ H m hd fz g => by
  have hH := fz d o _ fz0
  have hp := keys_pair dl
  have hl : (dKeys l).length = kvs.length := by simpa using congrArg List.length hp
  refine ⟨fun w hw => ?_, fun hi => ⟨hH, by rw [← hl]; exact hi⟩⟩
  have hi : i < (dKeys l).length := (List.getElem?_eq_some_iff.mp hw).1
  have h1 : ((dKeys l).map keyOf)[i]? = (kvs.map fun p => some p.1)[i]? := by rw [hp]
  rw [List.getElem?_map, List.getElem?_map, hw] at h1
  have hok : okK w = true := List.all_eq_true.mp hk w (List.mem_of_getElem? hw)
  refine ⟨⟨hH, by rw [← hl]; exact hi⟩, fun y H' ⟨e, k, v, h2, h3⟩ => ?_⟩
  subst e
  subst h3
  rw [h2] at h1
  have h4 : keyOf w = some k := Option.some.inj h1
  refine ⟨Ext.refl, m, ?_⟩
  cases w with
  | int j => cases h4; rfl
  | str s => cases h4; exact ⟨rfl, hok⟩
  | _ => cases h4
theorem rm_ne {μ : Mu} {a b : Addr} (h : b ≠ a) : (μ.rm a) b = μ b := if_neg h
theorem rm_none {μ : Mu} {a b : Addr} (h : μ b = none) : (μ.rm a) b = none := by
  unfold Mu.rm
  split
  · rfl
  · exact h
theorem Ext.fix {μ : Mu} {H : Hp} {p : Addr} {c : Val} {o : Obj} {u : HO} (h : μ p = some c) : Ext μ H (μ.rm p) (upd H p (.frz o u)) where
  keepO := fun b w r n => by
    have ne : b ≠ p := fun z => by rw [z, h] at n; cases n
    rw [upd_ne ne]; exact .inl r
  nonew := fun b _ n => rm_none n
  there := fun b q => by
    by_cases e : b = p
    · rw [e, upd_same]; intro z; cases z
    · rw [upd_ne e]; exact q
theorem MRel.fix {μ : Mu} {H : Hp} (m : MRel K Xc μ H) {p : Addr} {c : Val} {o : Obj} {u : HO} (h : μ p = some c) : MRel K Xc (μ.rm p) (upd H p (.frz o u)) where
  obj := fun b d hb => by
    have ne : b ≠ p := fun z => by
      subst z
      unfold Mu.rm at hb
      rw [if_pos rfl] at hb
      cases hb
    rw [rm_ne ne] at hb
    obtain ⟨w, e1, r1⟩ := m.obj b d hb
    exact ⟨w, by rw [upd_ne ne]; exact e1, r1.ext (Ext.fix h)⟩
  xc := fun b q => by
    obtain ⟨⟨w, e1, n⟩, n2⟩ := m.xc b q
    have ne : b ≠ p := fun z => by rw [z, h] at n2; cases n2
    exact ⟨⟨w, by rw [upd_ne ne]; exact e1, n⟩, rm_none n2⟩
theorem Ext.lockV {μ : Mu} {H : Hp} {p : Addr} {o : Obj} {kvs : List (Key × V)} (h : H p = some (.dK kvs)) : Ext μ H μ (upd H p (.frz o (.dK kvs))) where
  keepO := fun b w r n => by
    by_cases e : b = p
    · subst e
      rw [h] at r
      cases r
      exact .inr ⟨o, kvs, rfl, upd_same⟩
    · rw [upd_ne e]; exact .inl r
  nonew := fun b _ n => n
  there := fun b q => by
    by_cases e : b = p
    · rw [e, upd_same]; intro z; cases z
    · rw [upd_ne e]; exact q
theorem MRel.lockV {μ : Mu} {H : Hp} (m : MRel K Xc μ H) {p : Addr} {o : Obj} {kvs : List (Key × V)} (h : H p = some (.dK kvs)) (nd : ¬ Dn Xc μ p) : MRel K Xc μ (upd H p (.frz o (.dK kvs))) where
  obj := fun b d hb => by
    have ne : b ≠ p := fun z => by subst z; exact nd (.inl (by rw [hb]; rfl))
    obtain ⟨w, e1, r1⟩ := m.obj b d hb
    exact ⟨w, by rw [upd_ne ne]; exact e1, r1.ext (Ext.lockV h)⟩
  xc := fun b q => by
    obtain ⟨⟨w, e1, n⟩, n2⟩ := m.xc b q
    have ne : b ≠ p := fun z => by subst z; exact nd (.inr q)
    exact ⟨⟨w, by rw [upd_ne ne]; exact e1, n⟩, n2⟩
theorem itok_str {s : Str} (ok : PyData.strOk s = true) : ItOk K Xc μ0 H0 (s.cps.toList.map fun c => Val.str ⟨#[c]⟩) none (Its s) := fun i Xc' μ H m hd fz g => by
  refine ⟨fun w hw => ?_, fun hi => by
    show s.cps.size ≤ i
    simpa using hi⟩
  rw [List.getElem?_map] at hw
  obtain ⟨c, hc, rfl⟩ := Option.map_eq_some_iff.mp hw
  have hc' : s.cps[i]? = some c := by simpa using hc
  refine ⟨by
    have := Array.getElem?_eq_some_iff.mp hc'
    exact this.1, fun y H' ⟨e, c', h1, h2⟩ => ?_⟩
  subst e
  rw [hc'] at h1
  cases h1
  subst h2
  exact ⟨Ext.refl, m, rfl, strOk_sign ok (List.mem_of_getElem? hc)⟩
theorem itok_range {lo : Int} {n : Nat} : ItOk K Xc μ0 H0 (intsFrom lo n) none (Itr lo n) := fun i Xc' μ H m hd fz g => by
  refine ⟨fun w hw => ?_, fun hi => by
    show n ≤ i
    simpa [intsFrom] using hi⟩
  unfold intsFrom at hw
  rw [List.getElem?_map] at hw
  obtain ⟨k, hk, rfl⟩ := Option.map_eq_some_iff.mp hw
  have hki : i < n ∧ i = k := by
    have h1 : i < (List.range n).length := (List.getElem?_eq_some_iff.mp hk).1
    have h1' : i < n := by simpa using h1
    rw [List.getElem?_range h1'] at hk
    exact ⟨h1', Option.some.inj hk⟩
  obtain ⟨h1, rfl⟩ := hki
  refine ⟨h1, fun y H' ⟨e, h2⟩ => ?_⟩
  subst e
  exact ⟨Ext.refl, m, h2⟩
theorem enumL_get : ∀ (l : List Val) (j : Int) (i : Nat) (w : Val), (enumL j l)[i]? = some w → ∃ v, l[i]? = some v ∧ w = .tup [.int (j + i), v]
  | [], _, _, _, h => by simp [enumL] at h
  | v :: r, j, 0, w, h => by
    simp only [enumL, List.getElem?_cons_zero, Option.some.injEq] at h
    exact ⟨v, rfl, by rw [← h]; simp⟩
  | v :: r, j, i + 1, w, h => by
    simp only [enumL, List.getElem?_cons_succ] at h
    obtain ⟨u, h1, h2⟩ := enumL_get r (j + 1) i w h
    refine ⟨u, by simpa using h1, ?_⟩
    rw [h2]
    congr 3
    push_cast
    omega
theorem enumL_len : ∀ (l : List Val) (j : Int), (enumL j l).length = l.length
  | [], _ => rfl
  | v :: r, j => by simp only [enumL, List.length_cons, enumL_len r]
theorem itok_enum {l : List Val} {v : Val} {p : Addr} (d0 : Den K (Dn Xc μ0) H0 v (.ref p)) (hc : content μ0 v = some (.lst l)) : ItOk K Xc μ0 H0 (enumL 0 l) (guard v l) (Ite K p) := fun i Xc' μ H m hd fz g => by
  obtain ⟨xs, q, hl⟩ := gOk_list d0 hc m hd g rfl
  refine ⟨fun w hw => ?_, fun hi => ⟨xs, q, by rw [← hl.length]; rw [enumL_len] at hi; exact hi⟩⟩
  obtain ⟨u, hu, rfl⟩ := enumL_get l 0 i w hw
  obtain ⟨x, hx, dx⟩ := hl.get hu
  refine ⟨⟨xs, x, q, hx⟩, fun y H' ⟨T, z, e1, hT, e2, hy⟩ => ?_⟩
  have := hy xs q
  rw [hx] at this
  cases this
  subst e1; subst e2
  refine ⟨Ext.laid hT, m.laid hT, ?_⟩
  refine NewRel.den m hT ⟨_, rfl, .int ((0 : Int) + (i : Nat)), [x], by simp, rfl, x, [], rfl, dx, rfl⟩
end
section
variable {X : Cx} {Φ : Ph} {W : WX} {a b c tg : Expr} {pos : Pos}
theorem si_e (hΦ : MonoP Φ) {e : E} (h : SE X Φ W a e) : SI X Φ W tg a (.e e) := PI.imp (pi_any h) fun σ H R ⟨Xc, env, μ, S, q⟩ => by
  simp only [wpI] at q
  refine use hΦ S Ext.refl q fun v μ1 x H1 S1 E1 _ d q1 => ?_
  split at q1
  · rename_i l hl
    obtain ⟨p, xs, rfl, r1, _⟩ := S1.m.lst d hl
    exact .inl ⟨p, rfl, ⟨xs, r1⟩, q1 _ H1 S1 E1 (itok_list d hl)⟩
  · rename_i l hl
    obtain ⟨p, xs, rfl, r1, _⟩ := S1.m.tup d hl
    exact .inr (.inl ⟨p, rfl, ⟨xs, r1⟩, q1 _ H1 S1 E1 (itok_tup S1.m d hl)⟩)
  · rename_i s hl
    obtain ⟨rfl, ok⟩ := S1.m.strV d hl
    exact .inr (.inr (.inl ⟨s, rfl, q1 _ H1 S1 E1 (itok_str ok)⟩))
  · rename_i l hl
    obtain ⟨hk, q2⟩ := q1
    cases v with
    | ref a =>
      have hl' : μ1 a = some (.dct l) := hl
      obtain rfl : x = V.ref a := d
      obtain ⟨kvs, hH, dl⟩ := S1.m.dctM hl'
      exact .inr (.inr (.inr ⟨a, kvs, rfl, .inr ⟨hH, fun o => q2 _ _ (S1.of_ext (S1.m.fix hl') (Ext.fix hl')) (E1.trans (Ext.fix hl')) (itok_keys upd_same dl hk)⟩⟩))
    | dct l' =>
      cases hl
      obtain ⟨a, kvs, rfl, nd, r1, dl⟩ := d
      rcases r1 with h | ⟨o, h⟩
      · exact .inr (.inr (.inr ⟨a, kvs, rfl, .inr ⟨h, fun o => q2 _ _ (S1.of_ext (S1.m.lockV h nd) (Ext.lockV h)) (E1.trans (Ext.lockV h)) (itok_keys upd_same dl hk)⟩⟩))
      · exact .inr (.inr (.inr ⟨a, kvs, rfl, .inl ⟨o, h, q2 _ _ S1 E1 (itok_keys h dl hk)⟩⟩))
    | _ => cases hl
  · exact q1.elim
theorem si_range (hΦ : MonoP Φ) {e : E} {p : Pos} (hg : Gl X "range") (hm : X.mg "range" = none) (h : SE X Φ W a e) (hs : starEach [a] X.env = [(false, eval a X.env)] := by rfl) : SI X Φ W tg (.Call (.Name "range" p) [a] [] pos) (.range e) :=
  PI.imp (pi_range1 (pos := pos) hg hm (sa_cons hΦ h sa_nil hs) hs) fun σ H R ⟨Xc, env, μ, S, q⟩ => by
    simp only [wpI] at q
    have q' : wpEs Φ (.cons e .nil) env μ (fun vs μ' => ∃ v, vs = [v] ∧ match v with
      | .int j => -(2 ^ 62) ≤ j ∧ j < 2 ^ 62 ∧ ∀ J H', SRel X.K Xc σ H' env μ' → Ext μ H μ' H' → ItOk X.K Xc μ' H' (intsFrom 0 j.toNat) none J → R J H'
      | _ => False) (XPost X.K X.mg W Xc σ H env μ) := by
      rw [wpEs]
      exact wpE_mono hΦ e env μ _ _ _ _ (fun v μ1 z => ⟨v, rfl, z⟩) (fun _ _ z => z) q
    refine useA hΦ S Ext.refl q' fun vs μ1 xs H1 S1 E1 _ d ⟨v, ev, q1⟩ => ?_
    subst ev
    obtain ⟨x, rfl, dx⟩ := d.one
    cases v with
    | int j => exact ⟨j, by rw [show x = V.int j from dx], q1.1, q1.2.1, q1.2.2 _ H1 S1 E1 itok_range⟩
    | _ => exact q1.elim
theorem si_enum (hΦ : MonoP Φ) {e : E} {p tpos : Pos} {elts : List Expr} {kk : Nat} (hg : Gl X "enumerate") (hm : X.mg "enumerate" = none) (h : SE X Φ W a e) (hs : starEach [a] X.env = [(false, eval a X.env)] := by rfl) :
    SI X Φ W (.Tuple elts kk tpos) (.Call (.Name "enumerate" p) [a] [] pos) (.enum e) :=
  PI.imp (pi_enum hg hm (sa_cons hΦ h sa_nil hs) hs) fun σ H R ⟨Xc, env, μ, S, q⟩ => by
    simp only [wpI] at q
    have q' : wpEs Φ (.cons e .nil) env μ (fun vs μ' => ∃ v l, vs = [v] ∧ content μ' v = some (.lst l) ∧ ∀ J H', SRel X.K Xc σ H' env μ' → Ext μ H μ' H' → ItOk X.K Xc μ' H' (enumL 0 l) (guard v l) J → R J H') (XPost X.K X.mg W Xc σ H env μ) := by
      rw [wpEs]
      refine wpE_mono hΦ e env μ _ _ _ _ (fun v μ1 z => ?_) (fun _ _ z => z) q
      split at z
      · rename_i l hl
        exact ⟨v, l, rfl, hl, z⟩
      · exact z.elim
    refine useA hΦ S Ext.refl q' fun vs μ1 xs H1 S1 E1 _ d ⟨v, l, ev, hl, q1⟩ => ?_
    subst ev
    obtain ⟨x, rfl, dx⟩ := d.one
    obtain ⟨p, ys, rfl, r1, _⟩ := S1.m.lst dx hl
    exact ⟨p, ys, rfl, r1, q1 _ H1 S1 E1 (itok_enum dx hl)⟩
end
end Mi
/-! Mi8b: zip, each side a list or a tuple. -/
namespace Mi
open PySem PySem.Spec PyProof.Rows L2
def zIt (k : Bool) (h : Heap) (it l : Addr) (i : Nat) : Prop := match k with
  | true => h.IsListIter it l i
  | false => h.IsTupleIter it l i
def zSq (k : Bool) (h : Heap) (l : Addr) (xs : Array Value) : Prop := match k with
  | true => h.IsList l xs
  | false => h.IsTuple l xs
theorem zIt.eb {k : Bool} {h h' : Heap} {it l b : Addr} {i : Nat} (q : zIt k h it l i) (e : Heap.ExtBut b h h') (n : it ≠ b) : zIt k h' it l i := by
  cases k
  · exact Heap.IsTupleIter.extBut q e n
  · exact Heap.IsListIter.extBut q e n
theorem zIt.at {k : Bool} {h h' : Heap} {it l : Addr} {i : Nat} (q : zIt k h it l i) (e : ∀ o, h.get? it = some o → h'.get? it = some o) : zIt k h' it l i := by
  cases k
  · exact Heap.IsTupleIter.at q e
  · exact Heap.IsListIter.at q e
theorem zIt.obj {k : Bool} {h : Heap} {it l : Addr} {i : Nat} (q : zIt k h it l i) : ∃ o, h.get? it = some o ∧ ∀ v, o.data ≠ .cell v := by
  cases k
  · obtain ⟨o, e, _, d⟩ := q
    exact ⟨o, e, fun v z => by rw [d] at z; cases z⟩
  · obtain ⟨o, e, _, d⟩ := q
    exact ⟨o, e, fun v z => by rw [d] at z; cases z⟩
theorem zIt.lt {k : Bool} {h : Heap} {it l : Addr} {i : Nat} (q : zIt k h it l i) : it < h.objs.size := by
  obtain ⟨o, e, _⟩ := q.obj
  exact Heap.lt_size e
theorem zSq.eb {k : Bool} {h h' : Heap} {l b : Addr} {xs : Array Value} (q : zSq k h l xs) (e : Heap.ExtBut b h h') (n : l ≠ b) : zSq k h' l xs := by
  cases k
  · exact Heap.IsTuple.extBut q e n
  · exact Heap.IsList.extBut q e n
theorem zSq.push {k : Bool} {h : Heap} {l : Addr} {xs : Array Value} (q : zSq k h l xs) (o : Obj) : zSq k (h.push o) l xs := by
  cases k
  · exact Heap.IsTuple.push q o
  · exact Heap.IsList.push q o
theorem zSq.lt {k : Bool} {h : Heap} {l : Addr} {xs : Array Value} (q : zSq k h l xs) : l < h.objs.size := by
  cases k
  · obtain ⟨o, e, _⟩ := q; exact Heap.lt_size e
  · obtain ⟨o, e, _⟩ := q; exact Heap.lt_size e
section
variable {prog : Program} {w : World} {A : Around} {E : Value → Shared → Prop} {s : Shared}
variable {g1 g2 : Bool} {z TI TO i1 i2 l1 l2 : Addr} {k1 k2 : Nat} {xs ys : Array Value} {a b : Value}
end
end Mi
/-! Mi8c: what walks two things at once. -/
namespace Mi
open PySem PySem.Spec PyProof.Rows L2
def zH (k : Bool) (K : Fr) (H : Hp) (a : Addr) (xs : List V) : Prop := match k with
  | true => SqL K H a xs
  | false => SqT K H a xs
theorem zH.at {X : Cx} {pins : List (Addr × Obj)} {σ : L2.St} {H : Hp} {s : Shared} {k : Bool} {a : Addr} {xs : List V} (I : Inv X pins σ H s) (q : zH k X.K H a xs) : ∃ us : List Value, Vals xs us ∧ zSq k s.heap a us.toArray := by
  cases k
  · obtain ⟨us, r, p, _⟩ := I.tuple q
    exact ⟨us, r, p⟩
  · obtain ⟨us, r, p, _⟩ := I.list q
    exact ⟨us, r, p.isList⟩
theorem zH.one {X : Cx} {pins : List (Addr × Obj)} {σ : L2.St} {H : Hp} {s : Shared} {k : Bool} {a : Addr} {xs ys : List V} (I : Inv X pins σ H s) (q : zH k X.K H a xs) (q' : zH k X.K H a ys) : xs = ys := by
  cases k
  · exact I.tuple_inj q q'
  · exact I.list_inj q q'
def Izx (K : Fr) (g1 g2 : Bool) (a b : Addr) : L2.It :=
  ⟨fun i H => ∃ (xs ys : List V) (x y : V), zH g1 K H a xs ∧ zH g2 K H b ys ∧ xs[i]? = some x ∧ ys[i]? = some y,
    fun i H v H' => ∃ T x y, v = .ref T ∧ H T = none ∧ H' = upd H T (.tup [x, y]) ∧ (∀ xs, zH g1 K H a xs → xs[i]? = some x) ∧ ∀ ys, zH g2 K H b ys → ys[i]? = some y,
    fun i H => ∃ xs ys : List V, zH g1 K H a xs ∧ zH g2 K H b ys ∧ (xs.length ≤ i ∨ ys.length ≤ i)⟩
def zFive (z TI TO i1 i2 : Addr) : List Addr := [z, TI, TO, i1, i2]
def zAt (g1 g2 : Bool) (z TI TO i1 i2 a b : Addr) (i : Nat) (h : Heap) : Prop := IsZip h z TI TO .none ∧ IsPair h TI (.ref i1) (.ref i2) ∧ (∃ x y, IsPair h TO x y) ∧ zIt g1 h i1 a i ∧ zIt g2 h i2 b i
/-! making it -/
def zName (k : Bool) : String := match k with
  | true => "list_iterator"
  | false => "tuple_iterator"
def zObj (k : Bool) (l : Addr) : Obj := { cls := .type (zName k), data := .fields #[.ref l, .int 0 0] }
def zMade (g1 g2 : Bool) (h : Heap) (a b : Addr) : Heap := ((((h.push (zObj g1 a)).push (zObj g2 b)).push { cls := .type "tuple", data := .seq #[.ref h.objs.size, .ref (h.push (zObj g1 a)).objs.size] }).push { cls := .type "tuple", data := .seq #[.none, .none] }).push
  { cls := .type "zip", data := .fields #[.none, .bool false, .bool false, .ref ((h.push (zObj g1 a)).push (zObj g2 b)).objs.size, .ref (((h.push (zObj g1 a)).push (zObj g2 b)).push { cls := .type "tuple", data := .seq #[.ref h.objs.size, .ref (h.push (zObj g1 a)).objs.size] }).objs.size] }
def zIn (h : Heap) : Obj := { cls := .type "tuple", data := .seq #[.ref h.objs.size, .ref (h.objs.size + 1)] }
def zOut : Obj := { cls := .type "tuple", data := .seq #[.none, .none] }
def zZip (h : Heap) : Obj := { cls := .type "zip", data := .fields #[.none, .bool false, .bool false, .ref (h.objs.size + 2), .ref (h.objs.size + 3)] }
section
variable {prog : Program} {w : World} {A : Around} {E : Value → Shared → Prop} {s : Shared}
end
/-! the rule -/
def iZx (K : Fr) (ta : TA) : TI := fun σ H R => ta σ H fun vs H1 => ∃ g1 g2 a b xs ys, vs = [.ref a, .ref b] ∧ zH g1 K H1 a xs ∧ zH g2 K H1 b ys ∧ R (Izx K g1 g2 a b) H1
section
variable {K : Fr} {Xc : Addr → Prop} {μ0 : Mu} {H0 : Hp}
def srcK (v : Val) (μ : Mu) : Bool := match content μ v with
  | some (.lst _) => true
  | _ => false
end
section
variable {X : Cx} {Φ : Ph} {W : WX} {a b : Expr} {pos : Pos}
end
/-! falling ranges -/
section
variable {K : Fr} {Xc : Addr → Prop} {μ0 : Mu} {H0 : Hp}
end
section
variable {X : Cx} {Φ : Ph} {W : WX} {a b c tg : Expr} {pos : Pos}
end
end Mi
/-! Mi9: targets, comprehensions. -/
namespace Mi
open PySem PySem.Spec PyProof.Rows L2

def gSeq (K : Fr) (n : Nat) (t : TGs) : TG := fun v σ H Q => gTup K n t v σ H Q ∨ gUnl K n t v σ H Q
theorem pg_seq {X : Cx} {pos : Pos} {es : List Expr} {k : Nat} {t : TGs} {n : Nat} (hc : X.calm = true) (h : PGs X es t) (hn : (assignEach es X.env).length = n := by rfl) (hst : (assignEach es X.env).findIdx? (·.1) = none := by rfl) : PG X (.Tuple es k pos) (gSeq X.K n t) :=
  ⟨fun pins s σ H v u Q I r hw => hw.elim (fun z => (pg_tup hc h hn hst).run pins s σ H v u Q I r z) fun z => (pg_unl hc h hn hst).run pins s σ H v u Q I r z⟩
mutual
def gT (K : Fr) : Tg → TG
  | .n i => gName i
  | .t l => gSeq K l.length (gTs K l)
def gTs (K : Fr) : List Tg → TGs
  | [] => gNil
  | t :: r => gCons (gT K t) (gTs K r)
end
mutual
def Tg.names : Tg → List Nat
  | .n i => [i]
  | .t l => namesL l
def namesL : List Tg → List Nat
  | [] => []
  | t :: r => t.names ++ namesL r
end
theorem wipe_set {σ : List (Option V)} {i : Nat} {x : Option V} : ∀ {vs : List Nat}, i ∈ vs → L2.wipe (σ.set i x) vs = L2.wipe σ vs
  | v :: vs, h => by
    unfold L2.wipe
    by_cases hv : i ∈ vs
    · rw [wipe_set hv]
    · have e : i = v := by
        rcases List.mem_cons.mp h with e | h
        · exact e
        · exact (hv h).elim
      subst e
      have : ∀ (vs : List Nat), i ∉ vs → L2.wipe (σ.set i x) vs = (L2.wipe σ vs).set i x := fun vs => by
        induction vs with
        | nil => intro _; rfl
        | cons w ws ih =>
          intro hn
          unfold L2.wipe
          rw [ih (fun z => hn (List.mem_cons_of_mem _ z)), List.set_comm _ _ (fun z => hn (by rw [z]; exact List.mem_cons_self))]
      rw [this vs hv, List.set_set]
theorem wipe_get {σ : List (Option V)} {i : Nat} : ∀ {vs : List Nat}, i ∉ vs → (L2.wipe σ vs)[i]? = σ[i]?
  | [], _ => rfl
  | v :: vs, h => by
    unfold L2.wipe
    rw [List.getElem?_set_ne (fun z => h (by rw [z]; exact List.mem_cons_self)), wipe_get (fun z => h (List.mem_cons_of_mem _ z))]
theorem wipeE_some {env : Env} {i : Nat} {v : Val} : ∀ {vs : List Nat}, (Mi.wipe env vs)[i]? = some (some v) → env[i]? = some (some v) ∧ i ∉ vs
  | [], h => ⟨h, by simp⟩
  | w :: vs, h => by
    unfold Mi.wipe at h
    by_cases e : w = i
    · subst e
      by_cases hl : w < (Mi.wipe env vs).length
      · rw [List.getElem?_set_self hl] at h; cases h
      · rw [List.getElem?_eq_none (by simpa using hl)] at h; cases h
    · rw [List.getElem?_set_ne e] at h
      obtain ⟨h1, h2⟩ := wipeE_some h
      exact ⟨h1, fun z => by
        rcases List.mem_cons.mp z with z | z
        · exact e z.symm
        · exact h2 z⟩
theorem wipeE_length (env : Env) : ∀ vs : List Nat, (Mi.wipe env vs).length = env.length
  | [] => rfl
  | v :: vs => by unfold Mi.wipe; rw [List.length_set, wipeE_length env vs]
theorem wipe_idem (σ : List (Option V)) : ∀ (vs ws : List Nat), (∀ i ∈ ws, i ∈ vs) → L2.wipe (L2.wipe σ ws) vs = L2.wipe σ vs
  | vs, [], _ => rfl
  | vs, w :: ws, h => by
    show L2.wipe ((L2.wipe σ ws).set w none) vs = _
    rw [wipe_set (h w List.mem_cons_self), wipe_idem σ vs ws (fun i hi => h i (List.mem_cons_of_mem _ hi))]

section
variable {K : Fr} {Xc : Addr → Prop} {H : Hp} {μ : Mu}
theorem SRel.set {σ : List (Option V)} {env : Env} (S : SRel K Xc σ H env μ) {i : Nat} {v : Val} {x : V} (d : Den K (Dn Xc μ) H v x) : SRel K Xc (σ.set i (some x)) H (env.set i (some v)) μ where
  m := S.m
  len := by rw [List.length_set, List.length_set]; exact S.len
  slot := fun j w h => by
    by_cases e : i = j
    · subst e
      by_cases hl : i < env.length
      · rw [List.getElem?_set_self hl] at h
        cases h
        exact ⟨x, by rw [List.getElem?_set_self (by rw [← S.len]; exact hl)], d⟩
      · rw [List.getElem?_eq_none (by simpa using hl)] at h; cases h
    · rw [List.getElem?_set_ne e] at h
      obtain ⟨y, h1, h2⟩ := S.slot j w h
      exact ⟨y, by rw [List.getElem?_set_ne e]; exact h1, h2⟩
theorem SRel.wipe {σ : List (Option V)} {env : Env} (S : SRel K Xc σ H env μ) (vs : List Nat) : SRel K Xc (L2.wipe σ vs) H (Mi.wipe env vs) μ where
  m := S.m
  len := by rw [wipeE_length, wipe_length]; exact S.len
  slot := fun j w h => by
    obtain ⟨h1, h2⟩ := wipeE_some h
    obtain ⟨y, h3, h4⟩ := S.slot j w h1
    exact ⟨y, by rw [wipe_get h2]; exact h3, h4⟩
mutual
theorem gT_ok : ∀ (t : Tg) (v : Val) (env env' : Env) (σ : List (Option V)) (x : V) (Q : List (Option V) → Hp → Prop), t.asg v env = some env' → SRel K Xc σ H env μ → Den K (Dn Xc μ) H v x →
    (∀ σ', SRel K Xc σ' H env' μ → (∀ vs, (∀ i ∈ t.names, i ∈ vs) → L2.wipe σ' vs = L2.wipe σ vs) → Q σ' H) → gT K t x σ H Q
  | .n i, v, env, env', σ, x, Q, e, S, d, q => by
    simp only [Tg.asg, Option.some.injEq] at e
    subst e
    exact q _ (S.set d) fun vs h => wipe_set (h i (by simp [Tg.names]))
  | .t l, v, env, env', σ, x, Q, e, S, d, q => by
    cases v with
    | tup vs =>
      simp only [Tg.asg] at e
      split at e
      · rename_i hl
        obtain ⟨a, xs, rfl, r, dl⟩ := S.m.tup d rfl
        exact .inl ⟨a, xs, rfl, r, by rw [← dl.length]; exact hl.symm, gTs_ok l vs env env' σ xs Q e S dl q⟩
      · cases e
    | lst vs =>
      simp only [Tg.asg] at e
      split at e
      · rename_i hl
        obtain ⟨a, xs, rfl, r, dl⟩ := S.m.lst d rfl
        exact .inr ⟨a, xs, rfl, r, by rw [← dl.length]; exact hl.symm, gTs_ok l vs env env' σ xs Q e S dl q⟩
      · cases e
    | _ => simp [Tg.asg] at e
theorem gTs_ok : ∀ (l : List Tg) (vs : List Val) (env env' : Env) (σ : List (Option V)) (xs : List V) (Q : List (Option V) → Hp → Prop), asgL l vs env = some env' → SRel K Xc σ H env μ → DenL K (Dn Xc μ) H vs xs →
    (∀ σ', SRel K Xc σ' H env' μ → (∀ vs, (∀ i ∈ namesL l, i ∈ vs) → L2.wipe σ' vs = L2.wipe σ vs) → Q σ' H) → gTs K l xs σ H Q
  | [], [], env, env', σ, xs, Q, e, S, d, q => by
    simp only [asgL, Option.some.injEq] at e
    subst e
    exact ⟨d, q σ S fun _ _ => rfl⟩
  | [], _ :: _, env, env', σ, xs, Q, e, S, d, q => by simp [asgL] at e
  | _ :: _, [], env, env', σ, xs, Q, e, S, d, q => by simp [asgL] at e
  | t :: ts, v :: vs, env, env', σ, xs, Q, e, S, ⟨x, r, ex, d1, d2⟩, q => by
    simp only [asgL] at e
    cases h1 : t.asg v env with
    | none => rw [h1] at e; cases e
    | some env1 =>
      rw [h1] at e
      refine ⟨x, r, ex, gT_ok t v env env1 σ x _ h1 S d1 fun σ1 S1 w1 => ?_⟩
      refine gTs_ok ts vs env1 env' σ1 r Q e S1 d2 fun σ2 S2 w2 => q σ2 S2 fun ws hw => ?_
      rw [w2 ws (fun i hi => hw i (by simp only [namesL]; exact List.mem_append_right _ hi)), w1 ws (fun i hi => hw i (by simp only [namesL]; exact List.mem_append_left _ hi))]
end

/-! ### with a list beside that is being made -/
def del (H : Hp) (D : Addr) : Hp := fun a => if a = D then none else H a
theorem del_ne {H : Hp} {D a : Addr} (h : a ≠ D) : del H D a = H a := if_neg h
theorem del_self {H : Hp} {D : Addr} : del H D D = none := if_pos rfl
theorem upd_del {H : Hp} {D : Addr} {o : HO} : upd (del H D) D o = upd H D o := by
  funext a
  unfold upd del
  by_cases h : a = D
  · rw [if_pos h, if_pos h]
  · rw [if_neg h, if_neg h, if_neg h]
def plusX (Xc : Addr → Prop) (D : Addr) : Addr → Prop := fun a => Xc a ∨ a = D
variable {D : Addr} {o : HO}
theorem rd_ne {u : HO} {a : Addr} (hD : H D = none) (r : Rd H a u) : a ≠ D := fun z => rdSome r (by rw [z]; exact hD)
theorem rd_upd {u : HO} {a : Addr} (h : a ≠ D) (r : Rd H a u) : Rd (upd H D o) a u := by
  rcases r with r | ⟨b, r⟩
  · exact .inl (by rw [upd_ne h]; exact r)
  · exact .inr ⟨b, by rw [upd_ne h]; exact r⟩
theorem rd_del {u : HO} {a : Addr} (h : a ≠ D) (r : Rd H a u) : Rd (del H D) a u := by
  rcases r with r | ⟨b, r⟩
  · exact .inl (by rw [del_ne h]; exact r)
  · exact .inr ⟨b, by rw [del_ne h]; exact r⟩
theorem dn_plus {a : Addr} (n : ¬ Dn Xc μ a) (h : a ≠ D) : ¬ Dn (plusX Xc D) μ a := fun z => by
  rcases z with z | z | z
  · exact n (.inl z)
  · exact n (.inr z)
  · exact h z
theorem dn_of_plus {a : Addr} (n : ¬ Dn (plusX Xc D) μ a) : ¬ Dn Xc μ a ∧ a ≠ D := ⟨fun z => n (z.imp id .inl), fun z => n (.inr (.inr z))⟩
mutual
theorem Den.plus (hD : H D = none) : ∀ (v : Val) (x : V), Den K (Dn Xc μ) H v x → Den K (Dn (plusX Xc D) μ) (upd H D o) v x
  | .non, x, h => h
  | .bl _, x, h => h
  | .int _, x, h => h
  | .str _, x, h => h
  | .ref _, x, h => h
  | .exn _ _, x, h => h
  | .ins c l, x, ⟨a, C, dx, xs, e1, n, r, hc, hl⟩ => ⟨a, C, dx, xs, e1, dn_plus n (rd_ne hD r), rd_upd (rd_ne hD r) r, hc, DenL.plus hD l xs hl⟩
  | .tup l, x, ⟨a, xs, e1, ⟨n, r⟩, hl⟩ => ⟨a, xs, e1, ⟨dn_plus n (rd_ne hD (.inl r)), by rw [upd_ne (rd_ne hD (.inl r))]; exact r⟩, DenL.plus hD l xs hl⟩
  | .dtt l, x, ⟨a, e1, n, r⟩ => ⟨a, e1, dn_plus n (rd_ne hD r), rd_upd (rd_ne hD r) r⟩
  | .lst l, x, ⟨a, xs, e1, h, hl⟩ => ⟨a, xs, e1, h.imp (fun ⟨n, r⟩ => ⟨dn_plus n (rd_ne hD r), rd_upd (rd_ne hD r) r⟩) id, DenL.plus hD l xs hl⟩
  | .dct l, x, ⟨a, kvs, e1, n, r, hl⟩ => ⟨a, kvs, e1, dn_plus n (rd_ne hD r), rd_upd (rd_ne hD r) r, DenP.plus hD l kvs hl⟩
theorem DenL.plus (hD : H D = none) : ∀ (l : List Val) (xs : List V), DenL K (Dn Xc μ) H l xs → DenL K (Dn (plusX Xc D) μ) (upd H D o) l xs
  | [], xs, h => h
  | v :: r, xs, ⟨x, t, e1, h1, h2⟩ => ⟨x, t, e1, Den.plus hD v x h1, DenL.plus hD r t h2⟩
theorem DenP.plus (hD : H D = none) : ∀ (l : List Val) (kvs : List (Key × V)), DenP K (Dn Xc μ) H l kvs → DenP K (Dn (plusX Xc D) μ) (upd H D o) l kvs
  | [], kvs, h => h
  | .tup [kv, v] :: r, kvs, ⟨k, x, t, e1, ek, h1, h2⟩ => ⟨k, x, t, e1, ek, Den.plus hD v x h1, DenP.plus hD r t h2⟩
  | .tup [] :: _, kvs, h => h
  | .tup [_] :: _, kvs, h => h
  | .tup (_ :: _ :: _ :: _) :: _, kvs, h => h
  | .non :: _, kvs, h => h
  | .bl _ :: _, kvs, h => h
  | .int _ :: _, kvs, h => h
  | .str _ :: _, kvs, h => h
  | .lst _ :: _, kvs, h => h
  | .dct _ :: _, kvs, h => h
  | .ref _ :: _, kvs, h => h
  | .exn _ _ :: _, kvs, h => h
  | .ins _ _ :: _, kvs, h => h
  | .dtt _ :: _, kvs, h => h
end
mutual
theorem Den.minus : ∀ (v : Val) (x : V), Den K (Dn (plusX Xc D) μ) H v x → Den K (Dn Xc μ) (del H D) v x
  | .non, x, h => h
  | .bl _, x, h => h
  | .int _, x, h => h
  | .str _, x, h => h
  | .ref _, x, h => h
  | .exn _ _, x, h => h
  | .ins c l, x, ⟨a, C, dx, xs, e1, n, r, hc, hl⟩ => ⟨a, C, dx, xs, e1, (dn_of_plus n).1, rd_del (dn_of_plus n).2 r, hc, DenL.minus l xs hl⟩
  | .tup l, x, ⟨a, xs, e1, ⟨n, r⟩, hl⟩ => ⟨a, xs, e1, ⟨(dn_of_plus n).1, by rw [del_ne (dn_of_plus n).2]; exact r⟩, DenL.minus l xs hl⟩
  | .dtt l, x, ⟨a, e1, n, r⟩ => ⟨a, e1, (dn_of_plus n).1, rd_del (dn_of_plus n).2 r⟩
  | .lst l, x, ⟨a, xs, e1, h, hl⟩ => ⟨a, xs, e1, h.imp (fun ⟨n, r⟩ => ⟨(dn_of_plus n).1, rd_del (dn_of_plus n).2 r⟩) id, DenL.minus l xs hl⟩
  | .dct l, x, ⟨a, kvs, e1, n, r, hl⟩ => ⟨a, kvs, e1, (dn_of_plus n).1, rd_del (dn_of_plus n).2 r, DenP.minus l kvs hl⟩
theorem DenL.minus : ∀ (l : List Val) (xs : List V), DenL K (Dn (plusX Xc D) μ) H l xs → DenL K (Dn Xc μ) (del H D) l xs
  | [], xs, h => h
  | v :: r, xs, ⟨x, t, e1, h1, h2⟩ => ⟨x, t, e1, Den.minus v x h1, DenL.minus r t h2⟩
theorem DenP.minus : ∀ (l : List Val) (kvs : List (Key × V)), DenP K (Dn (plusX Xc D) μ) H l kvs → DenP K (Dn Xc μ) (del H D) l kvs
  | [], kvs, h => h
  | .tup [kv, v] :: r, kvs, ⟨k, x, t, e1, ek, h1, h2⟩ => ⟨k, x, t, e1, ek, Den.minus v x h1, DenP.minus r t h2⟩
  | .tup [] :: _, kvs, h => h
  | .tup [_] :: _, kvs, h => h
  | .tup (_ :: _ :: _ :: _) :: _, kvs, h => h
  | .non :: _, kvs, h => h
  | .bl _ :: _, kvs, h => h
  | .int _ :: _, kvs, h => h
  | .str _ :: _, kvs, h => h
  | .lst _ :: _, kvs, h => h
  | .dct _ :: _, kvs, h => h
  | .ref _ :: _, kvs, h => h
  | .exn _ _ :: _, kvs, h => h
  | .ins _ _ :: _, kvs, h => h
  | .dtt _ :: _, kvs, h => h
end
theorem CRel.plus (hD : H D = none) {c : Val} {u : HO} (h : CRel K (Dn Xc μ) H c u) : CRel K (Dn (plusX Xc D) μ) (upd H D o) c u := by
  cases c with
  | lst l => obtain ⟨xs, e1, hl⟩ := h; exact ⟨xs, e1, DenL.plus hD l xs hl⟩
  | dct l => obtain ⟨kvs, e1, hl⟩ := h; exact ⟨kvs, e1, DenP.plus hD l kvs hl⟩
  | ins c l => obtain ⟨C, dx, xs, e1, hc, hl⟩ := h; exact ⟨C, dx, xs, e1, hc, DenL.plus hD l xs hl⟩
  | dtt l => exact h
  | _ => exact h.elim
theorem CRel.minus {c : Val} {u : HO} (h : CRel K (Dn (plusX Xc D) μ) H c u) : CRel K (Dn Xc μ) (del H D) c u := by
  cases c with
  | lst l => obtain ⟨xs, e1, hl⟩ := h; exact ⟨xs, e1, DenL.minus l xs hl⟩
  | dct l => obtain ⟨kvs, e1, hl⟩ := h; exact ⟨kvs, e1, DenP.minus l kvs hl⟩
  | ins c l => obtain ⟨C, dx, xs, e1, hc, hl⟩ := h; exact ⟨C, dx, xs, e1, hc, DenL.minus l xs hl⟩
  | dtt l => exact h
  | _ => exact h.elim
theorem MRel.plus (m : MRel K Xc μ H) (hD : H D = none) (ho : ∀ ob u, o ≠ .frz ob u := by intro _ _ z; cases z) : MRel K (plusX Xc D) μ (upd H D o) where
  obj := fun a c h => by
    obtain ⟨u, e, r⟩ := m.obj a c h
    exact ⟨u, by rw [upd_ne (ne_of_none e hD)]; exact e, r.plus hD⟩
  xc := fun a h => by
    by_cases e : a = D
    · subst e
      exact ⟨⟨o, upd_same, ho⟩, dn_none (m.fresh hD)⟩
    · rcases h with h | h
      · exact ⟨(m.xc a h).1.upd hD, (m.xc a h).2⟩
      · exact (e h).elim
theorem MRel.minus (m : MRel K (plusX Xc D) μ H) (hD : μ D = none) (hx : ¬ Xc D) : MRel K Xc μ (del H D) where
  obj := fun a c h => by
    obtain ⟨u, e, r⟩ := m.obj a c h
    exact ⟨u, by rw [del_ne (fun z => by rw [z, hD] at h; cases h)]; exact e, r.minus⟩
  xc := fun a h => by
    obtain ⟨⟨u, e1, n⟩, n2⟩ := m.xc a (.inl h)
    exact ⟨⟨u, by rw [del_ne (fun z => hx (by rw [← z]; exact h))]; exact e1, n⟩, n2⟩
theorem Ext.minus {μ' : Mu} {H' : Hp} (hD : H D = none) (e : Ext μ (upd H D o) μ' H') : Ext μ H μ' (del H' D) where
  keepO := fun a u h n => by
    have ne := ne_of_none h hD
    rw [del_ne ne]
    exact e.keepO a u (by rw [upd_ne ne]; exact h) n
  nonew := fun a h n => by
    have ne : a ≠ D := fun z => h (by rw [z]; exact hD)
    exact e.nonew a (by rw [upd_ne ne]; exact h) n
  there := fun a h => by
    have ne : a ≠ D := fun z => h (by rw [z]; exact hD)
    rw [del_ne ne]
    exact e.there a (by rw [upd_ne ne]; exact h)
end

/-! ### list comprehensions -/
section
variable {X : Cx} {Φ : Ph} {W : WX} {pos : Pos}
abbrev W0 : WX := fun _ _ _ _ => False
theorem PTs.imp {a : List Expr} {t t' : TT} (h : PTs X a t) (f : ∀ σ H Q, t' σ H Q → t σ H Q) : PTs X a t' := ⟨fun pins s σ H Q I q => h.run pins s σ H Q I (f _ _ _ q)⟩
theorem pts_yes : PTs X [] (rdT X.K X.mg Φ W (.c (.bl true))) := PTs.imp pts_nil fun σ H Q ⟨Xc, env, μ, S, q⟩ => by
  simp only [wpE] at q
  exact q H S Ext.refl
theorem comp_read (hΦ : MonoP Φ) {K : Fr} {mg : Str → Option Value} {elt : E} {t : Tg} {own : List Nat} {it : It} {cond : E} (hown : ∀ i ∈ t.names, i ∈ own) {σ : List (Option V)} {H : Hp} {Q : VK}
    (h : rdF K mg Φ W (.comp elt t own it cond) σ H Q) : tLc (rdI K mg Φ W it) (gT K t) (rdT K mg Φ W0 cond) (rdE K mg Φ W0 elt) own σ H Q := by
  obtain ⟨Xc, env, μ, S, q⟩ := h
  simp only [wpE] at q
  refine ⟨Xc, env, μ, S, wpI_mono hΦ it env μ _ _ _ _ (fun l g μ1 lc J H1 S1 E1 ok D hD => ?_) (fun _ _ z => z) q⟩
  refine ⟨fun i m Hc => ∃ (μ' : Mu) (acc : List Val) (Hm : Hp) (vs : List V), m = l.length - i ∧ i ≤ l.length ∧ Hc = upd Hm D (.lst vs) ∧ Hm D = none ∧ MRel K Xc μ' Hm ∧ Ext μ1 H1 μ' Hm ∧ DenL K (Dn Xc μ') Hm acc vs ∧
    loopC (gOk g) (fun v μ2 R => match t.asg v (Mi.wipe env own) with
      | some env' => wpE Φ cond env' μ2 (fun tv μ3 => match truthV μ3 tv with
        | some true => wpE Φ elt env' μ3 (fun y μ4 => R (some y) μ4) fun _ _ => False
        | some false => R none μ3
        | none => False) fun _ _ => False
      | none => False) (l.drop i) acc μ' (fun r μ' => FPost K Xc σ H env μ Q (.lst r) μ'), ⟨l.length, μ1, [], H1, [], by simp, Nat.zero_le _, rfl, hD, S1.m, Ext.refl, rfl, lc⟩, ?_⟩
  rintro i m Hc ⟨μ', acc, Hm, vs, rfl, hi, rfl, hDm, mm, Em, dacc, lc'⟩
  have mc : MRel K (plusX Xc D) μ' (upd Hm D (.lst vs)) := mm.plus hDm
  have dens : ∀ v x, Den K (Dn Xc μ1) H1 v x → Den K (Dn (plusX Xc D) μ') (upd Hm D (.lst vs)) v x := fun v x d => Den.plus hDm v x (d.ext Em)
  have hμD : μ' D = none := dn_none (mm.fresh hDm)
  have fz : ∀ a ob u, H1 a = some (.frz ob u) → (upd Hm D (.lst vs)) a = some (.frz ob u) := fun a ob u h => by rw [upd_ne (ne_of_none (Em.frz S1.m h) hDm)]; exact Em.frz S1.m h
  have hXD : ¬ Xc D := fun z => mm.xcn z hDm
  by_cases hlt : i < l.length
  · have hdrop : l.drop i = l[i] :: l.drop (i + 1) := List.drop_eq_getElem_cons hlt
    rw [hdrop] at lc'
    obtain ⟨hg, step⟩ := lc'
    obtain ⟨ok1, _⟩ := ok i (plusX Xc D) μ' (upd Hm D (.lst vs)) mc dens fz hg
    obtain ⟨go, yl⟩ := ok1 l[i] (List.getElem?_eq_getElem hlt)
    refine .inr ⟨go, fun Hn => ∃ (μ' : Mu) (acc : List Val) (Hm : Hp) (vs : List V), i + 1 ≤ l.length ∧ Hn = upd Hm D (.lst vs) ∧ Hm D = none ∧ MRel K Xc μ' Hm ∧ Ext μ1 H1 μ' Hm ∧ DenL K (Dn Xc μ') Hm acc vs ∧ loopC (gOk g) _ (l.drop (i + 1)) acc μ' _,
      fun Hn ⟨μ2, acc2, Hm2, vs2, a1, a2, a3, a4, a5, a6, a7⟩ => ⟨l.length - (i + 1), by omega, μ2, acc2, Hm2, vs2, rfl, a1, a2, a3, a4, a5, a6, a7⟩, fun x H' y => ?_⟩
    obtain ⟨Ey, my, dy⟩ := yl x H' y
    cases ha : t.asg l[i] (Mi.wipe env own) with
    | none => rw [ha] at step; exact step.elim
    | some env' =>
      rw [ha] at step
      have S' : SRel K (plusX Xc D) σ H' env μ' := ⟨my, fun j w hw => by
        obtain ⟨z, h1, h2⟩ := S1.slot j w hw
        exact ⟨z, h1, (dens w z h2).ext Ey⟩, S1.len⟩
      refine gT_ok t _ _ _ _ _ _ ha (S'.wipe own) dy fun σ2 S2 hw => ⟨by rw [hw own hown, wipe_idem _ own own (fun _ h => h)], ?_⟩
      refine ⟨plusX Xc D, env', μ', S2, wpE_mono hΦ cond env' μ' _ _ _ _ (fun tv μ3 z => ?_) (fun _ _ z => z.elim) step⟩
      unfold TPost
      cases hb : truthV μ3 tv with
      | none => rw [hb] at z; exact z
      | some b =>
        rw [hb] at z
        intro H3 S3 E3
        cases b with
        | false =>
          refine iteF ⟨μ3, acc, del H3 D, vs, hlt, ?_, del_self, ?_, ?_, ?_, z⟩
          · rw [upd_del]
            have hk : H3 D = some (.lst vs) := (Ey.trans E3).keepE D _ upd_same hμD (fun _ z => by cases z)
            funext a
            by_cases e : a = D
            · rw [e, upd_same]; exact hk
            · rw [upd_ne e]
          · exact S3.m.minus ((Ey.trans E3).nonew D (by rw [upd_same]; intro z; cases z) hμD) hXD
          · exact Em.trans ((Ey.trans E3).minus hDm)
          · exact DenL.ext ((Ey.trans E3).minus hDm) acc vs dacc
        | true =>
          refine iteT ⟨plusX Xc D, env', μ3, S3, wpE_mono hΦ elt env' μ3 _ _ _ _ (fun yv μ4 z4 y4 H4 S4 E4 d4 => ?_) (fun _ _ z => z.elim) z⟩
          have Et := (Ey.trans E3).trans E4
          have hk : H4 D = some (.lst vs) := Et.keepE D _ upd_same hμD (fun _ z => by cases z)
          obtain ⟨hlen, z5⟩ := z4
          refine ⟨vs, hk, by rw [← big_line, ← dacc.length]; exact hlen, μ4, acc ++ [yv], del H4 D, vs ++ [y4], hlt, by rw [upd_del], del_self, ?_, ?_, ?_, z5⟩
          · exact S4.m.minus (Et.nonew D (by rw [upd_same]; intro z; cases z) hμD) hXD
          · exact Em.trans (Et.minus hDm)
          · exact (DenL.ext (Et.minus hDm) acc vs dacc).append ⟨y4, [], rfl, Den.minus _ _ d4, rfl⟩
  · have e : i = l.length := by omega
    subst e
    rw [List.drop_length] at lc'
    obtain ⟨hg, fin⟩ := lc'
    obtain ⟨_, stop⟩ := ok l.length (plusX Xc D) μ' (upd Hm D (.lst vs)) mc dens fz hg
    exact .inl ⟨stop (Nat.le_refl _), fin D (.lst vs) Hm (S1.of_ext mm Em) (E1.trans Em) hDm ⟨vs, rfl, dacc⟩⟩
theorem sf_comp (hΦ : MonoP Φ) {elt tg iter : Expr} {ifs : List Expr} {scope : Scope} {own : List (Str × Nat)} {e : E} {t : Tg} {it : It} {cond : E} (hc : X.calm = true) (hN : X.N.Nodup) (hi : SI X Φ W tg iter it) (ok : BlkOk X.N X.env.scope scope own)
    (hg : ∀ (s : Shared) (H : Hp) (C : Addr) (cl : List (Str × Addr)) (fp : List Addr), PG (X.blk s H scope (compEnvC scope cl C X.env) fp) tg (gT X.K t))
    (ht : ∀ (s : Shared) (H : Hp) (C : Addr) (cl : List (Str × Addr)) (fp : List Addr), PTs (X.blk s H scope (compEnvC scope cl C X.env) fp) ifs (rdT X.K X.mg Φ W0 cond))
    (he : ∀ (s : Shared) (H : Hp) (C : Addr) (cl : List (Str × Addr)) (fp : List Addr), SE (X.blk s H scope (compEnvC scope cl C X.env) fp) Φ W0 elt e)
    (hown : ∀ i ∈ t.names, i ∈ own.map (·.2)) (hs : ∀ x, foldedSetIterable iter X.env x = pure x := by intro _; rfl) :
    SF X Φ W (.ListComp elt [⟨tg, iter, ifs, 0⟩] scope pos) (.comp e t (own.map (·.2)) it cond) :=
  PE.imp (pe_lc hc hN hi ok hg ht he hs) fun σ H Q h => comp_read hΦ hown h
end
end Mi
/-! Mi9b: comprehensions whose element may raise. -/
namespace Mi
open PySem PySem.Spec PyProof.Rows L2 PySem.HandSPX

section
variable {M : Model} {A : Around} {E : Value → Shared → Prop} {s : Shared} {base : Heap} {env : PySem.Env} {outer : List PySem.Env} {e L : Addr} {Z : Obj → Prop}
end

abbrev Cx.blkX (X : Cx) (s : Shared) (H : Hp) (scope : Scope) (cenv : PySem.Env) (fp : List Addr) : Cx := (X.blk s H scope cenv fp).tr [] (notedBy (model X.prog X.w) X.A cenv (CompFails (model X.prog X.w) X.A X.xe cenv))
section
variable {X : Cx} {W : WX}
end
end Mi
/-! Mi9c: list comprehensions whose element may raise: the rule. -/
namespace Mi
open PySem PySem.Spec PyProof.Rows L2

section
variable {X : Cx} {W : WX}
end
end Mi
/-! Mi10: statements, defs. -/
namespace Mi
open PySem PySem.Spec PyProof.Rows L2

section
variable (K : Fr) (mg : Str → Option Value) (W : WX) (Xc : Addr → Prop) (H : Hp) (μ : Mu) (D : Ends)
def enOf : En where
  nx := fun env' μ' => ∀ σ' H', SRel K Xc σ' H' env' μ' → Ext μ H μ' H' → D.nx σ' H'
  rt := fun v μ' => ∀ x H', MRel K Xc μ' H' → Ext μ H μ' H' → Den K (Dn Xc μ') H' v x → D.rt x H'
  ex := fun e env' μ' => ∀ cls d σ' H', SRel K Xc σ' H' env' μ' → Ext μ H μ' H' → ExR K mg e cls d → W cls d σ' H'
end
def rdS (K : Fr) (mg : Str → Option Value) (Φ : Ph) (W : WX) (s : S) : TS := fun D σ H => ∃ Xc env μ, SRel K Xc σ H env μ ∧ wpS Φ s env μ (enOf K mg W Xc H μ D)
abbrev SS (X : Cx) (Φ : Ph) (W : WX) (a : Stmt) (s : S) : Prop := PS X a (rdS X.K X.mg Φ W s)
abbrev SB (X : Cx) (Φ : Ph) (W : WX) (a : List Stmt) (s : S) : Prop := PSs X a (rdS X.K X.mg Φ W s)
theorem PS.imp {X : Cx} {a : Stmt} {t t' : TS} (h : PS X a t) (f : ∀ D σ H, t' D σ H → t D σ H) : PS X a t' := ⟨fun pins s σ H D I q => h.run pins s σ H D I (f _ _ _ q)⟩
theorem PSs.imp {X : Cx} {a : List Stmt} {t t' : TS} (h : PSs X a t) (f : ∀ D σ H, t' D σ H → t D σ H) : PSs X a t' := ⟨fun pins s σ H D I q => h.run pins s σ H D I (f _ _ _ q)⟩

section
variable {K : Fr} {mg : Str → Option Value} {Φ : Ph} {W : WX} {Xc : Addr → Prop} {σ : List (Option V)} {H H0 : Hp} {env : Env} {μ μ0 : Mu} {D : Ends}
theorem enOf.le (E0 : Ext μ0 H0 μ H) : (enOf K mg W Xc H0 μ0 D).Le (enOf K mg W Xc H μ D) :=
  ⟨fun e μ' h σ' H' S E => h σ' H' S (E0.trans E), fun v μ' h x H' S E d => h x H' S (E0.trans E) d, fun v e μ' h cls d σ' H' S E r => h cls d σ' H' S (E0.trans E) r⟩
theorem ex_x {e : Val} {μ' : Mu} (h : (enOf K mg W Xc H μ D).ex e env μ') : XPost K mg W Xc σ H env μ e μ' := fun cls d H' S E r => h cls d σ H' S E r
theorem useS (hΦ : MonoP Φ) {e : E} {F : Val → Mu → Prop} {R : VK} (S : SRel K Xc σ H env μ) (q : wpE Φ e env μ F (fun x μ' => (enOf K mg W Xc H μ D).ex x env μ'))
    (k : ∀ v μ1 x H1, SRel K Xc σ H1 env μ1 → Ext μ H μ1 H1 → Den K (Dn Xc μ1) H1 v x → F v μ1 → R x H1) : rdE K mg Φ W e σ H R :=
  use hΦ S Ext.refl (wpE_mono hΦ e env μ _ _ _ _ (fun _ _ z => z) (fun _ _ z => ex_x z) q) fun v μ1 x H1 S1 E1 _ d f => k v μ1 x H1 S1 E1 d f
end

section
variable {X : Cx} {Φ : Ph} {W : WX} {pos : Pos}
theorem sb_nil : SB X Φ W [] .skip := PSs.imp pss_nil fun D σ H ⟨Xc, env, μ, S, q⟩ => q σ H S Ext.refl
theorem sb_one {a : Stmt} {s : S} (h : SS X Φ W a s) : SB X Φ W [a] s := pss_one h
theorem sb_cons (hΦ : MonoP Φ) {a : Stmt} {r : List Stmt} {s t : S} (h : SS X Φ W a s) (hr : SB X Φ W r t) : SB X Φ W (a :: r) (.seq s t) :=
  PSs.imp (pss_cons h hr) fun D σ H ⟨Xc, env, μ, S, q⟩ => by
    rw [wpS] at q
    refine ⟨Xc, env, μ, S, wpS_mono hΦ s env μ _ _ ?_ q⟩
    exact ⟨fun e μ' z σ' H' S' E' => ⟨Xc, e, μ', S', wpS_mono hΦ t e μ' _ _ (enOf.le E') z⟩, fun _ _ z => z, fun _ _ _ z => z⟩
theorem ss_ex (hΦ : MonoP Φ) {a : Expr} {e : E} (h : SE X Φ W a e) (hs : swapsWith a none pos.line X.env = pure false := by rfl) : SS X Φ W (.Expr a pos) (.ex e) :=
  PS.imp (ps_expr h hs) fun D σ H ⟨Xc, env, μ, S, q⟩ => by
    rw [wpS] at q
    exact useS hΦ S q fun v μ1 x H1 S1 E1 d f => f σ H1 S1 E1
theorem ss_asg (hΦ : MonoP Φ) {i : Nat} {x : Str} {a : Expr} {e : E} {pos' : Pos} (hN : X.N.Nodup) (hi : X.N[i]? = some x) (hx : Loc X.env.scope x) (h : SE X Φ W a e) (hs : swapsWith a (some (.Name x pos')) pos.line X.env = pure false := by rfl)
    (hf : X.fn x = true ∨ X.env.scope.names.lookup x = some .local) : SS X Φ W (.Assign [.Name x pos'] a pos) (.asg i e) :=
  PS.imp (ps_set hN hi hx h hs hf) fun D σ H ⟨Xc, env, μ, S, q⟩ => by
    rw [wpS] at q
    exact useS hΦ S q fun v μ1 x H1 S1 E1 d f => f _ H1 (S1.set d) E1
/-! ### o[i] = v -/
def rSetM (K : Fr) : TSet := fun o i v H Q => ∃ Xc μ ov iv vv μ', MRel K Xc μ H ∧ Den K (Dn Xc μ) H ov o ∧ Den K (Dn Xc μ) H iv i ∧ Den K (Dn Xc μ) H vv v ∧ setV μ ov iv vv = some μ' ∧ ∀ H', MRel K Xc μ' H' → Ext μ H μ' H' → Q H'
theorem DenP.put {K : Fr} {D : Addr → Prop} {H : Hp} {k v : Val} {j : Key} {x : V} (hk : keyOf k = some j) (d : Den K D H v x) : ∀ {l : List Val} {kvs : List (Key × V)}, DenP K D H l kvs → (kvs.map (·.1)).Nodup → DenP K D H (dPut k v l) (putK kvs j x)
  | [], kvs, h, _ => by rw [show kvs = [] from h]; exact ⟨j, x, [], rfl, hk, d, rfl⟩
  | .tup [k', w] :: r, kvs, ⟨j', y, t, e, hk', dw, dr⟩, nd => by
    subst e
    simp only [dPut]
    rw [keyEq_of hk hk']
    rw [List.map_cons, List.nodup_cons] at nd
    by_cases z : j = j'
    · subst z
      rw [decide_eq_true rfl, if_pos rfl]
      have e : putK ((j, y) :: t) j x = (j, x) :: t := by
        unfold putK
        rw [if_pos (by simp)]
        rw [List.map_cons, if_pos rfl]
        congr 1
        conv => rhs; rw [← List.map_id t]
        refine List.map_congr_left fun kv hkv => ?_
        rw [if_neg (fun q => nd.1 (List.mem_map.mpr ⟨kv, hkv, q⟩))]
        rfl
      rw [e]
      exact ⟨j, x, t, rfl, hk', d, dr⟩
    · rw [decide_eq_false z, if_neg Bool.false_ne_true]
      have e : putK ((j', y) :: t) j x = (j', y) :: putK t j x := by
        have zz : ¬ j' = j := fun q => z q.symm
        unfold putK
        by_cases ha : (t.any fun kv => decide (kv.1 = j)) = true
        · rw [if_pos ha, if_pos (by rw [List.any_cons, ha, Bool.or_true]), List.map_cons, if_neg zz]
        · rw [if_neg ha, if_neg (by rw [List.any_cons, decide_eq_false zz, Bool.false_or]; exact ha)]
          rfl
      rw [e]
      exact ⟨j', y, _, rfl, hk', dw, DenP.put hk d dr nd.2⟩
  | .tup [] :: _, _, h, _ => h.elim
  | .tup [_] :: _, _, h, _ => h.elim
  | .tup (_ :: _ :: _ :: _) :: _, _, h, _ => h.elim
  | .non :: _, _, h, _ => h.elim
  | .bl _ :: _, _, h, _ => h.elim
  | .int _ :: _, _, h, _ => h.elim
  | .str _ :: _, _, h, _ => h.elim
  | .lst _ :: _, _, h, _ => h.elim
  | .dct _ :: _, _, h, _ => h.elim
  | .ref _ :: _, _, h, _ => h.elim
  | .exn _ _ :: _, _, h, _ => h.elim
  | .ins _ _ :: _, _, h, _ => h.elim
  | .dtt _ :: _, _, h, _ => h.elim
theorem inl_inj : ∀ {k k' : List Int}, k.map (Sum.inl : Int → Key) = k'.map Sum.inl → k = k'
  | [], [], _ => rfl
  | [], _ :: _, h => by cases h
  | _ :: _, [], h => by cases h
  | a :: k, b :: k', h => by
    rw [List.map_cons, List.map_cons] at h
    injection h with h1 h2
    injection h1 with h1
    rw [h1, inl_inj h2]
theorem inl_iff {k k' : List Int} : k.map (Sum.inl : Int → Key) = k'.map Sum.inl ↔ k = k' := ⟨inl_inj, fun h => by rw [h]⟩
theorem tPut_K (k : List Int) (i : Int) (l : List (List Int × Int)) : ttK (tPut k i l) = putK (ttK l) (k.map Sum.inl) (V.int i) := by
  unfold tPut putK ttK
  have e : ((l.map fun p => ((p.1.map Sum.inl : List Key), V.int p.2)).any fun kv => decide (kv.1 = k.map Sum.inl)) = l.any fun p => decide (p.1 = k) := by
    rw [List.any_map]
    congr 1
    funext p
    simp [inl_iff]
  rw [e]
  split
  · rw [List.map_map, List.map_map]
    refine List.map_congr_left fun p _ => ?_
    show ((if p.1 = k then (p.1, i) else p).1.map Sum.inl, V.int (if p.1 = k then (p.1, i) else p).2) = if (p.1.map Sum.inl : List Key) = k.map Sum.inl then _ else _
    by_cases h : p.1 = k
    · rw [if_pos h, if_pos (by rw [h])]
    · rw [if_neg h, if_neg fun z => h (inl_inj z)]
  · rw [List.map_append]
    rfl
theorem dk_nodup {pins : List (Addr × Obj)} {σ : List (Option V)} {H : Hp} {s : Shared} {a : Addr} {kvs : List (Key × V)} (I : Inv X pins σ H s) (h : H a = some (.dK kvs)) : (kvs.map (·.1)).Nodup := by
  obtain ⟨_, _, vs, rel, o, es, ep, e, x, d, he, nd⟩ := dk_of I.hok h
  rw [rel.keys]
  exact nd.2
theorem set_m {k : Nat} (hr : RoomH k X.A) : PSet X (rSetM X.K) := by
  intro pins s σ H o i v ov iv u Q I ro ri rv h
  obtain ⟨Xc, μ, ov', iv', vv', μ', m, d1, d2, d3, e, q⟩ := h
  have hu := hr.un
  unfold setV at e
  split at e
  · rename_i a
    split at e
    · rename_i l k' hl
      cases hk : Mi.ixN l.length k' with
      | none => rw [hk] at e; cases e
      | some j =>
        rw [hk] at e
        cases e
        obtain ⟨xs, hx, l1⟩ := m.lstM hl
        have hk' : L2.ixN xs.length k' = some j := by rw [← l1.length]; exact hk
        have r' : CRel X.K (Dn Xc μ) H (.lst (l.set j vv')) (.lst (xs.set j v)) := ⟨_, rfl, l1.set j d3⟩
        exact set_list pins s σ H o i v ov iv u Q I ro ri rv ⟨a, xs, k', j, d1, d2, hx, hk', q _ (m.put hl r') (Ext.put hl)⟩
    · rename_i l _ hl
      split at e
      · rename_i hk
        cases e
        obtain ⟨j, hj⟩ := key_isKey hk.1
        obtain ⟨kvs, hx, l1⟩ := m.dctM hl
        have r' : CRel X.K (Dn Xc μ) H (.dct (dPut _ vv' _)) (.dK (putK kvs j v)) := ⟨_, rfl, DenP.put hj d3 l1 (dk_nodup I hx)⟩
        rw [show o = V.ref a from d1] at ro
        obtain rfl : ov = Value.ref a := ro
        have g : DPut H a i v (upd H a (.dK (putK kvs j v))) := .inl ⟨kvs, j, hx, keyOf_den hj d2, by rw [← big_line, ← l1.length]; exact hk.2, rfl⟩
        exact d_setItem (by omega) I g ri rv fun s' I' => ⟨_, I', q _ (m.put hl r') (Ext.put hl)⟩
      · cases e
    · rename_i l ks hl
      split at e
      · rename_i ns i' hn
        split at e
        · rename_i hlen
          cases e
          obtain ⟨o', hx, ho'⟩ := m.obj a _ hl
          obtain rfl : o' = .dT (ttK l) := ho'
          obtain ⟨b, xs, rfl, ⟨_, hb⟩, l1⟩ := d2
          have r' : CRel X.K (Dn Xc μ) H (.dtt (tPut ns i' l)) (.dT (putK (ttK l) (ns.map Sum.inl) (.int i'))) := by
            show HO.dT _ = HO.dT _
            rw [tPut_K]
          rw [show o = V.ref a from d1] at ro
          obtain rfl : ov = Value.ref a := ro
          have hb' : H b = some (.tup ((ns.map (Sum.inl : Int → Key)).map kV)) := by rw [hb, ints_tup hn l1]
          obtain rfl : v = V.int i' := d3
          have g : DPut H a (.ref b) (.int i') (upd H a (.dT (putK (ttK l) (ns.map Sum.inl) (.int i')))) := .inr ⟨_, _, b, hx, rfl, hb', by rw [← big_line]; unfold ttK; rw [List.length_map]; exact hlen, rfl⟩
          exact d_setItem (by omega) I g ri rv fun s' I' => ⟨_, I', q _ (m.put hl r') (Ext.put hl)⟩
        · cases e
      · cases e
    · cases e
  · cases e
theorem ss_setix {k : Nat} (hr : RoomH k X.A) (hΦ : MonoP Φ) {o i a : Expr} {eo ei e : E} {spos : Pos} (h : SE X Φ W a e) (ho : SE X Φ W o eo) (hi : SE X Φ W i ei)
    (hs : swapsWithSole [.Subscript o i spos] a pos.line X.env = pure false := by rfl) (hw : swappedStores [.Subscript o i spos] a X.env = pure none := by rfl)
    (h1 : (assignEach [.Subscript o i spos] X.env).map (·.2) = [assign (.Subscript o i spos) X.env] := by rfl)
    (ha : ∀ v, assign (.Subscript o i spos) X.env v = (do
      let ov ← holding [v] (eval o X.env)
      let iv ← holding [v, ov] (eval i X.env)
      standAt spos
      holding [v, ov, iv] (setItem ov iv v)
      release [v, ov, iv] []) := by intro _; rfl) : SS X Φ W (.Assign [.Subscript o i spos] a pos) (.setix eo ei e) :=
  PS.imp (ps_asg h (pg_sub ho hi (set_m hr) ha) hs hw h1) fun D σ H ⟨Xc, env, μ, S, q⟩ => by
    rw [wpS] at q
    have x2 : ∀ (v : Val) (μ' : Mu), (enOf X.K X.mg W Xc H μ D).ex v env μ' → XPost X.K X.mg W Xc σ H env μ v μ' := fun _ _ z => ex_x z
    refine use hΦ S Ext.refl (wpE_mono hΦ e env μ _ _ _ _ (fun _ _ z => z) x2 q) fun v μ1 x H1 S1 E1 E1' d q1 => ?_
    refine use hΦ S1 E1' (wpE_mono hΦ eo env μ1 _ _ _ _ (fun _ _ z => z) x2 q1) fun ov μ2 y H2 S2 E2 E2' d2 q2 => ?_
    refine use hΦ S2 E2' (wpE_mono hΦ ei env μ2 _ _ _ _ (fun _ _ z => z) x2 q2) fun iv μ3 z H3 S3 E3 E3' d3 q3 => ?_
    split at q3
    · rename_i μ4 hm
      exact ⟨Xc, μ3, ov, iv, v, μ4, S3.m, d2.ext E3, d3, (d.ext E2).ext E3, hm, fun H4 m4 E4 => q3 σ H4 (S3.of_ext m4 E4) (E3'.trans E4)⟩
    · exact q3.elim
theorem ss_ite (hΦ : MonoP Φ) {c : Expr} {a b : List Stmt} {ec : E} {s t : S} (hc : ST X Φ W c ec) (ha : SB X Φ W a s) (hb : SB X Φ W b t) : SS X Φ W (.If c a b pos) (.ite ec s t) :=
  PS.imp (ps_if hc ha hb) fun D σ H ⟨Xc, env, μ, S, q⟩ => by
    rw [wpS] at q
    refine useT hΦ S Ext.refl (wpE_mono hΦ ec env μ _ _ _ _ (fun _ _ z => z) (fun _ _ z => ex_x z) q) (fun v μ1 f z => by rw [z] at f; exact f) fun v μ1 b H1 S1 E1 hb f => ?_
    rw [hb] at f
    cases b with
    | true => exact iteT ⟨Xc, env, μ1, S1, wpS_mono hΦ s env μ1 _ _ (enOf.le E1) f⟩
    | false => exact iteF ⟨Xc, env, μ1, S1, wpS_mono hΦ t env μ1 _ _ (enOf.le E1) f⟩
theorem ss_for (hΦ : MonoP Φ) {tg iter : Expr} {body : List Stmt} {t : Tg} {it : It} {s : S} (hp : PassesOwn (model X.prog X.w) X.A X.env X.xe) (hc : X.calm = true) (hi : SI X Φ W tg iter it) (hg : PG X tg (gT X.K t)) (hb : SB X Φ W body s)
    (hs : ∀ x, foldedSetIterable iter X.env x = pure x := by intro _; rfl) : SS X Φ W (.For tg iter body [] pos) (.forS t it s) :=
  PS.imp (ps_for hp hc hi hg hb hs) fun D σ H ⟨Xc, env, μ, S, q⟩ => by
    rw [wpS] at q
    refine ⟨Xc, env, μ, S, wpI_mono hΦ it env μ _ _ _ _ (fun l g μ1 lf J H1 S1 E1 ok => ?_) (fun _ _ z => ex_x z) q⟩
    refine ⟨fun i m σ' H' => ∃ env' μ', m = l.length - i ∧ i ≤ l.length ∧ SRel X.K Xc σ' H' env' μ' ∧ Ext μ1 H1 μ' H' ∧ loopF (gOk g) (fun v env' μ' R => match t.asg v env' with
      | some env2 => wpS Φ s env2 μ' { enOf X.K X.mg W Xc H μ D with nx := R }
      | none => False) (enOf X.K X.mg W Xc H μ D).nx (l.drop i) env' μ', ⟨l.length, env, μ1, by simp, Nat.zero_le _, S1, Ext.refl, lf⟩, ?_⟩
    rintro i m σ' H' ⟨env', μ', rfl, hi, S', E', lf'⟩
    have dens : ∀ v x, Den X.K (Dn Xc μ1) H1 v x → Den X.K (Dn Xc μ') H' v x := fun v x d => d.ext E'
    by_cases hlt : i < l.length
    · have hdrop : l.drop i = l[i] :: l.drop (i + 1) := List.drop_eq_getElem_cons hlt
      rw [hdrop] at lf'
      obtain ⟨hg, step⟩ := lf'
      obtain ⟨ok1, _⟩ := ok i Xc μ' H' S'.m dens (fun a ob u h => E'.frz S1.m h) hg
      obtain ⟨go, yl⟩ := ok1 l[i] (List.getElem?_eq_getElem hlt)
      refine .inr ⟨go, fun σ2 H2 => ∃ env2 μ2, i + 1 ≤ l.length ∧ SRel X.K Xc σ2 H2 env2 μ2 ∧ Ext μ1 H1 μ2 H2 ∧ loopF (gOk g) _ (enOf X.K X.mg W Xc H μ D).nx (l.drop (i + 1)) env2 μ2,
        fun σ2 H2 ⟨e2, μ2, a1, a2, a3, a4⟩ => ⟨l.length - (i + 1), by omega, e2, μ2, rfl, a1, a2, a3, a4⟩, fun x H2 y => ?_⟩
      obtain ⟨Ey, my, dy⟩ := yl x H2 y
      cases ha : t.asg l[i] env' with
      | none => rw [ha] at step; exact step.elim
      | some env2 =>
        rw [ha] at step
        refine gT_ok t _ _ _ _ _ _ ha (S'.of_ext my Ey) dy fun σ2 S2 _ => ⟨Xc, env2, μ', S2, wpS_mono hΦ s env2 μ' _ _ ?_ step⟩
        have Et : Ext μ H μ' H2 := (E1.trans E').trans Ey
        exact ⟨fun e3 μ3 z σ3 H3 S3 E3 => ⟨e3, μ3, hlt, S3, (E'.trans Ey).trans E3, z⟩, fun v μ3 z x H3 S3 E3 d => z x H3 S3 (Et.trans E3) d, fun v e μ3 z cls d σ3 H3 S3 E3 r => z cls d σ3 H3 S3 (Et.trans E3) r⟩
    · have e : i = l.length := by omega
      subst e
      rw [List.drop_length] at lf'
      obtain ⟨hg, fin⟩ := lf'
      obtain ⟨_, stop⟩ := ok l.length Xc μ' H' S'.m dens (fun a ob u h => E'.frz S1.m h) hg
      exact .inl ⟨stop (Nat.le_refl _), fin σ' H' S' (E1.trans E')⟩
theorem ss_ret (hΦ : MonoP Φ) {a : Expr} {e : E} (h : SE X Φ W a e) : SS X Φ W (.Return (some a) pos) (.ret e) :=
  PS.imp (ps_ret h) fun D σ H ⟨Xc, env, μ, S, q⟩ => by
    rw [wpS] at q
    exact useS hΦ S q fun v μ1 x H1 S1 E1 d f => f x H1 S1.m E1 d
end
end Mi
/-! Mi10b: instances of the program's own classes: fields, methods, making. -/
namespace Mi
open PySem PySem.Spec PyProof.Rows L2
/-! fields -/
structure ClsOk (K : Fr) : Prop where
  cls : ∀ c C, clsAt K c C → fieldsOf c ≠ [] → Cls K C
  no : ∀ c C f, clsAt K c C → f ∈ fieldsOf c → NoAttr K C (Str.ofString f)
section
variable {X : Cx} {Φ : Ph} {W : WX} {a o : Expr} {ea eo : E} {pos apos : Pos}
end
end Mi
/-! Mi10c: methods called, instances made. -/
namespace Mi
open PySem PySem.Spec PyProof.Rows L2
section
variable {X : Cx} {CX : CXT} {k : Nat} {f C : Addr} {fd : FuncData} {ps : List Str} {sp : Sp} {WX' : L2.St → XK} {x m : Str} {p pos apos : Pos} {e o : Expr} {es : List Expr} {to : TE} {t : TA}
def tMthS (C : Addr) (m : Str) (sp : Sp) (WX' : L2.St → XK) (to : TE) (t : TA) : TE := fun σ H Q => to σ H fun y H1 => ∃ a dx fs, y = .ref a ∧ H1 a = some (.ins C dx fs) ∧ fs.lookup m = none ∧ t σ H1 fun vs H2 => sp (y :: vs) H2 Q (WX' σ)
def tMkS (C : Addr) (sp : Sp) (WX' : L2.St → XK) (t : TA) : TE := fun σ H Q => t σ H fun vs H1 => ∀ y dx, H1 y = none → H1 dx = none → dx ≠ y → sp (.ref y :: vs) (upd (upd H1 dx (.own y)) y (.ins C dx [])) (fun v H2 => v = .non ∧ Q (.ref y) H2) (WX' σ)
end
/-! the language's side -/
def MtT (P : Program) (w : World) (K : Fr) (mg : Str → Option Value) (base : Heap) (Φ : Ph) (k : Nat) (c m f : String) : Prop :=
  ∃ (C a : Addr) (fd : FuncData) (ps : List Str), clsAt K c C ∧ Meth K C (Str.ofString m) a ∧ Binds K fd ps [] ∧ FnOk P w K mg base (L2.CX P w) k a fd ps (spP K mg Φ f)
def MkT (P : Program) (w : World) (K : Fr) (mg : Str → Option Value) (base : Heap) (Φ : Ph) (k : Nat) (c f : String) : Prop :=
  ∃ (C a : Addr) (fd : FuncData) (ps : List Str), clsAt K c C ∧ mg (Str.ofString c) = some (.ref C) ∧ Mk K C a ∧ Binds K fd ps [] ∧ FnOk P w K mg base (L2.CX P w) k a fd ps (spP K mg Φ f)
section
variable {X : Cx} {Φ : Ph} {W : WX} {o e : Expr} {es : List Expr} {eo : E} {l : Es} {pos apos p : Pos} {k : Nat} {c f m : String} {md : Md}
end
end Mi
/-! Mi10d: a, b(, c) = x, y(, z): stored from the right. -/
namespace Mi
open PySem PySem.Spec PyProof.Rows L2
section
variable {X : Cx} {pos : Pos}
def tPar3 (i j k : Nat) (ta : TA) : TS := fun D σ H => ta σ H fun vs H1 => ∃ u v w, vs = [u, v, w] ∧ D.nx (((σ.set i (some u)).set j (some v)).set k (some w)) H1
variable {Φ : Ph} {W : WX}
end
end Mi
/-! Mi10e: comprehensions whose element may raise, in the language. -/
namespace Mi
open PySem PySem.Spec PyProof.Rows L2
section
variable {X : Cx} {Φ : Ph} {W : WX} {pos : Pos}
end
end Mi
/-! Mi11: a def keeps the promise that the language's run of it makes. -/
namespace Mi
open PySem PySem.Spec PyProof.Rows L2

section
variable {K : Fr} {D D2 : Addr → Prop} {H : Hp}
mutual
theorem Den.map (f : Ad → Option Val) (hD : ∀ a, D2 a → D a) (hf : ∀ a w x, f a = some w → Den K D H (.ref a) x → Den K D2 H w x) : ∀ (v : Val) (x : V), Den K D H v x → Den K D2 H (mapRef f v) x
  | .non, x, h => h
  | .bl _, x, h => h
  | .int _, x, h => h
  | .str _, x, h => h
  | .exn _ _, x, h => h
  | .ins c l, x, ⟨a, C, dx, xs, e1, n, r, hc, hl⟩ => ⟨a, C, dx, xs, e1, fun z => n (hD a z), r, hc, DenL.map f hD hf l xs hl⟩
  | .ref a, x, h => by
    simp only [mapRef]
    cases e : f a with
    | none => exact h
    | some w => exact hf a w x e h
  | .tup l, x, ⟨a, xs, e1, ⟨n, r⟩, hl⟩ => ⟨a, xs, e1, ⟨fun z => n (hD a z), r⟩, DenL.map f hD hf l xs hl⟩
  | .dtt l, x, ⟨a, e1, n, r⟩ => ⟨a, e1, fun z => n (hD a z), r⟩
  | .lst l, x, ⟨a, xs, e1, h, hl⟩ => ⟨a, xs, e1, h.imp (fun ⟨n, r⟩ => ⟨fun z => n (hD a z), r⟩) id, DenL.map f hD hf l xs hl⟩
  | .dct l, x, ⟨a, kvs, e1, n, r, hl⟩ => ⟨a, kvs, e1, fun z => n (hD a z), r, DenP.map f hD hf l kvs hl⟩
theorem DenL.map (f : Ad → Option Val) (hD : ∀ a, D2 a → D a) (hf : ∀ a w x, f a = some w → Den K D H (.ref a) x → Den K D2 H w x) : ∀ (l : List Val) (xs : List V), DenL K D H l xs → DenL K D2 H (mapRefL f l) xs
  | [], xs, h => h
  | v :: r, xs, ⟨x, t, e1, h1, h2⟩ => ⟨x, t, e1, Den.map f hD hf v x h1, DenL.map f hD hf r t h2⟩
theorem DenP.map (f : Ad → Option Val) (hD : ∀ a, D2 a → D a) (hf : ∀ a w x, f a = some w → Den K D H (.ref a) x → Den K D2 H w x) : ∀ (l : List Val) (kvs : List (Key × V)), DenP K D H l kvs → DenP K D2 H (mapRefL f l) kvs
  | [], kvs, h => h
  | .tup [kv, v] :: r, kvs, ⟨k, x, t, e1, ek, h1, h2⟩ => by
    have hk : keyOf (mapRef f kv) = some k := by cases kv <;> first | exact ek | cases ek
    exact ⟨k, x, t, e1, hk, Den.map f hD hf v x h1, DenP.map f hD hf r t h2⟩
  | .tup [] :: _, kvs, h => h.elim
  | .tup [_] :: _, kvs, h => h.elim
  | .tup (_ :: _ :: _ :: _) :: _, kvs, h => h.elim
  | .non :: _, kvs, h => h.elim
  | .bl _ :: _, kvs, h => h.elim
  | .int _ :: _, kvs, h => h.elim
  | .str _ :: _, kvs, h => h.elim
  | .lst _ :: _, kvs, h => h.elim
  | .dct _ :: _, kvs, h => h.elim
  | .ref _ :: _, kvs, h => h.elim
  | .exn _ _ :: _, kvs, h => h.elim
  | .ins _ _ :: _, kvs, h => h.elim
  | .dtt _ :: _, kvs, h => h.elim
end
end
section
variable {K : Fr} {Xc : Addr → Prop} {H H' : Hp} {μ μ' : Mu}
theorem resoF_den {D2 : Addr → Prop} {μk : Mu} (m : MRel K Xc μ' H') (hD : ∀ a, D2 a → Dn Xc μ' a) (hk : ∀ a, μk a = none → (μ' a).isSome = true → ¬ D2 a) : ∀ (n : Nat) (a : Ad) (w : Val) (x : V), resoF μk μ' n a = some w → Den K (Dn Xc μ') H' (.ref a) x → Den K D2 H' w x
  | 0, a, w, x, e, d => by cases e
  | n + 1, a, w, y, e, hy => by
    simp only [resoF] at e
    split at e
    · cases e
    · rename_i hk0
      obtain ⟨c, hc, rfl⟩ := Option.map_eq_some_iff.mp e
      have hn : μk a = none := by
        cases q : μk a with
        | none => rfl
        | some z => rw [q] at hk0; exact (hk0 rfl).elim
      obtain ⟨o, ho, r⟩ := m.obj a c hc
      have nd : ¬ D2 a := hk a hn (by rw [hc]; rfl)
      rw [show y = V.ref a from hy]
      have ih := resoF_den m hD hk n
      cases c with
      | lst l =>
        obtain ⟨xs, rfl, hl⟩ := r
        exact ⟨a, xs, rfl, .inl ⟨nd, .inl ho⟩, DenL.map _ hD ih l xs hl⟩
      | dct l =>
        obtain ⟨xs, rfl, hl⟩ := r
        exact ⟨a, xs, rfl, nd, .inl ho, DenP.map _ hD ih l xs hl⟩
      | ins c l =>
        obtain ⟨C, dx, xs, rfl, hc, hl⟩ := r
        exact ⟨a, C, dx, xs, rfl, nd, .inl ho, hc, DenL.map _ hD ih l xs hl⟩
      | dtt l =>
        obtain rfl : o = .dT (ttK l) := r
        exact ⟨a, rfl, nd, .inl ho⟩
      | _ => exact r.elim
theorem reso_den {D2 : Addr → Prop} {μk : Mu} (m : MRel K Xc μ' H') (hD : ∀ a, D2 a → Dn Xc μ' a) (hk : ∀ a, μk a = none → (μ' a).isSome = true → ¬ D2 a) (n : Nat) (v : Val) (x : V) (d : Den K (Dn Xc μ') H' v x) : Den K D2 H' (reso μk μ' n v) x :=
  Den.map _ hD (resoF_den m hD hk n) v x d
theorem CRel.weak {D D2 : Addr → Prop} (hD : ∀ a, D2 a → D a) {c : Val} {o : HO} (h : CRel K D H c o) : CRel K D2 H (mapRef (fun _ => none) c) o := by
  cases c with
  | lst l => obtain ⟨xs, e, hl⟩ := h; exact ⟨xs, e, DenL.map _ hD (fun _ _ _ e => by cases e) l xs hl⟩
  | dct l => obtain ⟨xs, e, hl⟩ := h; exact ⟨xs, e, DenP.map _ hD (fun _ _ _ e => by cases e) l xs hl⟩
  | ins c l => obtain ⟨C, dx, xs, e, hc, hl⟩ := h; exact ⟨C, dx, xs, e, hc, DenL.map _ hD (fun _ _ _ e => by cases e) l xs hl⟩
  | dtt l => exact h
  | _ => exact h.elim
theorem mapRef_none_both : (∀ v : Val, mapRef (fun _ => none) v = v) ∧ ∀ l : List Val, mapRefL (fun _ => none) l = l := by
  refine ⟨fun v => ?_, fun l => ?_⟩
  · exact Val.rec (motive_1 := fun v => mapRef (fun _ => none) v = v) (motive_2 := fun l => mapRefL (fun _ => none) l = l) rfl (fun _ => rfl) (fun _ => rfl) (fun _ => rfl)
      (fun l h => by simp only [mapRef, h]) (fun l h => by simp only [mapRef, h]) (fun l h => by simp only [mapRef, h]) (fun _ => rfl) (fun c l h => by simp only [mapRef, h]) (fun c l h => by simp only [mapRef, h]) (fun _ => rfl) rfl (fun v r h1 h2 => by simp only [mapRefL, h1, h2]) v
  · exact Val.rec_1 (motive_1 := fun v => mapRef (fun _ => none) v = v) (motive_2 := fun l => mapRefL (fun _ => none) l = l) rfl (fun _ => rfl) (fun _ => rfl) (fun _ => rfl)
      (fun l h => by simp only [mapRef, h]) (fun l h => by simp only [mapRef, h]) (fun l h => by simp only [mapRef, h]) (fun _ => rfl) (fun c l h => by simp only [mapRef, h]) (fun c l h => by simp only [mapRef, h]) (fun _ => rfl) rfl (fun v r h1 h2 => by simp only [mapRefL, h1, h2]) l
theorem mapRef_none (v : Val) : mapRef (fun _ => none) v = v := mapRef_none_both.1 v
theorem CRel.weak' {D D2 : Addr → Prop} (hD : ∀ a, D2 a → D a) {c : Val} {o : HO} (h : CRel K D H c o) : CRel K D2 H c o := by
  have := h.weak hD
  rwa [mapRef_none] at this
theorem Den.weak' {D D2 : Addr → Prop} (hD : ∀ a, D2 a → D a) {v : Val} {x : V} (h : Den K D H v x) : Den K D2 H v x := by
  have := Den.map (fun _ => none) hD (fun _ _ _ e => by cases e) v x h
  rwa [mapRef_none] at this
theorem cut_some {a : Addr} {c : Val} (h : (μ'.cut μ) a = some c) : μ' a = some c ∧ (μ a).isSome = true := by
  unfold Mu.cut at h
  split at h
  · exact ⟨h, by assumption⟩
  · cases h
theorem cut_none {a : Addr} (h : μ a = none) : (μ'.cut μ) a = none := by
  unfold Mu.cut
  rw [h] <;> rfl
theorem cut_none' {a : Addr} (h : μ' a = none) : (μ'.cut μ) a = none := by
  unfold Mu.cut
  split
  · exact h
  · rfl
theorem cut_dn {a : Addr} (h : Dn Xc (μ'.cut μ) a) : Dn Xc μ' a := by
  rcases h with h | h
  · cases q : (μ'.cut μ) a with
    | none => rw [q] at h; cases h
    | some c => exact .inl (by rw [(cut_some q).1]; rfl)
  · exact .inr h
theorem MRel.cut (m : MRel K Xc μ' H') : MRel K Xc (μ'.cut μ) H' where
  obj := fun a c h => by
    obtain ⟨o, ho, r⟩ := m.obj a c (cut_some h).1
    exact ⟨o, ho, r.weak' fun _ z => cut_dn z⟩
  xc := fun a h => ⟨(m.xc a h).1, cut_none' (m.xc a h).2⟩
theorem Ext.cut (e : Ext μ H μ' H') : Ext μ H (μ'.cut μ) H' := ⟨e.keepO, fun a _ n => cut_none n, e.there⟩
theorem new_xc (m0 : MRel K Xc μ H) (e : Ext μ H μ' H') {a : Addr} (h : μ a = none) (h' : (μ' a).isSome = true) : ¬ Xc a ∧ H a = none := by
  have hH : H a = none := by
    cases q : H a with
    | none => rfl
    | some o =>
      have := e.nonew a (by rw [q]; intro z; cases z) h
      rw [this] at h'; cases h'
  exact ⟨fun z => m0.xcn z hH, hH⟩
theorem fin_den {m : Md} {v : Val} {x : V} {Q : VK} (m0 : MRel K Xc μ H) (m' : MRel K Xc μ' H') (e : Ext μ H μ' H') (d : Den K (Dn Xc μ') H' v x)
    (f : finM m μ (fun v μ2 => ∀ x H2, MRel K Xc μ2 H2 → Ext μ H μ2 H2 → Den K (Dn Xc μ2) H2 v x → Q x H2) v μ') : Q x H' := by
  cases m with
  | keep => exact f x H' m' e d
  | val =>
    refine f x H' m'.cut e.cut (reso_den m' (fun a h => cut_dn h) (fun a h1 h2 z => ?_) 4 v x d)
    rcases z with z | z
    · rw [cut_none h1] at z; cases z
    · exact (new_xc m0 e h1 h2).1 z
  | obj =>
    simp only [finM] at f
    split at f
    · rename_i p
      obtain ⟨hp, f⟩ := f
      split at f
      · rename_i c hc
        have hx : x = .ref p := d
        subst hx
        obtain ⟨o, ho, r⟩ := m'.obj p c hc
        have hdn : ∀ a, Dn Xc ((μ'.cut μ).set p (reso (μ.set p c) μ' 4 c)) a → Dn Xc μ' a := fun a h => by
          rcases h with h | h
          · by_cases ea : a = p
            · subst ea; exact .inl (by rw [hc]; rfl)
            · rw [Mu.set_ne ea] at h; exact cut_dn (.inl h)
          · exact .inr h
        have hk : ∀ a, (μ.set p c) a = none → (μ' a).isSome = true → ¬ Dn Xc ((μ'.cut μ).set p (reso (μ.set p c) μ' 4 c)) a := fun a h1 h2 z => by
          by_cases ea : a = p
          · subst ea; rw [Mu.set_same] at h1; cases h1
          · rw [Mu.set_ne ea] at h1
            rcases z with z | z
            · rw [Mu.set_ne ea, cut_none h1] at z; cases z
            · exact (new_xc m0 e h1 h2).1 z
        have rc : CRel K (Dn Xc ((μ'.cut μ).set p (reso (μ.set p c) μ' 4 c))) H' (reso (μ.set p c) μ' 4 c) o := by
          have ih := resoF_den (μk := μ.set p c) m' hdn hk 4
          generalize hD2 : Dn Xc ((μ'.cut μ).set p (reso (μ.set p c) μ' 4 c)) = D2 at *
          cases c with
          | lst l => obtain ⟨xs, e, hl⟩ := r; exact ⟨xs, e, DenL.map _ hdn ih l xs hl⟩
          | dct l => obtain ⟨xs, e, hl⟩ := r; exact ⟨xs, e, DenP.map _ hdn ih l xs hl⟩
          | ins c l => obtain ⟨C, dx, xs, e, hc, hl⟩ := r; exact ⟨C, dx, xs, e, hc, DenL.map _ hdn ih l xs hl⟩
          | dtt l => exact r
          | _ => exact r.elim
        refine f (.ref p) H' ⟨fun a c' h => ?_, fun a h => ⟨(m'.xc a h).1, by
          rw [Mu.set_ne (fun z => by have h2 := (m'.xc a h).2; rw [z, hc] at h2; cases h2)]
          exact cut_none' (m'.xc a h).2⟩⟩ ⟨e.keepO, fun a h1 h2 => ?_, e.there⟩ rfl
        · by_cases ea : a = p
          · subst ea
            rw [Mu.set_same] at h
            cases h
            exact ⟨o, ho, rc⟩
          · rw [Mu.set_ne ea] at h
            obtain ⟨u, hu, ru⟩ := m'.obj a c' (cut_some h).1
            exact ⟨u, hu, ru.weak' hdn⟩
        · by_cases ea : a = p
          · subst ea
            exact (h1 (new_xc m0 e hp (by rw [hc]; rfl)).2).elim
          · rw [Mu.set_ne ea]; exact cut_none h2
      · exact f.elim
    · exact f.elim
end
theorem start_slot {K : Fr} {D : Addr → Prop} {H : Hp} {args : List Val} {vs : List V} (d : DenL K D H args vs) (N : List Str) (k : Nat) : ∀ (i : Nat) (v : Val), (args.map some ++ List.replicate k (none : Option Val))[i]? = some (some v) → ∃ x, (start N vs)[i]? = some (some x) ∧ Den K D H v x := fun i v h => by
  have hlen := d.length
  by_cases hi : i < args.length
  · rw [List.getElem?_append_left (by simpa using hi), List.getElem?_map] at h
    obtain ⟨w, hw, e⟩ := Option.map_eq_some_iff.mp h
    cases e
    obtain ⟨x, hx, dx⟩ := d.get hw
    refine ⟨x, ?_, dx⟩
    unfold L2.start
    rw [List.getElem?_append_left (by rw [List.length_map]; omega), List.getElem?_map, hx]
    rfl
  · rw [List.getElem?_append_right (by simpa using hi), List.getElem?_replicate] at h
    split at h <;> cases h
theorem fn_okk {P : Program} {w : World} {K : Fr} {mg : Str → Option Value} {base : Heap} {PR : Prog} {n k : Nat} {f : String} {d : Fn} {x qual : Str} {st : Stmt} {a : Addr} {fd : FuncData} {N ps : List Str} (F : L2.Fun K x qual st a fd) (S : FnScope N ps (defScope st))
    (hd : PR f = some d) (h1 : d.ps = ps.length) (h2 : d.slots = N.length)
    (body : ∀ (cdv : Value) (A : Around) (outer : List PySem.Env) (s : Shared) (H : Hp) (E : XK), Room k (A.deeper (envOfC qual (defScope st) s.heap.objs.size a cdv)) →
      SB (cxOf (L2.CX P w) P w K mg base N qual (defScope st) a cdv A outer s H E) (phi PR n) (fun cls d _ H => E cls d H) (defBody st) d.body) : FnOk P w K mg base (L2.CX P w) (k + 1) a fd ps (spP K mg (phi PR (n + 1)) f) := by
  refine (F.okX S (fun vs H Q E h => ?_) fun cdv A outer s H vs Q E hr h => ⟨_, body cdv A outer s H E hr, ?_⟩)
  · obtain ⟨Xc, μ, m, args, m0, d0, q⟩ := h
    simp only [phi, hd] at q
    rw [← d0.length, q.1, h1]
  · obtain ⟨Xc, μ, m, args, m0, d0, q⟩ := h
    simp only [phi, hd] at q
    obtain ⟨hl, q⟩ := q
    have hNl : ps.length ≤ N.length := by have := congrArg List.length S.pre; rw [List.length_take] at this; omega
    refine ⟨Xc, _, μ, ⟨m0, start_slot d0 N (d.slots - d.ps), ?_⟩, wpS_mono (phi_mono PR n) d.body _ μ _ _ ?_ q⟩
    · unfold L2.start
      have := d0.length
      simp only [List.length_append, List.length_map, List.length_replicate]
      omega
    · refine ⟨fun e μ' z σ' H' S' E' => fin_den m0 S'.m E' (show Den K (Dn Xc μ') H' .non .non from rfl) z, fun v μ' z x H' m' E' dx => fin_den m0 m' E' dx z, fun v e μ' z cls dd σ' H' S' E' r => ?_⟩
      obtain ⟨c, rfl, r1, r2⟩ := r
      cases m with
      | keep => exact z cls dd H' S'.m E' ⟨c, rfl, r1, r2⟩
      | val => exact z cls dd H' S'.m.cut E'.cut ⟨c, rfl, r1, r2⟩
      | obj => exact z cls dd H' S'.m.cut E'.cut ⟨c, rfl, r1, r2⟩
theorem fn_ok {P : Program} {w : World} {K : Fr} {mg : Str → Option Value} {base : Heap} {PR : Prog} {n k : Nat} {f : String} {d : Fn} {x qual : Str} {st : Stmt} {a : Addr} {fd : FuncData} {N ps : List Str} (F : L2.Fun K x qual st a fd) (hm : mg (Str.ofString f) = some (.ref a)) (hb : Binds K fd ps []) (S : FnScope N ps (defScope st))
    (hd : PR f = some d) (h1 : d.ps = ps.length) (h2 : d.slots = N.length)
    (body : ∀ (cdv : Value) (A : Around) (outer : List PySem.Env) (s : Shared) (H : Hp) (E : XK), Room k (A.deeper (envOfC qual (defScope st) s.heap.objs.size a cdv)) →
      SB (cxOf (L2.CX P w) P w K mg base N qual (defScope st) a cdv A outer s H E) (phi PR n) (fun cls d _ H => E cls d H) (defBody st) d.body) : FnT P w K mg base (phi PR (n + 1)) (k + 1) f :=
  ⟨a, fd, ps, hm, F.kp, hb, fn_okk F S hd h1 h2 body⟩
theorem fn_zero {P : Program} {w : World} {K : Fr} {mg : Str → Option Value} {base : Heap} {PR : Prog} {k : Nat} {f : String} {a : Addr} {fd : FuncData} {ps : List Str} (kp : PySem.W.keepIn K (.ref a) = true) (hm : mg (Str.ofString f) = some (.ref a)) (hb : Binds K fd ps []) : FnT P w K mg base (phi PR 0) k f :=
  ⟨a, fd, ps, hm, kp, hb, ⟨fun vs H Q E h => by
    obtain ⟨_, _, _, _, _, _, q⟩ := h
    exact q.elim, fun A outer s H args us vs Q E hr he hb hv h => by
    obtain ⟨_, _, _, _, _, _, q⟩ := h
    exact q.elim⟩⟩
/-! methods -/
section
variable {P : Program} {w : World} {K : Fr} {mg : Str → Option Value} {base : Heap} {PR : Prog} {n k : Nat} {c m f : String} {d : Fn} {x qual : Str} {st : Stmt} {a C : Addr} {fd : FuncData} {N ps : List Str}
end
end Mi
/-! Mi12: short words for the printed derivations. -/
namespace Mi
open PySem PySem.Spec PyProof.Rows L2
section
variable {X : Cx} {Φ : Ph} {W : WX} {pos : Pos}
theorem se_vB {x : Str} (i : Nat) (hN : X.N[i]? = some x) (hv : Vis X.env.scope x) (hd : (x == ("__debug__" : Str)) = false) (hcd : (x == ("__classdict__" : Str)) = false) : SE X Φ W (.Name x pos) (.v i) := se_v (pe_var hN hv hd hcd)
end
def ExcAt (K : Fr) (mg : Str → Option Value) (c : String) : Prop := ∃ C : Addr, PySem.W.excIn K C [.type "ValueError", .type "Exception", .type "BaseException", .type "object"] "ValueError.__new__" = true ∧ mg (Str.ofString c) = some (.ref C) ∧ PySem.W.keepIn K (.ref C) = true ∧
  PySem.W.subIn K (.ref C) (.type "BaseException") = some true ∧ PySem.W.typeIn K (.ref C) = some (.type "type")
end Mi
/-! Mi12b: dict displays. -/
namespace Mi
open PySem PySem.Spec PyProof.Rows L2
def dispE : List (Str × E) → Es
  | [] => .nil
  | (k, e) :: r => .cons (.tup (.cons (.c (.str k)) (.cons e .nil))) (dispE r)
section
variable {X : Cx} {Φ : Ph} {W : WX} {pos : Pos}
theorem disp_read (hΦ : MonoP Φ) {K : Fr} {mg : Str → Option Value} {Xc : Addr → Prop} {σ : List (Option V)} {env : Env} {μ0 : Mu} {H0 : Hp} : ∀ (ps : List (Str × E)) (H : Hp) (μ : Mu) (F : List (V × V) → Hp → Prop) (G : List Val → Mu → Prop),
    (∀ p ∈ ps, PyData.strOk p.1 = true) → SRel K Xc σ H env μ → Ext μ0 H0 μ H → wpEs Φ (dispE ps) env μ G (XPost K mg W Xc σ H0 env μ0) →
    (∀ vs μ1 kvs H1, SRel K Xc σ H1 env μ1 → Ext μ H μ1 H1 → Ext μ0 H0 μ1 H1 → DenP K (Dn Xc μ1) H1 vs kvs → kvs.map (·.1) = ps.map (fun p => Sum.inr p.1) → G vs μ1 → F (kvs.map fun kv => (kV kv.1, kv.2)) H1) →
    tPairs (ps.map fun p => (rdE K mg Φ W (.c (.str p.1)), rdE K mg Φ W p.2)) σ H F
  | [], H, μ, F, G, _, S, E, q, k => k [] μ [] H S Ext.refl E rfl rfl q
  | (s, e) :: r, H, μ, F, G, hs, S, E, q, k => by
    have q' : wpE Φ e env μ (fun v μ1 => wpEs Φ (dispE r) env μ1 (fun vs μ2 => G (.tup [.str s, v] :: vs) μ2) (XPost K mg W Xc σ H0 env μ0)) (XPost K mg W Xc σ H0 env μ0) := q
    refine ⟨Xc, env, μ, S, ?_⟩
    intro x H1 S1 E1 d1
    obtain ⟨rfl, _⟩ := d1
    refine use hΦ S1 (E.trans E1) q' fun v μ2 y H2 S2 E2 E2' d2 q2 => ?_
    refine disp_read hΦ r H2 μ2 _ _ (fun p hp => hs p (List.mem_cons_of_mem _ hp)) S2 E2' q2 fun vs μ3 kvs H3 S3 E3 E3' d3 hk g => ?_
    have := k (.tup [.str s, v] :: vs) μ3 ((Sum.inr s, y) :: kvs) H3 S3 ((E1.trans E2).trans E3) E3' ⟨Sum.inr s, y, kvs, rfl, rfl, d2.ext E3, d3⟩ (by simp [hk]) g
    exact this
theorem putK_new {kvs : List (Key × V)} {k : Key} {v : V} (h : k ∉ kvs.map (·.1)) : putK kvs k v = kvs ++ [(k, v)] := by
  unfold putK
  rw [if_neg]
  intro z
  obtain ⟨p, hp, e⟩ := List.any_eq_true.mp z
  exact h (List.mem_map.mpr ⟨p, hp, by simpa using e⟩)
theorem mergeK_new : ∀ (more kvs : List (Key × V)), ((kvs ++ more).map (·.1)).Nodup → mergeK kvs more = kvs ++ more
  | [], kvs, _ => by rw [List.append_nil]; rfl
  | (k, v) :: r, kvs, h => by
    have hk : k ∉ kvs.map (·.1) := by
      rw [List.map_append, List.nodup_append] at h
      intro z
      exact h.2.2 k z k (by simp) rfl
    show mergeK (putK kvs k v) r = _
    rw [putK_new hk, mergeK_new r (kvs ++ [(k, v)]) (by simpa using h)]
    simp
theorem sf_disp (ps : List (Str × E)) (hΦ : MonoP Φ) {keys : List (Option Expr)} {values : List Expr} {trs : List (TE × TE)} (h : PPs X pos keys values trs) (ht : trs = ps.map fun p => (rdE X.K X.mg Φ W (.c (.str p.1)), rdE X.K X.mg Φ W p.2))
    (hs : ps.all (fun p => PyData.strOk p.1) = true) (hn : (ps.map (·.1)).Nodup) (hall : keys.all (·.isSome) = true) (hl : keys.length = values.length) (h0 : keys ≠ []) (h15 : keys.length ≤ 15) (hp15 : ps.length ≤ 15) : SF X Φ W (.Dict keys values pos) (.dct (dispE ps)) :=
  PE.imp (pe_disp h hall hl h0 h15) fun σ H Q ⟨Xc, env, μ, S, q⟩ => by
    subst ht
    intro p hp
    have hμ : μ p = none := dn_none (S.m.fresh hp)
    have hX : ¬ Xc p := fun z => S.m.xcn z hp
    have S' : SRel X.K (plusX Xc p) σ (upd H p (.dK [])) env μ := ⟨S.m.plus hp, fun j w hw => by
      obtain ⟨z, h1, h2⟩ := S.slot j w hw
      exact ⟨z, h1, Den.plus hp w z h2⟩, S.len⟩
    refine disp_read (Xc := plusX Xc p) hΦ ps _ μ _ _ (fun p hp => List.all_eq_true.mp hs p hp) S' Ext.refl (wpEs_mono hΦ _ env μ _ _ _ _ (fun _ _ z => z) (fun e μ' z => ?_) q) fun vs μ1 kvs H1 S1 E1 _ d1 hk g => ?_
    · intro cls d H' S2 E2 r
      have hD : ∀ a, Dn Xc μ' a → Dn (plusX Xc p) μ' a := fun a z => z.imp id .inl
      exact z cls d H' ⟨⟨fun a c h => by
        obtain ⟨o, ho, rr⟩ := S2.m.obj a c h
        exact ⟨o, ho, rr.weak' hD⟩, fun a h => S2.m.xc a (.inl h)⟩, fun j w hw => by
        obtain ⟨y, h1, h2⟩ := S2.slot j w hw
        exact ⟨y, h1, Den.weak' hD h2⟩, S2.len⟩ ((Ext.laid hp).trans E2) r
    · have hk1 : H1 p = some (.dK []) := by
        rcases E1.keepO p _ upd_same hμ with z | ⟨ob, _, _, z⟩
        · exact z
        · obtain ⟨⟨o, e1, n⟩, _⟩ := S1.m.xc p (.inr rfl)
          rw [z] at e1
          cases e1
          exact (n _ _ rfl).elim
      refine ⟨hk1, kvs, rfl, ?_, ?_⟩
      · have := congrArg List.length hk
        simp at this
        omega
      · have hnd : (kvs.map (·.1)).Nodup := by
          rw [hk]
          have : ps.map (fun p => (Sum.inr p.1 : Key)) = (ps.map (·.1)).map Sum.inr := by simp
          rw [this]
          exact List.pairwise_map.mpr (hn.imp fun h e => h (by injection e))
        rw [mergeK_new kvs [] hnd, List.nil_append]
        have hμ1 : μ1 p = none := E1.nonew p (by rw [upd_same]; intro z; cases z) hμ
        have Sm : SRel X.K Xc σ (del H1 p) env μ1 := ⟨S1.m.minus hμ1 hX, fun j w hw => by
          obtain ⟨z, h1, h2⟩ := S1.slot j w hw
          exact ⟨z, h1, Den.minus w z h2⟩, S1.len⟩
        have := g p (.dK kvs) (del H1 p) Sm (E1.minus hp) del_self ⟨kvs, rfl, DenP.minus vs kvs d1⟩
        rw [upd_del] at this
        exact this
end
end Mi
/-! Mi12c: isinstance of the exception that is held. -/
namespace Mi
open PySem PySem.Spec PyProof.Rows L2
section
variable {X : Cx} {a1 : Addr} {oe1 : Obj} {cls1 : Value} {d1 : Option Addr} {pn1 : List (Addr × Obj)} {cn : String} {Φ : Ph} {W : WX} {a : Expr} {x y : Str} {p p2 pos : Pos} {e : E}
end
end Mi
/-! Mi13: the law's own promise, the classes of refusals. -/
namespace Mi
open PySem PySem.Spec PyProof.Rows L2
def ExAt (K : Fr) (mg : Str → Option Value) (c : String) (C : Addr) (h : String) : Prop := ∀ c', mg (Str.ofString h) = some c' → PySem.W.exmOne K (.ref C) c' = some (isSub c h)
def KiAt (K : Fr) (mg : Str → Option Value) (c : String) (C : Addr) (h : String) : Prop := ∀ c', mg (Str.ofString h) = some c' → (∃ S, c' = .ref S) ∧ PySem.W.kitOne K (.ref C) c' = some (isSub c h)
def spLaw (K : Fr) : Sp := fun vs H Q _ => ∃ (a : Addr) (ns : List Int), vs = [.ref a] ∧ ns.length ≤ 63 ∧ SqL K H a (ns.map V.int) ∧ ∀ H', Q (.bl true) H'
theorem ints_den {K : Fr} {D : Addr → Prop} {H : Hp} : ∀ ns : List Int, DenL K D H (ns.map Val.int) (ns.map V.int)
  | [] => rfl
  | i :: r => ⟨.int i, r.map V.int, rfl, rfl, ints_den r⟩
theorem law_sp {K : Fr} {mg : Str → Option Value} {Φ : Ph} (hΦ : MonoP Φ) {f : String} (h : ∀ ns : List Int, ns.length ≤ 63 → Φ f .val [.lst (ns.map Val.int)] (fun _ => none) (fun v _ => v = .bl true) (fun _ _ => False)) (vs : List V) (H : Hp) (Q : VK) (E : XK) (q : spLaw K vs H Q E) : spP K mg Φ f vs H Q E := by
  obtain ⟨a, ns, rfl, hl, hS, hQ⟩ := q
  refine ⟨fun _ => False, fun _ => none, .val, [.lst (ns.map Val.int)], ⟨fun _ _ z => (by cases z), fun _ z => False.elim z⟩, ⟨.ref a, [], rfl, ⟨a, ns.map V.int, rfl, ?_, ints_den ns⟩, rfl⟩, hΦ _ _ _ _ _ _ _ _ (fun v μ' e x H' _ _ d => ?_) (fun _ _ z => False.elim z) (h ns hl)⟩
  · rcases hS with z | z
    · exact .inl ⟨fun y => (by rcases y with y | y; (cases y); (exact y)), z⟩
    · exact .inr z
  · subst e
    rw [show x = .bl true from d]
    exact hQ H'
theorem cx_no {P : Program} {w : World} {H : Hp} {s : Shared} {e : Value} {s' : Shared} (h : L2.CX P w [] H s (fun _ _ _ => False) e s') : False := by
  obtain ⟨_, _, _, _, _, _, _, _, _, _, _, _, z⟩ := h
  exact z
theorem law_walk {l : PySem.W.OpenLaw} {k : Nat} {q : Program} {loose : List Str} {XP : (Str → Option Value) → Heap → Prop} {YP : World → Heap → Prop} {d : DefRec} {K : Params → PySem.W.Frag} (hn : l.most = some 63) (hdf : d.params.defaults = []) (hr : Room k callerA)
    (hY : ∀ (w : World) (h : Heap), YP w h → (K w.params).In h)
    (F : ∀ (w : World) (mg : Str → Option Value) (fa : Addr) (h : Heap), (K w.params).In h → h.Ns mainGlobals mg → mg d.name = some (.ref fa) →
      ∃ fd : FuncData, (∀ (s : Shared) (u : Value), BindsTo s fd ⟨[u], []⟩ [("script", u)]) ∧ ∀ base : Heap, (K w.params).In base → base.Ns mainGlobals mg → FnOk l.prog w (K w.params) mg base (L2.CX l.prog w) k fa fd ["script"] (spLaw (K w.params))) :
    PySem.W.WalkO q loose XP YP l.row.toRowW d [] (fun f vs => PySem.call f vs) :=
  L2.walk_of (n := 63) (k := k) (x := "script") (CX := fun w => L2.CX l.prog w) (sp := fun w => spLaw (K w.params)) hn (by decide) hdf hr hY F (fun _ _ a ns hl _ hS => ⟨a, ns, rfl, hl, hS, fun _ => rfl⟩) fun _ _ _ _ _ z => cx_no z
end Mi
/-! Mi17: the place of an equal one in a list. -/
namespace Mi
open PySem PySem.Spec PyProof.Rows L2

def rIndexW (K : PySem.W.Frag) : V → List V → Hp → VK → Prop := fun x xs H Q => ∃ (a : Addr) (y : V) (d : PyData) (ds : List PyData) (j : Nat) (z : PyData), x = V.ref a ∧ xs = [y] ∧ Dp K H (V.ref a) (.list ds) ∧ Dp K H y d ∧
  PyData.canLayAll0 ds = true ∧ d.canLay0 = true ∧ min (PyData.depthAll ds) d.depth ≤ 100 ∧ ds[j]? = some z ∧ PyData.eqv z d = true ∧ (∀ (m : Nat) (z' : PyData), m < j → ds[m]? = some z' → PyData.eqv z' d = false) ∧ Q (.int (j : Nat)) H
section
variable {X : Cx}
theorem mt_indexW {k : Nat} (hr : RoomH k X.A) : MtR X "list.index" (rIndexW X.K) := by
  intro pins s σ H x xs v us Q I rx rxs h
  obtain ⟨a, y, d, ds, j, z, rfl, rfl, hl, hy, hxs, hds, hdm, hz, hzj, hno, q⟩ := h
  have hu := hr.un
  cases rx
  cases rxs with
  | cons ry rt =>
    rename_i uy ut
    cases rt
    obtain ⟨bs, r1⟩ := Dp.reads I d y uy hy ry
    have hroom : X.A.units + 1 + min (PyData.depthAll ds) d.depth < cLine := by omega
    cases hl with
    | lst hs ha =>
      obtain ⟨its, rv, ⟨⟨cls, dd, data, sls⟩, n, ho, hc, hdn, hdt⟩, hlen⟩ := I.list hs
      simp only at hc hdt
      subst hc hdt
      obtain ⟨as, h4⟩ := Dp.readsAll I ds _ its ha rv
      have hn : its.length = ds.length := SeqAt.ReadsAll.length ds its as h4
      have hmap : its.map (SeqAt.readOf s.heap) = ds := SeqAt.readsAll_map ds its as hxs h4
      have hvl := rv.length
      have hsl := sizeLine_eq
      obtain ⟨hjd, _⟩ := List.getElem?_eq_some_iff.mp hz
      have hjl : j < its.length := by omega
      have hj : j < its.toArray.size := by simpa using hjl
      have at_ : ∀ (m : Nat) (hm : m < its.toArray.size) (z' : PyData), ds[m]? = some z' → SeqAt.readOf s.heap its.toArray[m] = z' := by
        intro m hm z' hz'
        have hml : m < its.length := by simpa using hm
        rw [← hmap, List.getElem?_map, List.getElem?_eq_getElem hml] at hz'
        have e1 : SeqAt.readOf s.heap its[m] = z' := Option.some.inj (show some (SeqAt.readOf s.heap its[m]) = some z' from hz')
        simpa using e1
      refine call_meets PySem.F.slot_list_index ⟨_, ho, rfl⟩ PySem.F.entry_list_index (PySem.F.args_list_index_2 _ _)
        (SeqAt.list_indexAt a its.toArray n dd sls uy (fun u => PyData.eqv (SeqAt.readOf s.heap u) d) j hj (by omega) ?_ ?_) ⟨ho, SeqAt.items_eqAt (vs := its.toArray) (show ReadsAll s.heap its.toArray.toList ds as from h4) r1 hxs hds hroom, ?_⟩
      · show PyData.eqv (SeqAt.readOf s.heap its.toArray[j]) d = true
        rw [at_ j hj z hz]
        exact hzj
      · intro m hm hmj
        have hmd : m < ds.length := by omega
        have hz' : ds[m]? = some ds[m] := List.getElem?_eq_getElem hmd
        show PyData.eqv (SeqAt.readOf s.heap its.toArray[m]) d = false
        rw [at_ m hm _ hz']
        exact hno m _ hmj hz'
      · exact ⟨.int (j : Nat), H, I.tok _, ⟨_, rfl⟩, q⟩
theorem toPyL_map : ∀ l : List Val, toPyL l = l.map toPy
  | [] => rfl
  | v :: r => by rw [toPyL, toPyL_map r, List.map_cons]
theorem plainL_mem : ∀ {l : List Val} {v : Val}, plainL l = true → v ∈ l → plain v = true
  | w :: r, v, h, hm => by
    have h1 := Bool.and_eq_true_iff.mp h
    rcases List.mem_cons.mp hm with rfl | z
    · exact h1.1
    · exact plainL_mem h1.2 z
theorem mt_indexV' {k : Nat} (hr : RoomH k X.A) : MtR X "list.index" (rMe X.K .indexV) := by
  intro pins s σ H x xs v us Q I rx rv h
  obtain ⟨Xc, μ, v', vs, r, μ', m, d, ds, e, q⟩ := h
  simp only [meV, indexVF] at e
  split at e
  · rename_i w
    obtain ⟨l, hl, e⟩ := Option.bind_eq_some_iff.mp e
    split at e
    · rename_i hc
      obtain ⟨c1, c2, c3, c4⟩ := hc
      cases e
      obtain ⟨y, rfl, dy⟩ := ds.one
      obtain ⟨p1, cl1⟩ := dp_of w y c1 dy
      obtain ⟨p2, cl2⟩ := m.dp d (lstOf_eq hl) c2
      obtain ⟨a, ys, rfl, _, _⟩ := m.lst d (lstOf_eq hl)
      have cl2' : PyData.canLayAll0 (toPyL l) = true := by simpa [toPy, PyData.canLay0] using cl2
      have hlt : (l.findIdx fun y => eqb y w) < l.length := List.findIdx_lt_length_of_exists (by rw [List.any_eq_true] at c4; exact c4)
      have heq : ∀ u ∈ l, PyData.eqv (toPy u) (toPy w) = eqb u w := fun u hu => eqb_py u w (plainL_mem c2 hu) c1
      refine mt_indexW hr pins s σ H _ _ v us Q I rx rv ⟨a, y, toPy w, toPyL l, l.findIdx fun y => eqb y w, toPy l[l.findIdx fun y => eqb y w], rfl, rfl, p2, p1, cl2', cl1, by rw [depL_py, dep_py]; omega, ?_, ?_, fun j z hj hz => ?_, q _ _ m Ext.refl rfl⟩
      · rw [toPyL_map, List.getElem?_map, List.getElem?_eq_getElem hlt]; rfl
      · rw [heq _ (List.getElem_mem hlt)]
        exact List.findIdx_getElem (p := fun y => eqb y w)
      · rw [toPyL_map, List.getElem?_map] at hz
        have hjl : j < l.length := by omega
        rw [List.getElem?_eq_getElem hjl] at hz
        cases hz
        rw [heq _ (List.getElem_mem hjl)]
        have := List.not_of_lt_findIdx (p := fun y => eqb y w) hj
        simpa using this
    · cases e
  · cases e
end
section
variable {X : Cx} {Φ : Ph} {W : WX}
theorem se_indexV {k : Nat} (hΦ : MonoP Φ) (hr : RoomH k X.A) {o e : Expr} {apos cpos : Pos} {eo ea : E} (ho : SE X Φ W o eo) (ha : SE X Φ W e ea)
    (hbase : attributeBase o "index" X.env (eval o X.env) = eval o X.env := by rfl)
    (hfew : ((backTo cpos (starEach (e :: []) X.env)).all (fun x => !x.1) && (backToKw cpos (keywordEach [] X.env)).all (fun x => x.1.isSome)
      && decide ((e :: []).length + ([] : List Keyword).length + (if ([] : List Keyword).isEmpty then 0 else 1) < 30)) = true := by rfl)
    (hline : (apos.endLine == cpos.line) = true := by rfl) (hs : starEach (e :: []) X.env = (false, eval e X.env) :: starEach [] X.env := by rfl) (hplain : (backTo cpos (starEach [] X.env)).any (·.1) = false := by rfl) :
    SE X Φ W (.Call (.Attribute o "index" apos) [e] [] cpos) (.me .indexV eo (.cons ea .nil)) :=
  se_meG (id := "list.index") hΦ (pe_bm' PySem.F.plainAttrs_list PySem.F.slot_list_index PySem.F.type_list_index (mt_indexV' hr) ho (sa_cons hΦ ha sa_nil hs) hbase hfew hline hs hplain) fun {Xc μ H v x} m d ok => by
    replace ok : isLst μ v = true := ok
    unfold isLst at ok
    split at ok
    · rename_i hc; exact ty_lst m d hc
    · cases ok
/-! ### insert -/
end
end Mi
/-! Mi25: texts put together. -/
namespace Mi
open PySem PySem.Spec PyProof.Rows L2
theorem strOk_join {a : Str} (ha : PyData.strOk a = true) : ∀ {l : List Str}, (∀ s ∈ l, PyData.strOk s = true) → PyData.strOk (Str.join a l) = true
  | [], _ => by simp [Str.join, PyData.strOk, Str.empty]
  | [x], h => h x List.mem_cons_self
  | x :: y :: r, h => strOk_append (strOk_append (h x List.mem_cons_self) ha) (strOk_join ha fun s hs => h s (List.mem_cons_of_mem _ hs))
section
variable {X : Cx} {Φ : Ph} {W : WX} {pos : Pos}
theorem se_join (hΦ : MonoP Φ) {e : Expr} {ee : E} {sep : Str} {apos cp : Pos} {j} (hsep : PyData.strOk sep = true) (he : SE X Φ W e ee)
    (hs : starEach [e] X.env = [(false, eval e X.env)] := by rfl) (hbase : attributeBase (.Constant (.str sep) j cp : Expr) "join" X.env (eval (.Constant (.str sep) j cp : Expr) X.env) = eval (.Constant (.str sep) j cp : Expr) X.env := by rfl) (hline : (apos.endLine == pos.line) = true := by rfl) :
    SE X Φ W (.Call (.Attribute (.Constant (.str sep) j cp) "join" apos) [e] [] pos) (.bi .join (.cons (.c (.str sep)) (.cons ee .nil))) :=
  PE.imp (pe_join (pe_str (X := X) (x := sep)) he hs hbase hline) fun σ H Q ⟨Xc, env, μ, S, q⟩ => by
    simp only [wpE, wpEs] at q
    refine ⟨⟨sep, rfl⟩, ?_⟩
    refine use hΦ S Ext.refl q fun v μ1 x H1 S1 E1 E1' d q1 => ?_
    split at q1
    · rename_i r hr
      obtain ⟨l, hl, h2⟩ := Option.bind_eq_some_iff.mp (show (lstOf μ1 v).bind _ = some r from hr)
      obtain ⟨ys, hy, h3⟩ := Option.bind_eq_some_iff.mp h2
      split at h3
      · rename_i hz
        cases h3
        obtain ⟨a, xs, rfl, q2, l1⟩ := S1.m.lst d (lstOf_eq hl)
        obtain ⟨e1, hok⟩ := den_strs' hy l1
        rw [e1] at q2
        have f := q1.fin S1 E1'
        refine ⟨sep, a, ys, rfl, rfl, .inl q2, ?_, ?_⟩
        · exact Nat.le_trans hz (by unfold big; decide)
        · rw [TL.join_eq]
          exact f.now _ ⟨rfl, strOk_join hsep hok⟩
      · cases h3
    · exact q1.elim
end
end Mi
/-! Mi26: a dict of texts that the module holds. -/
namespace Mi
open PySem PySem.Spec PyProof.Rows L2
def kvsT (T : List (Str × Str)) : List (Key × V) := T.map fun p => (.inr p.1, .str p.2)
def nsT (T : List (Str × Str)) : List Val := T.map fun p => .tup [.str p.1, .str p.2]
theorem dLook_nsT (s : Str) : ∀ T : List (Str × Str), dLook (.str s) (nsT T) = (T.lookup s).map Val.str
  | [] => rfl
  | (a, b) :: t => by
    show (if keyEq (.str s) (.str a) = true then some (Val.str b) else dLook (.str s) (nsT t)) = _
    rw [List.lookup_cons, dLook_nsT s t]
    show (if (s == a) = true then _ else _) = _
    cases s == a <;> rfl
theorem dLook_noT {v : Val} (h : ∀ s, keyEq v (.str s) = false) : ∀ T : List (Str × Str), dLook v (nsT T) = none
  | [] => rfl
  | (a, b) :: r => by
    show (if keyEq v (.str a) = true then some (.str b) else dLook v (nsT r)) = none
    rw [if_neg (by rw [h a]; simp), dLook_noT h r]
theorem valV_kvsT (s : Str) : ∀ T : List (Str × Str), valV (kvsT T) (.inr s) = (T.lookup s).map V.str
  | [] => rfl
  | (a, b) :: r => by
    rw [List.lookup_cons]
    have ih := valV_kvsT s r
    unfold valV at *
    show (((Sum.inr a, V.str b) :: kvsT r).find? _).map _ = _
    rw [List.find?_cons]
    by_cases h : s = a
    · subst h
      simp
    · have h1 : (s == a) = false := by simpa using h
      have h2 : decide ((Sum.inr a : Key) = .inr s) = false := by simpa using fun e : a = s => h e.symm
      rw [h1]
      simp only [h2]
      exact ih
theorem look_in {s t : Str} : ∀ {T : List (Str × Str)}, T.lookup s = some t → (s, t) ∈ T
  | [], h => by cases h
  | (u, w) :: r, ht => by
    rw [List.lookup_cons] at ht
    by_cases e : s = u
    · subst e
      simp at ht
      subst ht
      exact List.mem_cons_self
    · have h1 : (s == u) = false := by simpa using e
      rw [h1] at ht
      exact List.mem_cons_of_mem _ (look_in ht)
def GDict (P : Program) (w : World) (K : Fr) (mg : Str → Option Value) (x : String) (T : List (Str × Str)) : Prop := ∃ a, mg (Str.ofString x) = some (.ref a) ∧ ∀ h, K.In h → ∃ vs, KV (kvsT T) vs ∧ h.DictOf (mixKind P w) a vs
theorem gdict_pairs {P : Program} {w : World} : ∀ (T : List (Str × Str)) (toks : List (Tok × Tok)) (es : List DictEntry), toks.length = T.length → es = (T.zip toks).map (fun p => (⟨hashStr w p.1.1, .str p.1.1 p.2.1, .str p.1.2 p.2.2⟩ : DictEntry)) → ∃ vs : List (Key × Value), KV (kvsT T) vs ∧ Pairs (mixKind P w) es vs ∧ vs.map (·.1) = T.map (fun p => (Sum.inr p.1 : Key)) ∧ ∀ e ∈ es, ∃ k, (mixKind P w).is k e.key = true ∧ e.hash = (mixKind P w).hash k
  | [], _, es, _, he => by
    simp at he
    subst he
    exact ⟨[], .nil, .nil, rfl, fun e h => by cases h⟩
  | (s, t) :: r, [], es, hl, _ => by simp at hl
  | (s, t) :: r, (a, b) :: q, es, hl, he => by
    obtain ⟨vs, h1, h2, h3, h4⟩ := gdict_pairs (P := P) (w := w) r q _ (by simpa using hl) rfl
    have he' : es = ⟨hashStr w s, .str s a, .str t b⟩ :: (r.zip q).map (fun p => (⟨hashStr w p.1.1, .str p.1.1 p.2.1, .str p.1.2 p.2.2⟩ : DictEntry)) := he
    subst he'
    refine ⟨(.inr s, .str t b) :: vs, .cons ⟨rfl, b, rfl⟩ h1, .cons (keyIs_str s a) rfl h2, by rw [List.map_cons, h3]; rfl, fun e h => ?_⟩
    rcases List.mem_cons.mp h with rfl | h
    · exact ⟨.inr s, keyIs_str s a, rfl⟩
    · exact h4 e h
theorem gdict_of {P : Program} {w : World} {K : Fr} {mg : Str → Option Value} {x : String} {T : List (Str × Str)} {a : Addr} {es : Array DictEntry} {ep : Nat} (hm : mg (Str.ofString x) = some (.ref a)) (hl : K.lookup a = some { cls := .type "dict", data := .dict es ep }) (toks : List (Tok × Tok)) (hnd : (T.map (·.1)).Nodup)
    (he : es.toList = (T.zip toks).map (fun p => (⟨hashStr w p.1.1, .str p.1.1 p.2.1, .str p.1.2 p.2.2⟩ : DictEntry))) (hlen : toks.length = T.length) : GDict P w K mg x T := by
  refine ⟨a, hm, fun h hK => ?_⟩
  obtain ⟨vs, h1, h2, h3, h4⟩ := gdict_pairs (P := P) T toks es.toList hlen he
  refine ⟨vs, h1, _, es, ep, hK a _ hl, ⟨rfl, rfl, rfl⟩, rfl, fun e h => h4 e (Array.mem_toList_iff.mpr h), h2, ?_⟩
  rw [h3]
  have : T.map (fun p => (Sum.inr p.1 : Key)) = (T.map (·.1)).map Sum.inr := by rw [List.map_map]; rfl
  rw [this]
  exact List.Pairwise.map Sum.inr (fun a b hab e => hab (Sum.inr.inj e)) hnd
section
variable {X : Cx} {Φ : Ph} {W : WX} {pos : Pos}
theorem pe_gdict {x : Str} {i : Expr} {ty : TE} {p pos : Pos} {a : Addr} {kvs : List (Key × V)} (hg : Gl X x) (hm : X.mg x = some (.ref a)) (hb : ∀ h, X.K.In h → ∃ vs, KV kvs vs ∧ h.DictOf (mixKind X.prog X.w) a vs) (hd : (x == ("__debug__" : Str)) = false) (hi : PE X i ty) (hs : NoSl i) : PE X (.Subscript (.Name x p) i pos) (fun σ H Q => ty σ H fun y H1 => ∃ k v, y = kV k ∧ valV kvs k = some v ∧ Q v H1) := by
  refine ⟨fun pins s σ H Q I h => ?_⟩
  refine subD_of PySem.F.slot_dict_getitem.lookup hs (ld_glob I hg hm (thn (hi.run pins s σ H _ I h) fun iv s2 ⟨y, H2, I2, ry, k, v, ey, l, q2⟩ => ?_) hd)
  subst ey
  obtain ⟨vs, rel, dd⟩ := hb s2.heap I2.kIn
  refine ⟨dd.typeIs, ?_⟩
  obtain ⟨w', hw, rw'⟩ := RelO.some_of (v := v) (o := valueAt vs k) (by rw [← l]; exact rel.val k)
  exact wpAny_getItem_of (kV_is ry) dd.mapOf hw ⟨v, H2, I2.tok _, rw', q2⟩
theorem se_gix (hΦ : MonoP Φ) {x : String} {i : Expr} {ei : E} {p pos : Pos} {T : List (Str × Str)} (hG : GDict X.prog X.w X.K X.mg x T) (hT : (T.all fun p => PyData.strOk p.2) = true) (hg : Gl X (Str.ofString x)) (hd : (Str.ofString x == ("__debug__" : Str)) = false) (hi : SE X Φ W i ei) (hs : NoSl i := by exact fun _ _ => rfl) :
    SE X Φ W (.Subscript (.Name (Str.ofString x) p) i pos) (.ix (.c (.dct (nsT T))) ei) := by
  obtain ⟨a, hm, hb⟩ := hG
  refine PE.imp (pe_gdict (kvs := kvsT T) hg hm hb hd hi hs) fun σ H Q ⟨Xc, env, μ, S, q⟩ => ?_
  simp only [wpE] at q
  refine use hΦ S Ext.refl q fun v μ1 y H1 S1 E1 E1' d q1 => ?_
  split at q1
  · rename_i r hr
    have hr2 : ixV μ1 (.dct (nsT T)) v = some r := hr
    cases v with
    | str s =>
      have h2 : ixV μ1 (.dct (nsT T)) (.str s) = if isKey (.str s) = true then dLook (.str s) (nsT T) else none := rfl
      rw [h2, if_pos (show isKey (.str s) = true from rfl), dLook_nsT] at hr2
      obtain ⟨t, ht, rfl⟩ := Option.map_eq_some_iff.mp hr2
      have hmem : (s, t) ∈ T := look_in ht
      have hok : PyData.strOk t = true := (List.all_eq_true.mp hT) _ hmem
      refine ⟨.inr s, .str t, d.1, by rw [valV_kvsT, ht]; rfl, ?_⟩
      have f := q1.fin S1 E1'
      exact f.now _ ⟨rfl, hok⟩
    | int j =>
      exfalso
      revert hr2
      show (if isKey (.int j) = true then dLook (.int j) (nsT T) else none) = some r → False
      rw [dLook_noT fun s => rfl]
      split <;> (intro z; cases z)
    | _ => cases hr2
  · exact q1.elim
end
end Mi
/-! Ml: how runs of the language are gone through. -/
namespace Mi
open PySem (Str)
theorem toNat_inj {a b : Char} (h : a.toNat = b.toNat) : a = b := Char.ext (UInt32.toNat_inj.mp h)
theorem map_toNat_inj : ∀ {l r : List Char}, l.map Char.toNat = r.map Char.toNat → l = r
  | [], [], _ => rfl
  | [], _ :: _, h => by cases h
  | _ :: _, [], h => by cases h
  | a :: l, b :: r, h => by
    rw [List.map_cons, List.map_cons] at h
    injection h with h1 h2
    rw [toNat_inj h1, map_toNat_inj h2]
@[simp] theorem os_inj {a b : String} : Str.ofString a = Str.ofString b ↔ a = b := by
  refine ⟨fun h => ?_, fun h => by rw [h]⟩
  rw [PySem.Str.ofString_eq_toList, PySem.Str.ofString_eq_toList] at h
  injection h with h
  injection h with h
  exact String.toList_inj.mp (map_toNat_inj h)
@[simp] theorem os_beq {a b : String} : (Str.ofString a == Str.ofString b) = (a == b) := by
  rw [Bool.eq_iff_iff]
  simp
theorem os_len (a : String) : (Str.ofString a).length = a.length := by
  rw [PySem.Str.ofString_eq_toList]
  show (List.map Char.toNat a.toList).toArray.size = a.length
  rw [List.size_toArray, List.length_map]
  rfl
theorem str_len_append (a b : Str) : (a ++ b).length = a.length + b.length := Array.size_append

theorem big_eq : big = 16777216 := Nat.eq_of_beq_eq_true (by decide)
/-! ### branches -/
def br (o : Option Bool) (A B : Prop) : Prop := match o with
  | some true => A
  | some false => B
  | none => False
def brV {α : Type} (o : Option α) (Q : α → Prop) : Prop := match o with
  | some v => Q v
  | none => False
@[simp] theorem br_some (b : Bool) (A B : Prop) : br (some b) A B ↔ (b = true → A) ∧ (b = false → B) := by cases b <;> simp [br]
@[simp] theorem brV_some {α : Type} (v : α) (Q : α → Prop) : brV (some v) Q ↔ Q v := Iff.rfl
@[simp] theorem brV_none {α : Type} (Q : α → Prop) : brV none Q ↔ False := Iff.rfl
@[simp] theorem brV_ifn {α : Type} {c : Prop} {_ : Decidable c} {v : α} {Q : α → Prop} : brV (if c then none else some v) Q ↔ ¬ c ∧ Q v := by
  by_cases h : c <;> simp [h]
theorem brV_ite {α : Type} {c : Prop} [Decidable c] {v : α} {Q : α → Prop} (h : c) (q : Q v) : brV (if c then some v else none) Q := by rw [if_pos h]; exact q
@[simp] theorem brV_if {α : Type} {c : Prop} {_ : Decidable c} {v : α} {Q : α → Prop} : brV (if c then some v else none) Q ↔ c ∧ Q v := by
  by_cases h : c <;> simp [h]

def exE (x : Val) (Q : String → List Val → Prop) : Prop := match x with
  | .exn c l => Q c l
  | _ => False
@[simp] theorem exE_exn {c : String} {l : List Val} {Q : String → List Val → Prop} : exE (.exn c l) Q ↔ Q c l := Iff.rfl
section
variable {Φ : Ph} {env : Env} {μ : Mu} {Q : Val → Mu → Prop} {Qs : List Val → Mu → Prop} {X : XQ} {D : En}
/-! ### expressions -/
theorem ie {a : E} {Q Q' : Val → Mu → Prop} (h : ∀ v μ, Q v μ ↔ Q' v μ) : wpE Φ a env μ Q X ↔ wpE Φ a env μ Q' X := by
  have : Q = Q' := by funext v m; exact propext (h v m)
  rw [this]
theorem is' {l : Es} {Q Q' : List Val → Mu → Prop} (h : ∀ v μ, Q v μ ↔ Q' v μ) : wpEs Φ l env μ Q X ↔ wpEs Φ l env μ Q' X := by
  have : Q = Q' := by funext v m; exact propext (h v m)
  rw [this]
theorem e_v {i : Nat} : wpE Φ (.v i) env μ Q X ↔ brV (env[i]?) fun o => brV o fun v => Q v μ := by
  rw [wpE]
  cases h : env[i]? with
  | none => exact Iff.rfl
  | some o => cases o <;> exact Iff.rfl
theorem e_c {v : Val} : wpE Φ (.c v) env μ Q X ↔ Q v μ := Iff.rfl
theorem e_tup {l : Es} : wpE Φ (.tup l) env μ Q X ↔ wpEs Φ l env μ (fun vs μ' => Q (.tup vs) μ') X := Iff.rfl
theorem e_lst {l : Es} : wpE Φ (.lst l) env μ Q X ↔ wpEs Φ l env μ (fun vs μ' => Q (.lst vs) μ') X := Iff.rfl
theorem e_dct {l : Es} : wpE Φ (.dct l) env μ Q X ↔ wpEs Φ l env μ (fun vs μ' => Q (.dct vs) μ') X := Iff.rfl
theorem s_nil : wpEs Φ .nil env μ Qs X ↔ Qs [] μ := Iff.rfl
theorem s_cons {a : E} {r : Es} : wpEs Φ (.cons a r) env μ Qs X ↔ wpE Φ a env μ (fun v μ1 => wpEs Φ r env μ1 (fun vs μ2 => Qs (v :: vs) μ2) X) X := Iff.rfl
theorem e_ix {a b : E} : wpE Φ (.ix a b) env μ Q X ↔ wpE Φ a env μ (fun v μ1 => wpE Φ b env μ1 (fun w μ2 => brV (ixV μ2 v w) fun r => Q r μ2) X) X := by
  rw [wpE]; exact ie fun v μ1 => ie fun w μ2 => by cases ixV μ2 v w <;> exact Iff.rfl
theorem e_sl {a : E} {lo hi : Es} : wpE Φ (.sl a lo hi) env μ Q X ↔ wpE Φ a env μ (fun v μ1 => wpEs Φ lo env μ1 (fun l μ2 => brV (optInt l) fun l' => wpEs Φ hi env μ2 (fun h μ3 => brV (optInt h) fun h' => brV ((content μ3 v).bind fun c => slC c l' h') fun r => Q r μ3) X) X) X := by
  rw [wpE]
  refine ie fun v μ1 => is' fun l μ2 => ?_
  cases optInt l with
  | none => exact Iff.rfl
  | some l' =>
    refine is' fun h μ3 => ?_
    cases optInt h with
    | none => exact Iff.rfl
    | some h' =>
      dsimp only [brV]
      cases ((content μ3 v).bind fun c => slC c l' h') <;> exact Iff.rfl
theorem e_bin {o : Op} {a b : E} : wpE Φ (.bin o a b) env μ Q X ↔ wpE Φ a env μ (fun v μ1 => wpE Φ b env μ1 (fun w μ2 => brV (binV μ2 o v w) fun r => Q r μ2) X) X := by
  rw [wpE]; exact ie fun v μ1 => ie fun w μ2 => by cases binV μ2 o v w <;> exact Iff.rfl
theorem e_cmp {o : Cm} {a b : E} : wpE Φ (.cmp o a b) env μ Q X ↔ wpE Φ a env μ (fun v μ1 => wpE Φ b env μ1 (fun w μ2 => brV (cmpV o v w) fun r => Q (.bl r) μ2) X) X := by
  rw [wpE]; exact ie fun v μ1 => ie fun w μ2 => by cases cmpV o v w <;> exact Iff.rfl
theorem e_eq {a b : E} : wpE Φ (.eq .eq a b) env μ Q X ↔ wpE Φ a env μ (fun v μ1 => wpE Φ b env μ1 (fun w μ2 => brV (eqV μ2 v w) fun r => Q (.bl r) μ2) X) X := by
  rw [wpE]; exact ie fun v μ1 => ie fun w μ2 => by cases eqV μ2 v w <;> exact Iff.rfl
theorem e_ne {a b : E} : wpE Φ (.eq .ne a b) env μ Q X ↔ wpE Φ a env μ (fun v μ1 => wpE Φ b env μ1 (fun w μ2 => brV (eqV μ2 v w) fun r => Q (.bl !r) μ2) X) X := by
  rw [wpE]; exact ie fun v μ1 => ie fun w μ2 => by cases eqV μ2 v w <;> exact Iff.rfl
theorem e_in {a b : E} : wpE Φ (.isin .isin a b) env μ Q X ↔ wpE Φ a env μ (fun v μ1 => wpE Φ b env μ1 (fun w μ2 => brV (inV μ2 v w) fun r => Q (.bl r) μ2) X) X := by
  rw [wpE]; exact ie fun v μ1 => ie fun w μ2 => by cases inV μ2 v w <;> exact Iff.rfl
theorem e_nin {a b : E} : wpE Φ (.isin .notin a b) env μ Q X ↔ wpE Φ a env μ (fun v μ1 => wpE Φ b env μ1 (fun w μ2 => brV (inV μ2 v w) fun r => Q (.bl !r) μ2) X) X := by
  rw [wpE]; exact ie fun v μ1 => ie fun w μ2 => by cases inV μ2 v w <;> exact Iff.rfl
def isNo : Val → Bool
  | .non => true
  | _ => false
@[simp] theorem isNo_non : isNo .non = true := rfl
@[simp] theorem isNo_int {i : Int} : isNo (.int i) = false := rfl
@[simp] theorem isNo_tup {l : List Val} : isNo (.tup l) = false := rfl
@[simp] theorem isNo_lst {l : List Val} : isNo (.lst l) = false := rfl
@[simp] theorem isNo_str {s : Str} : isNo (.str s) = false := rfl
@[simp] theorem isNo_bl {b : Bool} : isNo (.bl b) = false := rfl
theorem e_isN {a : E} : wpE Φ (.isN false a) env μ Q X ↔ wpE Φ a env μ (fun v μ' => Q (.bl (isNo v)) μ') X := by
  rw [wpE]; exact ie fun v μ' => by cases v <;> exact Iff.rfl
theorem e_notN {a : E} : wpE Φ (.isN true a) env μ Q X ↔ wpE Φ a env μ (fun v μ' => Q (.bl !(isNo v)) μ') X := by
  rw [wpE]; exact ie fun v μ' => by cases v <;> exact Iff.rfl
theorem e_chain {o p : Cm} {a b c : E} : wpE Φ (.chain o p a b c) env μ Q X ↔ wpE Φ a env μ (fun v μ1 => wpE Φ b env μ1 (fun w μ2 => br (cmpV o v w) (wpE Φ c env μ2 (fun u μ3 => brV (cmpV p w u) fun r => Q (.bl r) μ3) X) (Q (.bl false) μ2)) X) X := by
  rw [wpE]
  refine ie fun v μ1 => ie fun w μ2 => ?_
  cases h : cmpV o v w with
  | none => exact Iff.rfl
  | some b =>
    cases b with
    | false => exact Iff.rfl
    | true => exact ie fun u μ3 => by cases cmpV p w u <;> exact Iff.rfl
def intOf : Val → Option Int
  | .int i => some i
  | _ => none
@[simp] theorem intOf_int {i : Int} : intOf (.int i) = some i := rfl
theorem e_neg {a : E} : wpE Φ (.neg a) env μ Q X ↔ wpE Φ a env μ (fun v μ' => brV (intOf v) fun i => Q (.int (-i)) μ') X := by
  rw [wpE]; exact ie fun v μ' => by cases v <;> exact Iff.rfl
theorem e_not {a : E} : wpE Φ (.not a) env μ Q X ↔ wpE Φ a env μ (fun v μ' => brV (truthV μ' v) fun b => Q (.bl !b) μ') X := by
  rw [wpE]; exact ie fun v μ' => by cases truthV μ' v <;> exact Iff.rfl
theorem e_and {a b : E} : wpE Φ (.and a b) env μ Q X ↔ wpE Φ a env μ (fun v μ' => br (truthV μ' v) (wpE Φ b env μ' Q X) (Q v μ')) X := by
  rw [wpE]; exact ie fun v μ' => by
    cases truthV μ' v with
    | none => exact Iff.rfl
    | some b => cases b <;> exact Iff.rfl
theorem e_or {a b : E} : wpE Φ (.or a b) env μ Q X ↔ wpE Φ a env μ (fun v μ' => br (truthV μ' v) (Q v μ') (wpE Φ b env μ' Q X)) X := by
  rw [wpE]; exact ie fun v μ' => by
    cases truthV μ' v with
    | none => exact Iff.rfl
    | some b => cases b <;> exact Iff.rfl
theorem e_ite {c a b : E} : wpE Φ (.ite c a b) env μ Q X ↔ wpE Φ c env μ (fun v μ' => br (truthV μ' v) (wpE Φ a env μ' Q X) (wpE Φ b env μ' Q X)) X := by
  rw [wpE]; exact ie fun v μ' => by
    cases truthV μ' v with
    | none => exact Iff.rfl
    | some b => cases b <;> exact Iff.rfl
theorem e_call {f : String} {m : Md} {l : Es} : wpE Φ (.call f m l) env μ Q X ↔ wpEs Φ l env μ (fun vs μ' => Φ f m vs μ' Q X) X := Iff.rfl
theorem e_bi {b : Bi} {l : Es} : wpE Φ (.bi b l) env μ Q X ↔ wpEs Φ l env μ (fun vs μ' => brV (biV μ' b vs) fun r => Q r μ') X := by
  rw [wpE]; exact is' fun v μ' => by cases biV μ' b v <;> exact Iff.rfl
theorem e_me {m : Me} {o : E} {l : Es} : wpE Φ (.me m o l) env μ Q X ↔ wpE Φ o env μ (fun v μ1 => meOk μ1 m v = true ∧ wpEs Φ l env μ1 (fun vs μ2 => brV (meV μ2 m v vs) fun p => Q p.1 p.2) X) X := by
  rw [wpE]; exact ie fun v μ1 => and_congr Iff.rfl (is' fun vs μ2 => by cases meV μ2 m v vs <;> exact Iff.rfl)
theorem e_isT {a : E} {t : Ty} : wpE Φ (.isT a t) env μ Q X ↔ wpE Φ a env μ (fun v μ' => brV (tyV μ' t v) fun b => Q (.bl b) μ') X := by
  rw [wpE]; exact ie fun v μ' => by cases tyV μ' t v <;> exact Iff.rfl
theorem e_new {a : E} : wpE Φ (.new a) env μ Q X ↔ wpE Φ a env μ (fun v μ' => isCont v = true ∧ ∀ p, μ' p = none → Q (.ref p) (μ'.set p v)) X := by
  rw [wpE]

theorem e_attr {a : E} {f : String} : wpE Φ (.attr a f) env μ Q X ↔ wpE Φ a env μ (fun v μ' => brV (attrV μ' v f) fun r => Q r μ') X := by
  rw [wpE]; exact ie fun v μ' => by cases attrV μ' v f <;> exact Iff.rfl
theorem e_mth {c f : String} {o : E} {m : Md} {l : Es} : wpE Φ (.mth c o f m l) env μ Q X ↔ wpE Φ o env μ (fun v μ1 => isIns μ1 v c = true ∧ wpEs Φ l env μ1 (fun vs μ2 => Φ f m (v :: vs) μ2 Q X) X) X := by
  rw [wpE]
theorem e_mk {c f : String} {l : Es} : wpE Φ (.mk c f l) env μ Q X ↔ wpEs Φ l env μ (fun vs μ1 => ∀ p, μ1 p = none → Φ f .keep (.ref p :: vs) (μ1.set p (.ins c [])) (fun r μ2 => isNo r = true ∧ Q (.ref p) μ2) X) X := by
  rw [wpE]
  have : ∀ p : Ad, (fun (r : Val) (μ2 : Mu) => match r with
    | .non => Q (.ref p) μ2
    | _ => False) = fun r μ2 => isNo r = true ∧ Q (.ref p) μ2 := fun p => by
    funext r μ2
    cases r <;> simp [isNo]
  exact is' fun vs μ1 => forall_congr' fun p => forall_congr' fun h => iff_of_eq (congrArg (fun K => Φ.call f .keep (.ref p :: vs) (μ1.set p (.ins c [])) K X) (this p))
@[simp] theorem asg_n {i : Nat} {v : Val} : (Tg.n i).asg v env = some (env.set i (some v)) := rfl
@[simp] theorem asg_t {ts : List Tg} {vs : List Val} : (Tg.t ts).asg (.tup vs) env = if ts.length = vs.length then asgL ts vs env else none := rfl
@[simp] theorem asg_l {ts : List Tg} {vs : List Val} : (Tg.t ts).asg (.lst vs) env = if ts.length = vs.length then asgL ts vs env else none := rfl
@[simp] theorem asgL_nil : asgL [] [] env = some env := rfl
@[simp] theorem asgL_cons {t : Tg} {ts : List Tg} {v : Val} {vs : List Val} : asgL (t :: ts) (v :: vs) env = (t.asg v env).bind fun e => asgL ts vs e := rfl
/-! ### statements -/
theorem w_skip : wpS Φ .skip env μ D ↔ D.nx env μ := Iff.rfl
theorem w_seq {a b : S} : wpS Φ (.seq a b) env μ D ↔ wpS Φ a env μ { D with nx := fun env' μ' => wpS Φ b env' μ' D } := Iff.rfl
theorem w_ex {e : E} : wpS Φ (.ex e) env μ D ↔ wpE Φ e env μ (fun _ μ' => D.nx env μ') fun x μ' => D.ex x env μ' := Iff.rfl
theorem w_asg {i : Nat} {e : E} : wpS Φ (.asg i e) env μ D ↔ wpE Φ e env μ (fun v μ' => D.nx (env.set i (some v)) μ') fun x μ' => D.ex x env μ' := Iff.rfl
theorem w_asgT {t : Tg} {e : E} : wpS Φ (.asgT t e) env μ D ↔ wpE Φ e env μ (fun v μ' => brV (t.asg v env) fun env' => D.nx env' μ') fun x μ' => D.ex x env μ' := by
  rw [wpS]; exact ie fun v μ' => by cases t.asg v env <;> exact Iff.rfl
theorem w_setix {o i e : E} : wpS Φ (.setix o i e) env μ D ↔ wpE Φ e env μ (fun v μ1 => wpE Φ o env μ1 (fun ov μ2 => wpE Φ i env μ2 (fun iv μ3 => brV (setV μ3 ov iv v) fun μ4 => D.nx env μ4) fun x μ' => D.ex x env μ') fun x μ' => D.ex x env μ') fun x μ' => D.ex x env μ' := by
  rw [wpS]; exact ie fun v μ1 => ie fun ov μ2 => ie fun iv μ3 => by cases setV μ3 ov iv v <;> exact Iff.rfl
theorem w_setattr {o e : E} {f : String} : wpS Φ (.setattr o f e) env μ D ↔ wpE Φ e env μ (fun v μ1 => wpE Φ o env μ1 (fun ov μ2 => brV (setAttrV μ2 ov f v) fun μ3 => D.nx env μ3) fun x μ' => D.ex x env μ') fun x μ' => D.ex x env μ' := by
  rw [wpS]; exact ie fun v μ1 => ie fun ov μ2 => by cases setAttrV μ2 ov f v <;> exact Iff.rfl
theorem w_ite {c : E} {a b : S} : wpS Φ (.ite c a b) env μ D ↔ wpE Φ c env μ (fun v μ' => br (truthV μ' v) (wpS Φ a env μ' D) (wpS Φ b env μ' D)) fun x μ' => D.ex x env μ' := by
  rw [wpS]; exact ie fun v μ' => by
    cases truthV μ' v with
    | none => exact Iff.rfl
    | some b => cases b <;> exact Iff.rfl
theorem br_iff {o : Option Bool} {A A' B B' : Prop} (h1 : o = some true → (A ↔ A')) (h2 : o = some false → (B ↔ B')) : br o A B ↔ br o A' B' := by
  cases o with
  | none => exact Iff.rfl
  | some b =>
    cases b with
    | false => exact h2 rfl
    | true => exact h1 rfl
@[simp 2000] theorem w_ite_or {a b : E} {s t : S} : wpS Φ (.ite (.or a b) s t) env μ D ↔ wpS Φ (.ite a s (.ite b s t)) env μ D := by
  rw [w_ite, w_ite, e_or]
  refine ie fun v μ' => br_iff (fun h => ?_) (fun _ => ?_)
  · rw [h]; exact Iff.rfl
  · rw [w_ite]
@[simp 2000] theorem w_ite_and {a b : E} {s t : S} : wpS Φ (.ite (.and a b) s t) env μ D ↔ wpS Φ (.ite a (.ite b s t) t) env μ D := by
  rw [w_ite, w_ite, e_and]
  refine ie fun v μ' => br_iff (fun _ => ?_) (fun h => ?_)
  · rw [w_ite]
  · rw [h]; exact Iff.rfl
@[simp 2000] theorem w_ite_not {a : E} {s t : S} : wpS Φ (.ite (.not a) s t) env μ D ↔ wpS Φ (.ite a t s) env μ D := by
  rw [w_ite, w_ite, e_not]
  refine ie fun v μ' => ?_
  cases truthV μ' v with
  | none => exact Iff.rfl
  | some b => cases b <;> exact Iff.rfl
theorem w_ret {e : E} : wpS Φ (.ret e) env μ D ↔ wpE Φ e env μ (fun v μ' => D.rt v μ') fun x μ' => D.ex x env μ' := Iff.rfl
theorem w_raise {c : String} : wpS Φ (.raise c) env μ D ↔ D.ex (.exn c []) env μ := Iff.rfl
@[simp] theorem pin_at {c d : String} {a : Ad} {Q : Bool → Prop} : pinQ (Φ.at c a).pin (.ref a) d Q ↔ Q (isSub c d) := ⟨fun h => h.2, fun h => ⟨rfl, h⟩⟩
theorem call_ok {P : Prog} {n : Nat} {f : String} {d : Fn} {m : Md} {args : List Val} (h : P f = some d) (hl : args.length = d.ps)
    (q : wpS (phi P n) d.body (args.map some ++ List.replicate (d.slots - d.ps) none) μ
        { nx := fun _ μ' => finM m μ Q .non μ', rt := fun v μ' => finM m μ Q v μ', ex := fun x _ μ' => X (reso μ μ' 4 x) (match m with | .keep => μ' | _ => μ'.cut μ) }) : phi P (n + 1) f m args μ Q X := by
  rw [phi_succ, h]
  exact ⟨hl, q⟩
end

/-! ### what may be changed -/
section
variable {μ μ' : Mu} {p a : Ad} {v w : Val}
theorem Mu.ext {μ μ' : Mu} (h : ∀ a, μ a = μ' a) : μ = μ' := funext h
@[simp] theorem mset_same : (μ.set p v) p = some v := if_pos rfl
theorem mset_ne (h : a ≠ p) : (μ.set p v) a = μ a := if_neg h
@[simp] theorem mset_set : (μ.set p v).set p w = μ.set p w := by
  funext b
  unfold Mu.set
  by_cases h : b = p <;> simp [h]
theorem cut_self : μ.cut μ = μ := by
  funext b
  unfold Mu.cut
  cases h : μ b <;> simp [h]
theorem cut_new (h : μ p = none) : (μ'.set p v).cut μ = μ'.cut μ := by
  funext b
  unfold Mu.cut Mu.set
  by_cases h1 : b = p
  · subst h1; simp [h]
  · simp [h1]
/-! data by value -/
mutual
def nr : Val → Bool
  | .ref _ => false
  | .tup l => nrL l
  | .lst l => nrL l
  | .dct l => nrL l
  | .exn _ l => nrL l
  | .ins _ l => nrL l
  | _ => true
def nrL : List Val → Bool
  | [] => true
  | v :: r => nr v && nrL r
end
mutual
theorem mapRef_nr {f : Ad → Option Val} : ∀ (v : Val), nr v = true → mapRef f v = v
  | .non, _ => rfl
  | .bl _, _ => rfl
  | .int _, _ => rfl
  | .str _, _ => rfl
  | .ref _, h => by cases h
  | .tup l, h => by rw [mapRef, mapRefL_nr l h]
  | .lst l, h => by rw [mapRef, mapRefL_nr l h]
  | .dct l, h => by rw [mapRef, mapRefL_nr l h]
  | .exn _ l, h => by rw [mapRef, mapRefL_nr l h]
  | .ins _ l, h => by rw [mapRef, mapRefL_nr l h]
  | .dtt _, _ => rfl
theorem mapRefL_nr {f : Ad → Option Val} : ∀ (l : List Val), nrL l = true → mapRefL f l = l
  | [], _ => rfl
  | v :: r, h => by
    rw [nrL, Bool.and_eq_true] at h
    rw [mapRefL, mapRef_nr v h.1, mapRefL_nr r h.2]
end
theorem reso_nr {n : Nat} (h : nr v = true) : reso μ μ' n v = v := mapRef_nr v h
mutual
theorem mapRef_no : ∀ (v : Val), mapRef (fun _ => none) v = v
  | .non => rfl
  | .bl _ => rfl
  | .int _ => rfl
  | .str _ => rfl
  | .ref _ => rfl
  | .tup l => by rw [mapRef, mapRefL_no l]
  | .lst l => by rw [mapRef, mapRefL_no l]
  | .dct l => by rw [mapRef, mapRefL_no l]
  | .exn _ l => by rw [mapRef, mapRefL_no l]
  | .ins _ l => by rw [mapRef, mapRefL_no l]
  | .dtt _ => rfl
theorem mapRefL_no : ∀ (l : List Val), mapRefL (fun _ => none) l = l
  | [] => rfl
  | v :: r => by rw [mapRefL, mapRef_no v, mapRefL_no r]
end
theorem reso_new {l : Val} {n : Nat} (h : μ p = none) (h' : μ' p = some l) (hn : nr l = true) : reso μ μ' (n + 1) (.ref p) = l := by
  unfold reso
  rw [mapRef, resoF]
  simp only [h, h', Option.isSome_none, Bool.false_eq_true, if_false, Option.map_some, Option.getD_some]
  exact mapRef_nr l hn
theorem resoF_self {n : Nat} : resoF μ μ n = fun _ => none := by
  cases n with
  | zero => rfl
  | succ n =>
    funext a
    rw [resoF]
    cases h : μ a <;> simp
@[simp] theorem reso_self {n : Nat} : reso μ μ n v = v := by unfold reso; rw [resoF_self]; exact mapRef_no v
@[simp] theorem cut_self' : μ.cut μ = μ := cut_self
@[simp] theorem fin_self {Q : Val → Mu → Prop} : finM .val μ Q v μ ↔ Q v μ := by
  show Q (reso μ μ 4 v) (μ.cut μ) ↔ _
  rw [reso_self, cut_self]
theorem fin_val {Q : Val → Mu → Prop} (h : nr v = true) (hc : μ'.cut μ = μ) (q : Q v μ) : finM .val μ Q v μ' := by
  show Q (reso μ μ' 4 v) (μ'.cut μ)
  rw [reso_nr h, hc]
  exact q
theorem nrL_iff {l : List Val} : nrL l = true ↔ ∀ v ∈ l, nr v = true := by
  induction l with
  | nil => simp [nrL]
  | cons v r ih => simp [nrL, ih]
theorem nrL_ints (l : List Int) : nrL (l.map Val.int) = true := by rw [nrL_iff]; simp [nr]
theorem nrL_strs (l : List Str) : nrL (l.map Val.str) = true := by rw [nrL_iff]; simp [nr]
end

/-! ### loops -/
theorem for_rule {Φ : Ph} (hΦ : MonoP Φ) {t : Tg} {it : It} {b : S} {env : Env} {μ : Mu} {D : En}
    (h : wpI Φ it env μ (fun l a μ1 => ∃ I : List Val → Env → Mu → Prop, I [] env μ1 ∧
      (∀ done v rest env' μ', l = done ++ v :: rest → I done env' μ' → gOk a μ' ∧ brV (t.asg v env') fun env2 => wpS Φ b env2 μ' { D with nx := fun e m => I (done ++ [v]) e m }) ∧
      (∀ env' μ', I l env' μ' → gOk a μ' ∧ D.nx env' μ')) fun x μ' => D.ex x env μ') : wpS Φ (.forS t it b) env μ D := by
  rw [wpS]
  refine wpI_mono hΦ it env μ _ _ _ _ (fun l a μ1 ⟨I, h0, hs, he⟩ => ?_) (fun _ _ z => z) h
  have key : ∀ (rest done : List Val) (env' : Env) (μ' : Mu), l = done ++ rest → I done env' μ' → loopF (gOk a) (fun v env' μ' R => match t.asg v env' with
    | some env2 => wpS Φ b env2 μ' { D with nx := R }
    | none => False) D.nx rest env' μ' := by
    intro rest
    induction rest with
    | nil => intro done env' μ' e hI; rw [List.append_nil] at e; subst e; exact he _ _ hI
    | cons v r ih =>
      intro done env' μ' e hI
      have := hs done v r env' μ' e hI
      refine ⟨this.1, ?_⟩
      have h2 := this.2
      cases ha : t.asg v env' with
      | none => rw [ha] at h2; exact h2.elim
      | some env2 =>
        rw [ha] at h2
        dsimp only
        rw [ha]
        refine wpS_mono hΦ b env2 μ' { D with nx := fun e m => I (done ++ [v]) e m } _ ⟨fun e2 m z => ?_, fun _ _ z => z, fun _ _ _ z => z⟩ h2
        exact ih (done ++ [v]) e2 m (by rw [List.append_assoc]; exact e) z
  exact key l [] env μ1 rfl h0
theorem i_e {Φ : Ph} {a : E} {env : Env} {μ : Mu} {Q : List Val → Option (Ad × List Val) → Mu → Prop} {X : XQ} (h : wpE Φ a env μ (fun v μ' => (∃ l, content μ' v = some (.lst l) ∧ Q l (guard v l) μ') ∨ (∃ l, content μ' v = some (.tup l) ∧ Q l none μ')) X) (hΦ : MonoP Φ) : wpI Φ (.e a) env μ Q X := by
  rw [wpI]
  refine wpE_mono hΦ a env μ _ _ _ _ (fun v μ' z => ?_) (fun _ _ z => z) h
  rcases z with ⟨l, e, q⟩ | ⟨l, e, q⟩ <;> (rw [e]; exact q)
theorem i_range {Φ : Ph} {a : E} {env : Env} {μ : Mu} {Q : List Val → Option (Ad × List Val) → Mu → Prop} {X : XQ} : wpI Φ (.range a) env μ Q X ↔ wpE Φ a env μ (fun v μ' => brV (intOf v) fun j => -(2 ^ 62) ≤ j ∧ j < 2 ^ 62 ∧ Q (intsFrom 0 j.toNat) none μ') X := by
  rw [wpI]; exact ie fun v μ' => by cases v <;> exact Iff.rfl
theorem i_enum {Φ : Ph} {a : E} {env : Env} {μ : Mu} {Q : List Val → Option (Ad × List Val) → Mu → Prop} {X : XQ} (h : wpE Φ a env μ (fun v μ' => ∃ l, content μ' v = some (.lst l) ∧ Q (enumL 0 l) (guard v l) μ') X) (hΦ : MonoP Φ) : wpI Φ (.enum a) env μ Q X := by
  rw [wpI]
  refine wpE_mono hΦ a env μ _ _ _ _ (fun v μ' ⟨l, e, q⟩ => ?_) (fun _ _ z => z) h
  rw [e]; exact q
theorem fin_new {μ : Mu} {p : Ad} {v : Val} {Q : Val → Mu → Prop} (hp : μ p = none) (hn : nr v = true) : finM .val μ Q (.ref p) (μ.set p v) ↔ Q v μ := by
  show Q (reso μ (μ.set p v) 4 (.ref p)) ((μ.set p v).cut μ) ↔ _
  rw [reso_new hp mset_same hn, cut_new hp, cut_self]
theorem fin_obj {μ : Mu} {p : Ad} {v : Val} {Q : Val → Mu → Prop} (hp : μ p = none) : finM .obj μ Q (.ref p) (μ.set p v) ↔ Q (.ref p) (μ.set p v) := by
  simp only [finM, mset_same, hp, true_and, reso_self]
  rw [cut_new hp, cut_self]
theorem comp_inv {Φ : Ph} (hΦ : MonoP Φ) {elt : E} {tg : Tg} {own : List Nat} {it : It} {cond : E} {env : Env} {μ : Mu} {Q : Val → Mu → Prop} {X : XQ}
    (h : wpI Φ it env μ (fun l a μ1 => ∃ I : List Val → List Val → Mu → Prop, I [] [] μ1 ∧
      (∀ done v rest acc μ', l = done ++ v :: rest → I done acc μ' → gOk a μ' ∧ brV (tg.asg v (wipe env own)) fun env' =>
        wpE Φ cond env' μ' (fun t μ3 => br (truthV μ3 t) (wpE Φ elt env' μ3 (fun y μ4 => acc.length < big ∧ I (done ++ [v]) (acc ++ [y]) μ4) fun _ _ => False) (I (done ++ [v]) acc μ3)) fun _ _ => False) ∧
      (∀ acc μ', I l acc μ' → gOk a μ' ∧ Q (.lst acc) μ')) X) : wpE Φ (.comp elt tg own it cond) env μ Q X := by
  rw [wpE]
  refine wpI_mono hΦ it env μ _ _ _ _ (fun l a μ1 ⟨I, h0, hs, he⟩ => ?_) (fun _ _ z => z) h
  have key : ∀ (rest done acc : List Val) (μ' : Mu), l = done ++ rest → I done acc μ' → loopC (gOk a) (fun v μ2 R => match tg.asg v (wipe env own) with
    | some env' => wpE Φ cond env' μ2 (fun t μ3 => match truthV μ3 t with
      | some true => wpE Φ elt env' μ3 (fun y μ4 => R (some y) μ4) fun _ _ => False
      | some false => R none μ3
      | none => False) fun _ _ => False
    | none => False) rest acc μ' fun r μ' => Q (.lst r) μ' := by
    intro rest
    induction rest with
    | nil => intro done acc μ' e hI; rw [List.append_nil] at e; subst e; exact he _ _ hI
    | cons v r ih =>
      intro done acc μ' e hI
      have := hs done v r acc μ' e hI
      refine ⟨this.1, ?_⟩
      have h2 := this.2
      dsimp only
      cases ha : tg.asg v (wipe env own) with
      | none => rw [ha] at h2; exact h2.elim
      | some env' =>
        rw [ha] at h2
        refine wpE_mono hΦ cond env' μ' _ _ _ _ (fun t μ3 z => ?_) (fun _ _ z => z) h2
        cases ht : truthV μ3 t with
        | none => rw [ht] at z; exact z.elim
        | some b =>
          rw [ht] at z
          cases b with
          | false => exact ih (done ++ [v]) acc μ3 (by rw [List.append_assoc]; exact e) z
          | true => exact wpE_mono hΦ elt env' μ3 _ _ _ _ (fun y μ4 y2 => ⟨y2.1, ih (done ++ [v]) (acc ++ [y]) μ4 (by rw [List.append_assoc]; exact e) y2.2⟩) (fun _ _ z => z) z
  exact key l [] [] μ1 rfl h0
theorem split_map {α : Type} {g : α → Val} {xs ys : List α} {v : Val} {rest : List Val} (e : xs.map g = ys.map g ++ v :: rest) {zs : List α} (hz : xs = ys ++ zs) : ∃ x zs', zs = x :: zs' ∧ v = g x := by
  subst hz
  rw [List.map_append] at e
  have e2 := List.append_cancel_left e
  cases zs with
  | nil => cases e2
  | cons x zs' =>
    rw [List.map_cons] at e2
    injection e2 with h1 h2
    exact ⟨x, zs', rfl, h1.symm⟩
theorem comp_mapT {α : Type} (g : α → Val) (xs : List α) (p : α → Bool) (f : α → Val) {Φ : Ph} (hΦ : MonoP Φ) {elt : E} {tg : Tg} {own : List Nat} {it : It} {cond : E} {env : Env} {μ : Mu} {Q : Val → Mu → Prop} {X : XQ}
    (h : wpI Φ it env μ (fun l a μ1 => l = xs.map g ∧ gOk a μ1 ∧ xs.length ≤ big ∧
      (∀ x ∈ xs, brV (tg.asg (g x) (wipe env own)) fun env' => wpE Φ cond env' μ1 (fun t μ3 => μ3 = μ1 ∧ br (truthV μ1 t) (p x = true ∧ wpE Φ elt env' μ1 (fun y μ4 => μ4 = μ1 ∧ y = f x) fun _ _ => False) (p x = false)) fun _ _ => False) ∧
      Q (.lst ((xs.filter p).map f)) μ1) X) : wpE Φ (.comp elt tg own it cond) env μ Q X := by
  refine comp_inv hΦ (wpI_mono hΦ it env μ _ _ _ _ (fun l a μ1 ⟨hl0, hg, hl, hs, hq⟩ => ?_) (fun _ _ z => z) h)
  subst hl0
  refine ⟨fun done acc μ' => μ' = μ1 ∧ ∃ ys zs, xs = ys ++ zs ∧ done = ys.map g ∧ acc = (ys.filter p).map f, ⟨rfl, [], xs, rfl, rfl, rfl⟩, ?_, ?_⟩
  · rintro done v rest acc μ' e ⟨rfl, ys, zs, hx, rfl, rfl⟩
    refine ⟨hg, ?_⟩
    obtain ⟨x, zs', rfl, rfl⟩ := split_map e hx
    have h2 := hs x (by rw [hx]; simp)
    cases ha : tg.asg (g x) (wipe env own) with
    | none => rw [ha] at h2; exact h2.elim
    | some env' =>
      rw [ha] at h2
      refine wpE_mono hΦ cond env' μ' _ _ _ _ (fun t μ3 z => ?_) (fun _ _ z => z) h2
      obtain ⟨rfl, z⟩ := z
      cases ht : truthV μ3 t with
      | none => rw [ht] at z; exact z.elim
      | some b =>
        rw [ht] at z
        cases b with
        | false =>
          refine ⟨rfl, ys ++ [x], zs', by rw [hx]; simp, by simp, ?_⟩
          have z : p x = false := z
          rw [List.filter_append]
          simp [z]
        | true =>
          obtain ⟨hp, z⟩ := z
          refine wpE_mono hΦ elt env' μ3 _ _ _ _ (fun y μ4 y2 => ⟨?_, y2.1, ys ++ [x], zs', by rw [hx]; simp, by simp, ?_⟩) (fun _ _ z => z) z
          · have h3 : (ys.filter p).length ≤ ys.length := List.length_filter_le _ _
            have h4 : ys.length < xs.length := by rw [hx]; simp
            rw [List.length_map]
            omega
          · rw [y2.2, List.filter_append]
            simp [hp]
  · rintro acc μ' ⟨rfl, ys, zs, hx, e, rfl⟩
    have hz : zs = [] := by
      have := congrArg List.length e
      rw [hx] at this
      simp at this
      exact this
    subst hz
    rw [List.append_nil] at hx
    subst hx
    exact ⟨hg, hq⟩
theorem w_seq_id {Φ : Ph} (hΦ : MonoP Φ) {a b : S} {env : Env} {μ : Mu} {D : En} (h1 : wpS Φ a env μ { D with nx := fun e m => e = env ∧ m = μ }) (h2 : wpS Φ b env μ D) : wpS Φ (.seq a b) env μ D := by
  rw [w_seq]
  exact wpS_mono hΦ a env μ { D with nx := fun e m => e = env ∧ m = μ } _ ⟨fun e m ⟨h, h'⟩ => by subst h h'; exact h2, fun _ _ z => z, fun _ _ _ z => z⟩ h1
theorem comp_all {α : Type} (g : α → Val) (xs : List α) (f : α → Val) {Φ : Ph} (hΦ : MonoP Φ) {elt : E} {tg : Tg} {own : List Nat} {it : It} {env : Env} {μ : Mu} {Q : Val → Mu → Prop} {X : XQ}
    (h : wpI Φ it env μ (fun l a μ1 => l = xs.map g ∧ gOk a μ1 ∧ xs.length ≤ big ∧
      (∀ x ∈ xs, brV (tg.asg (g x) (wipe env own)) fun env' => wpE Φ elt env' μ1 (fun y μ4 => μ4 = μ1 ∧ y = f x) fun _ _ => False) ∧
      Q (.lst (xs.map f)) μ1) X) : wpE Φ (.comp elt tg own it (.c (.bl true))) env μ Q X := by
  refine comp_mapT g xs (fun _ => true) f hΦ (wpI_mono hΦ it env μ _ _ _ _ (fun l a μ1 ⟨h1, h2, h3, h4, h5⟩ => ⟨h1, h2, h3, fun x hx => ?_, ?_⟩) (fun _ _ z => z) h)
  · have := h4 x hx
    cases ha : tg.asg (g x) (wipe env own) with
    | none => rw [ha] at this; exact this.elim
    | some env' =>
      rw [ha] at this
      exact ⟨rfl, ⟨rfl, this⟩⟩
  · have : xs.filter (fun _ => true) = xs := List.filter_eq_self.mpr fun _ _ => rfl
    rw [this]
    exact h5
end Mi
/-! Mv: the operations on given data. -/
namespace Mi
open PySem (Str)
section
variable {μ : Mu} {i j k : Int} {b c : Bool} {s t : Str} {l r : List Val} {v w : Val} {p : Ad}
@[simp] theorem ct_ref : content μ (.ref p) = μ p := rfl
@[simp] theorem ct_non : content μ .non = some .non := rfl
@[simp] theorem ct_bl : content μ (.bl b) = some (.bl b) := rfl
@[simp] theorem ct_int : content μ (.int i) = some (.int i) := rfl
@[simp] theorem ct_str : content μ (.str s) = some (.str s) := rfl
@[simp] theorem ct_tup : content μ (.tup l) = some (.tup l) := rfl
@[simp] theorem ct_lst : content μ (.lst l) = some (.lst l) := rfl
@[simp] theorem ct_dct : content μ (.dct l) = some (.dct l) := rfl
@[simp] theorem ct_dtt {l : List (List Int × Int)} : content μ (.dtt l) = some (.dtt l) := rfl
@[simp] theorem cont_dtt {l : List (List Int × Int)} : isCont (.dtt l) = true := rfl
@[simp] theorem tv_bl : truthV μ (.bl b) = some b := rfl
@[simp] theorem tv_non : truthV μ .non = some false := rfl
@[simp] theorem tv_int : truthV μ (.int i) = some (i != 0) := rfl
@[simp] theorem tv_lst : truthV μ (.lst l) = some (!l.isEmpty) := rfl
@[simp] theorem tv_tup : truthV μ (.tup l) = some (!l.isEmpty) := rfl
@[simp] theorem eq_int : eqV μ (.int i) (.int j) = some (i == j) := rfl
@[simp] theorem eq_str : eqV μ (.str s) (.str t) = some (s == t) := rfl
@[simp] theorem eq_nn : eqV μ .non .non = some true := rfl
@[simp] theorem eq_ni : eqV μ .non (.int i) = some false := rfl
@[simp] theorem eq_in : eqV μ (.int i) .non = some false := rfl
@[simp] theorem eq_bl : eqV μ (.bl b) (.bl c) = some (b == c) := rfl
theorem eqV_of {v w a b : Val} {r : Bool} (hv : content μ v = some a) (hw : content μ w = some b) (h : eqC a b = some r) : eqV μ v w = some r := by
  unfold eqV
  rw [hv, hw]
  show (match eqC a b with | some r => some r | none => eqT μ a b) = some r
  rw [h]
theorem eq_plain {a d : Val} (h : plain a = true) (h' : plain d = true) (hd : min (dep a) (dep d) ≤ 150) (ha : ∀ l, a ≠ .dct l) : eqC a d = some (eqb a d) := by
  unfold eqC
  split
  · exact (ha _ rfl).elim
  · rw [if_pos ⟨h, h', hd⟩]
@[simp] theorem cm_lt : cmpV .lt (.int i) (.int j) = some (decide (i < j)) := rfl
@[simp] theorem cm_le : cmpV .le (.int i) (.int j) = some (decide (i ≤ j)) := rfl
@[simp] theorem cm_gt : cmpV .gt (.int i) (.int j) = some (decide (j < i)) := rfl
@[simp] theorem cm_ge : cmpV .ge (.int i) (.int j) = some (decide (j ≤ i)) := rfl
@[simp] theorem bn_add : binV μ .add (.int i) (.int j) = some (.int (i + j)) := rfl
@[simp] theorem bn_sub : binV μ .sub (.int i) (.int j) = some (.int (i - j)) := rfl
@[simp] theorem bn_mul : binV μ .mul (.int i) (.int j) = if CMul i j then some (.int (i * j)) else none := rfl
@[simp] theorem bn_mod : binV μ .mod (.int i) (.int j) = if j ≠ 0 then some (.int (i.fmod j)) else none := rfl
@[simp] theorem bn_div : binV μ .fdiv (.int i) (.int j) = if j ≠ 0 ∧ j.natAbs < 1073741824 then some (.int (i.fdiv j)) else none := rfl
@[simp] theorem bn_pow : binV μ .pow (.int i) (.int j) = if 0 ≤ j ∧ j ≤ 1000000 ∧ i.natAbs < 2 ^ 64 then some (.int (i ^ j.toNat)) else none := rfl
@[simp] theorem bn_addS : binV μ .add (.str s) (.str t) = if s.length + t.length ≤ big then some (.str (s ++ t)) else none := rfl
@[simp] theorem bn_addL : binV μ .add (.lst l) (.lst r) = if l.length + r.length ≤ big then some (.lst (l ++ r)) else none := rfl
@[simp] theorem bn_addT : binV μ .add (.tup l) (.tup r) = if l.length + r.length ≤ big then some (.tup (l ++ r)) else none := rfl
@[simp] theorem bn_mulS : binV μ .mul (.str s) (.int k) = if 1 ≤ k ∧ k < 2 ^ 62 ∧ s.length * k.toNat ≤ big then some (.str (repS s k)) else none := rfl
@[simp] theorem bn_mulL : binV μ .mul (.lst l) (.int k) = if -(2 ^ 62) ≤ k ∧ k < 2 ^ 62 ∧ l.length * k.toNat ≤ big then some (.lst (repL l k)) else none := rfl
@[simp] theorem ix_tup : ixV μ (.tup l) (.int i) = atI l i := rfl
@[simp] theorem ix_lst : ixV μ (.lst l) (.int i) = atI l i := rfl
@[simp] theorem ix_str : ixV μ (.str s) (.int i) = if s.length ≤ big then (atI s.cps.toList i).map fun c => .str ⟨#[c]⟩ else none := rfl
theorem ix_ref (h : μ p = some (.lst l)) : ixV μ (.ref p) (.int i) = atI l i := by unfold ixV; rw [ct_ref, h]; rfl
theorem at_nat {α : Type} {l : List α} {i : Int} {a : α} (h0 : 0 ≤ i) (h : l[i.toNat]? = some a) : atI l i = some a := by
  have : i.toNat < l.length := by
    rcases Nat.lt_or_ge i.toNat l.length with z | z
    · exact z
    · rw [List.getElem?_eq_none z] at h; cases h
  have h2 : i < (l.length : Int) := by omega
  unfold atI ixN
  rw [if_pos h0, if_pos h2]
  exact h
@[simp] theorem at0 {α : Type} {a : α} {r : List α} : atI (a :: r) 0 = some a := at_nat (by decide) rfl
@[simp] theorem at1 {α : Type} {a b : α} {r : List α} : atI (a :: b :: r) 1 = some b := at_nat (by decide) rfl
@[simp] theorem at2 {α : Type} {a b c : α} {r : List α} : atI (a :: b :: c :: r) 2 = some c := at_nat (by decide) rfl
@[simp] theorem at3 {α : Type} {a b c d : α} {r : List α} : atI (a :: b :: c :: d :: r) 3 = some d := at_nat (by decide) rfl
@[simp] theorem at4 {α : Type} {a b c d e : α} {r : List α} : atI (a :: b :: c :: d :: e :: r) 4 = some e := at_nat (by decide) rfl
@[simp] theorem ty_ii : tyV μ .int (.int i) = some true := rfl
@[simp] theorem ty_ib : tyV μ .int (.bl b) = some true := rfl
@[simp] theorem ty_in : tyV μ .int .non = some false := rfl
@[simp] theorem ty_bb : tyV μ .bool (.bl b) = some true := rfl
@[simp] theorem ty_bi : tyV μ .bool (.int i) = some false := rfl
@[simp] theorem ty_bn : tyV μ .bool .non = some false := rfl
@[simp] theorem bi_int : biV μ .int [.bl b] = some (.int (if b = true then 1 else 0)) := rfl
@[simp] theorem bi_str : biV μ .str [.int i] = if i.natAbs.log2 < 1920 then some (.str (strI i)) else none := rfl
@[simp] theorem bi_abs : biV μ .abs [.int i] = some (.int i.natAbs) := rfl
@[simp] theorem bi_lenL : biV μ .len [.lst l] = some (.int l.length) := rfl
@[simp] theorem bi_lenT : biV μ .len [.tup l] = some (.int l.length) := rfl
@[simp] theorem bi_lenD : biV μ .len [.dct l] = some (.int l.length) := rfl
theorem bi_lenR (h : μ p = some (.lst l)) : biV μ .len [.ref p] = some (.int l.length) := by show lenF μ [.ref p] = _; simp only [lenF, ct_ref, h]
@[simp] theorem bi_listL : biV μ .list [.lst l] = some (.lst l) := rfl
@[simp] theorem bi_listT : biV μ .list [.tup l] = some (.lst l) := rfl
@[simp] theorem bi_tupL : biV μ .tuple [.lst l] = some (.tup l) := rfl
@[simp] theorem bi_tupT : biV μ .tuple [.tup l] = some (.tup l) := rfl
theorem bi_tupR (h : μ p = some (.lst l)) : biV μ .tuple [.ref p] = some (.tup l) := by show tupleF μ [.ref p] = _; simp only [tupleF, ct_ref, h]
theorem ok_append (h : μ p = some (.lst l)) : meOk μ .append (.ref p) = true := by show isLst μ (.ref p) = true; simp only [isLst, ct_ref, h]
theorem ok_pop (h : μ p = some (.lst l)) : meOk μ .pop (.ref p) = true := ok_append h
theorem ok_extend (h : μ p = some (.lst l)) : meOk μ .extend (.ref p) = true := ok_append h
@[simp] theorem ok_getD : meOk μ .get (.dct l) = true := rfl
theorem me_append (h : μ p = some (.lst l)) : meV μ .append (.ref p) [v] = if l.length < big then some (.non, μ.set p (.lst (l ++ [v]))) else none := by show appendF μ (.ref p) [v] = _; simp only [appendF, h]
theorem set_lst {n : Nat} (h : μ p = some (.lst l)) (hn : ixN l.length k = some n) : setV μ (.ref p) (.int k) v = some (μ.set p (.lst (l.set n v))) := by simp [setV, h, hn]
theorem set_dct (h : μ p = some (.dct l)) (hk : isKey w = true) (hl : l.length < big) : setV μ (.ref p) w v = some (μ.set p (.dct (dPut w v l))) := by simp [setV, h, hk, hl]
@[simp] theorem key_int : isKey (.int i) = true := rfl
@[simp] theorem key_str : isKey (.str s) = true := rfl
@[simp] theorem in_tup1 {a : Str} : inV μ (.str s) (.tup [.str a]) = some (a == s || false) := rfl
@[simp] theorem in_tup2 {a b : Str} : inV μ (.str s) (.tup [.str a, .str b]) = some (a == s || (b == s || false)) := rfl
@[simp] theorem bi_max : biV μ .max [.int i, .int j] = some (.int (if j > i then j else i)) := rfl
@[simp] theorem bi_min : biV μ .min [.int i, .int j] = some (.int (if j < i then j else i)) := rfl
theorem me_extend (h : μ p = some (.lst l)) (h' : content μ v = some (.lst r)) : meV μ .extend (.ref p) [v] = if l.length + r.length ≤ big then some (.non, μ.set p (.lst (l ++ r))) else none := by
  show extendF μ (.ref p) [v] = _
  simp only [extendF, h, seqOf, h', Option.bind_some]
@[simp] theorem bi_revL : biV μ .rev [.lst l] = some (.lst l.reverse) := rfl
@[simp] theorem bi_revT : biV μ .rev [.tup l] = some (.tup l.reverse) := rfl
@[simp] theorem oi_nil : optInt [] = some none := rfl
@[simp] theorem oi_int : optInt [.int i] = some (some i) := rfl
@[simp] theorem slc_lst {x y : Option Int} : slC (.lst l) x y = some (.lst (cutL l x y)) := rfl
@[simp] theorem slc_tup {x y : Option Int} : slC (.tup l) x y = some (.tup (cutL l x y)) := rfl
@[simp] theorem slc_str {x y : Option Int} : slC (.str s) x y = if s.length ≤ big then some (.str ⟨(cutL s.cps.toList x y).toArray⟩) else none := rfl
@[simp] theorem cont_lst : isCont (.lst l) = true := rfl
@[simp] theorem cont_dct : isCont (.dct l) = true := rfl
@[simp] theorem cmul_l (h : -(2 ^ 64) < i) (h' : i < 2 ^ 64) : CMul i j := .inl ⟨h, h'⟩
theorem cmul_r (h : -(2 ^ 64) < j) (h' : j < 2 ^ 64) : CMul i j := .inr ⟨h, h'⟩
end
end Mi
/-! D: the defs as terms of the language. -/
namespace Mi.D
open PySem (Str)
open Mi
def joined_worth : Fn := ⟨3, 3, (.seq (.ite (.eq .eq (.v 0) (.c (.str (Str.ofString "plus"))))
  (.ret (.bin .mod (.bin .add (.v 1) (.v 2)) (.c (.int 1000000))))
  .skip)
  (.seq (.ite (.eq .eq (.v 0) (.c (.str (Str.ofString "less"))))
  (.ret (.bin .mod (.bin .sub (.v 1) (.v 2)) (.c (.int 1000000))))
  .skip)
  (.seq (.ite (.eq .eq (.v 0) (.c (.str (Str.ofString "times"))))
  (.ret (.bin .mod (.bin .mul (.v 1) (.v 2)) (.c (.int 1000000))))
  .skip)
  (.seq (.ite (.eq .eq (.v 0) (.c (.str (Str.ofString "under"))))
  (.ret (.bi .int (.cons (.cmp .lt (.v 1) (.v 2)) .nil)))
  .skip)
  (.seq (.ite (.eq .eq (.v 0) (.c (.str (Str.ofString "same"))))
  (.ret (.bi .int (.cons (.eq .eq (.v 1) (.v 2)) .nil)))
  .skip)
  (.seq (.ite (.eq .eq (.v 2) (.c (.int 0)))
  (.raise "Broken")
  .skip)
  (.seq (.ite (.eq .eq (.v 0) (.c (.str (Str.ofString "over"))))
  (.ret (.bin .fdiv (.v 1) (.v 2)))
  .skip)
  (.ret (.bin .mod (.v 1) (.v 2))))))))))⟩
def worth_of : Fn := ⟨2, 3, (.seq (.ite (.eq .eq (.ix (.v 0) (.c (.int 0))) (.c (.str (Str.ofString "number"))))
  (.ret (.ix (.v 0) (.c (.int 1))))
  .skip)
  (.seq (.ite (.eq .eq (.ix (.v 0) (.c (.int 0))) (.c (.str (Str.ofString "name"))))
  (.ret (.me .get (.v 1) (.cons (.ix (.v 0) (.c (.int 1))) (.cons (.c (.int 0)) .nil))))
  .skip)
  (.seq (.asg 2 (.call "worth_of" .val (.cons (.ix (.v 0) (.c (.int 1))) (.cons (.v 1) .nil))))
  (.ret (.call "joined_worth" .val (.cons (.ix (.v 0) (.c (.int 0))) (.cons (.v 2) (.cons (.call "worth_of" .val (.cons (.ix (.v 0) (.c (.int 2))) (.cons (.v 1) .nil))) .nil))))))))⟩
def _law_pot : Fn := ⟨2, 5, (.seq (.asg 2 (.bin .mod (.bin .add (.v 0) (.bin .mul (.c (.int 7919)) (.bin .add (.v 1) (.c (.int 1))))) (.c (.int 2147483647))))
  (.seq (.asg 3 (.new (.lst (.cons (.c (.int 0)) .nil))))
  (.seq (.forS (.n 4) (.range (.c (.int 24)))
  (.seq (.asg 2 (.bin .mod (.bin .add (.bin .add (.bin .add (.bin .mul (.v 2) (.v 2)) (.bin .mul (.c (.int 48271)) (.v 2))) (.bin .mul (.c (.int 3)) (.v 4))) (.v 1)) (.c (.int 2147483629))))
  (.setix (.v 3) (.c (.int 0)) (.bin .add (.bin .mul (.ix (.v 3) (.c (.int 0))) (.c (.int 2147483629))) (.v 2)))))
  (.seq (.ite (.cmp .ge (.v 0) (.bin .pow (.c (.int 10)) (.c (.int 18))))
  (.ex (.me .append (.v 3) (.cons (.v 0) .nil)))
  .skip)
  (.ret (.v 3))))))⟩
def _law_take : Fn := ⟨2, 3, (.seq (.asg 2 (.bin .mod (.ix (.v 0) (.neg (.c (.int 1)))) (.v 1)))
  (.seq (.setix (.v 0) (.neg (.c (.int 1))) (.bin .fdiv (.ix (.v 0) (.neg (.c (.int 1)))) (.v 1)))
  (.seq (.ite (.and (.eq .eq (.ix (.v 0) (.neg (.c (.int 1)))) (.c (.int 0))) (.cmp .gt (.bi .len (.cons (.v 0) .nil)) (.c (.int 1))))
  (.ex (.me .pop (.v 0) .nil))
  .skip)
  (.ret (.v 2)))))⟩
def _law_value : Fn := ⟨1, 1, (.seq (.ite (.eq .eq (.call "_law_take" .val (.cons (.v 0) (.cons (.c (.int 2)) .nil))) (.c (.int 0)))
  (.ret (.call "_law_take" .val (.cons (.v 0) (.cons (.c (.int 5)) .nil))))
  .skip)
  (.ret (.call "_law_take" .val (.cons (.v 0) (.cons (.bin .pow (.c (.int 10)) (.c (.int 6))) .nil)))))⟩
def _law_drawn : Fn := ⟨3, 5, (.seq (.asg 3 (.call "_law_take" .val (.cons (.v 0) (.cons (.c (.int 12)) .nil))))
  (.seq (.ite (.or (.eq .eq (.v 2) (.c (.int 1))) (.cmp .lt (.v 3) (.c (.int 4))))
  (.seq (.ite (.and (.eq .eq (.bin .mod (.v 3) (.c (.int 2))) (.c (.int 0))) (.eq .ne (.v 1) (.lst .nil)))
  (.ret (.tup (.cons (.c (.str (Str.ofString "name"))) (.cons (.ix (.v 1) (.call "_law_take" .val (.cons (.v 0) (.cons (.bi .len (.cons (.v 1) .nil)) .nil)))) .nil))))
  .skip)
  (.ret (.tup (.cons (.c (.str (Str.ofString "number"))) (.cons (.call "_law_value" .val (.cons (.v 0) .nil)) .nil)))))
  .skip)
  (.seq (.asg 4 (.ix (.lst (.cons (.c (.str (Str.ofString "plus"))) (.cons (.c (.str (Str.ofString "less"))) (.cons (.c (.str (Str.ofString "times"))) (.cons (.c (.str (Str.ofString "over"))) (.cons (.c (.str (Str.ofString "rest"))) (.cons (.c (.str (Str.ofString "under"))) (.cons (.c (.str (Str.ofString "same"))) .nil)))))))) (.call "_law_take" .val (.cons (.v 0) (.cons (.c (.int 7)) .nil)))))
  (.ret (.tup (.cons (.v 4) (.cons (.call "_law_drawn" .val (.cons (.v 0) (.cons (.v 1) (.cons (.bin .sub (.v 2) (.c (.int 1))) .nil)))) (.cons (.call "_law_drawn" .val (.cons (.v 0) (.cons (.v 1) (.cons (.bin .sub (.v 2) (.c (.int 1))) .nil)))) .nil))))))))⟩
def _law_numbered : Fn := ⟨2, 4, (.seq (.asg 2 (.new (.bi .list (.cons (.v 1) .nil))))
  (.seq (.forS (.n 3) (.e (.v 1))
  (.ite (.eq .eq (.call "_law_take" .val (.cons (.v 0) (.cons (.c (.int 3)) .nil))) (.c (.int 0)))
  (.ex (.me .append (.v 2) (.cons (.bin .add (.bin .add (.v 3) (.c (.str (Str.ofString ".")))) (.bi .str (.cons (.bin .add (.c (.int 1)) (.call "_law_take" .val (.cons (.v 0) (.cons (.ix (.lst (.cons (.c (.int 9)) (.cons (.c (.int 100)) (.cons (.bin .pow (.c (.int 10)) (.c (.int 9))) .nil)))) (.call "_law_take" .val (.cons (.v 0) (.cons (.c (.int 3)) .nil)))) .nil)))) .nil))) .nil)))
  .skip))
  (.ret (.v 2))))⟩
def _law_names : Fn := ⟨2, 6, (.seq (.asg 2 (.new (.lst .nil)))
  (.seq (.forS (.n 3) (.range (.v 1))
  (.seq (.asg 4 (.ix (.c (.str (Str.ofString "abcdefghijklmnopqrstuvwxyz"))) (.call "_law_take" .val (.cons (.v 0) (.cons (.c (.int 26)) .nil)))))
  (.seq (.asg 5 (.sl (.bin .add (.bin .mul (.v 4) (.bin .add (.c (.int 1)) (.call "_law_take" .val (.cons (.v 0) (.cons (.c (.int 3)) .nil))))) (.ix (.lst (.cons (.c (.str (Str.ofString ""))) (.cons (.c (.str (Str.ofString "a"))) (.cons (.c (.str (Str.ofString "z"))) .nil)))) (.call "_law_take" .val (.cons (.v 0) (.cons (.c (.int 3)) .nil))))) .nil (.cons (.c (.int 4)) .nil)))
  (.ite (.isin .notin (.v 5) (.v 2))
  (.ex (.me .append (.v 2) (.cons (.v 5) .nil)))
  .skip))))
  (.ret (.v 2))))⟩
def _law_joined : Fn := ⟨3, 3, (.seq (.ite (.eq .eq (.v 0) (.c (.str (Str.ofString "plus"))))
  (.ret (.bin .mod (.bin .add (.v 1) (.v 2)) (.c (.int 1000000))))
  .skip)
  (.seq (.ite (.eq .eq (.v 0) (.c (.str (Str.ofString "less"))))
  (.ret (.bin .mod (.bin .sub (.v 1) (.v 2)) (.c (.int 1000000))))
  .skip)
  (.seq (.ite (.eq .eq (.v 0) (.c (.str (Str.ofString "times"))))
  (.ret (.bin .mod (.bin .mul (.v 1) (.v 2)) (.c (.int 1000000))))
  .skip)
  (.seq (.ite (.eq .eq (.v 0) (.c (.str (Str.ofString "under"))))
  (.ret (.bi .int (.cons (.cmp .lt (.v 1) (.v 2)) .nil)))
  .skip)
  (.seq (.ite (.eq .eq (.v 0) (.c (.str (Str.ofString "same"))))
  (.ret (.bi .int (.cons (.eq .eq (.v 1) (.v 2)) .nil)))
  .skip)
  (.seq (.ite (.eq .eq (.v 2) (.c (.int 0)))
  (.ret (.c .non))
  .skip)
  (.ret (.ix (.lst (.cons (.bin .fdiv (.v 1) (.v 2)) (.cons (.bin .mod (.v 1) (.v 2)) .nil))) (.bi .int (.cons (.eq .eq (.v 0) (.c (.str (Str.ofString "rest")))) .nil))))))))))⟩
def _law_worth : Fn := ⟨2, 4, (.seq (.ite (.eq .eq (.ix (.v 0) (.c (.int 0))) (.c (.str (Str.ofString "number"))))
  (.ret (.ix (.v 0) (.c (.int 1))))
  .skip)
  (.seq (.ite (.eq .eq (.ix (.v 0) (.c (.int 0))) (.c (.str (Str.ofString "name"))))
  (.ret (.me .get (.v 1) (.cons (.ix (.v 0) (.c (.int 1))) (.cons (.c (.int 0)) .nil))))
  .skip)
  (.seq (.asg 2 (.call "_law_worth" .val (.cons (.ix (.v 0) (.c (.int 1))) (.cons (.v 1) .nil))))
  (.seq (.ite (.isN false (.v 2))
  (.ret (.c .non))
  .skip)
  (.seq (.asg 3 (.call "_law_worth" .val (.cons (.ix (.v 0) (.c (.int 2))) (.cons (.v 1) .nil))))
  (.seq (.ite (.isN false (.v 3))
  (.ret (.c .non))
  .skip)
  (.ret (.call "_law_joined" .val (.cons (.ix (.v 0) (.c (.int 0))) (.cons (.v 2) (.cons (.v 3) .nil)))))))))))⟩
def _law_same : Fn := ⟨2, 2, (.seq (.ite (.isN false (.v 1))
  (.ret (.isN false (.v 0)))
  .skip)
  (.ret (.and (.isT (.v 0) .int) (.and (.not (.isT (.v 0) .bool)) (.eq .eq (.v 0) (.v 1))))))⟩
def _law_told : Fn := ⟨2, 3, (.seq (.asg 2 (.c .non))
  (.seq (.tryS (.asg 2 (.call "worth_of" .val (.cons (.v 0) (.cons (.v 1) .nil)))) ["Broken"] none
  (.asg 2 (.c .non)))
  (.ret (.v 2))))⟩
def names_in : Fn := ⟨1, 1, (.seq (.ite (.eq .eq (.ix (.v 0) (.c (.int 0))) (.c (.str (Str.ofString "number"))))
  (.ret (.new (.lst .nil)))
  .skip)
  (.seq (.ite (.eq .eq (.ix (.v 0) (.c (.int 0))) (.c (.str (Str.ofString "name"))))
  (.ret (.new (.lst (.cons (.ix (.v 0) (.c (.int 1))) .nil))))
  .skip)
  (.ret (.new (.bin .add (.call "names_in" .val (.cons (.ix (.v 0) (.c (.int 1))) .nil)) (.call "names_in" .val (.cons (.ix (.v 0) (.c (.int 2))) .nil)))))))⟩
def depth_of : Fn := ⟨1, 1, (.seq (.ite (.isin .isin (.ix (.v 0) (.c (.int 0))) (.tup (.cons (.c (.str (Str.ofString "number"))) (.cons (.c (.str (Str.ofString "name"))) .nil))))
  (.ret (.c (.int 1)))
  .skip)
  (.ret (.bin .add (.c (.int 1)) (.bi .max (.cons (.call "depth_of" .val (.cons (.ix (.v 0) (.c (.int 1))) .nil)) (.cons (.call "depth_of" .val (.cons (.ix (.v 0) (.c (.int 2))) .nil)) .nil))))))⟩
def _law_read : Fn := ⟨1, 6, (.seq (.asg 1 (.new (.lst (.cons (.tup (.cons (.v 0) (.cons (.c (.int 1)) .nil))) .nil))))
  (.seq (.asg 2 (.new (.lst .nil)))
  (.seq (.asg 3 (.c (.int 1)))
  (.seq (.whileS (.eq .ne (.v 1) (.lst .nil))
  (.seq (.asgT (.t [(.n 4), (.n 5)]) (.me .pop (.v 1) .nil))
  (.seq (.asg 3 (.bi .max (.cons (.v 3) (.cons (.v 5) .nil))))
  (.ite (.eq .eq (.ix (.v 4) (.c (.int 0))) (.c (.str (Str.ofString "name"))))
  (.ex (.me .append (.v 2) (.cons (.ix (.v 4) (.c (.int 1))) .nil)))
  (.ite (.eq .ne (.ix (.v 4) (.c (.int 0))) (.c (.str (Str.ofString "number"))))
  (.ex (.me .extend (.v 1) (.cons (.lst (.cons (.tup (.cons (.ix (.v 4) (.c (.int 2))) (.cons (.bin .add (.v 5) (.c (.int 1))) .nil))) (.cons (.tup (.cons (.ix (.v 4) (.c (.int 1))) (.cons (.bin .add (.v 5) (.c (.int 1))) .nil))) .nil))) .nil)))
  .skip)))))
  (.ret (.tup (.cons (.v 2) (.cons (.v 3) .nil))))))))⟩
def rows_within : Fn := ⟨1, 1, (.seq (.ite (.eq .eq (.ix (.v 0) (.c (.int 0))) (.c (.str (Str.ofString "when"))))
  (.ret (.bin .add (.ix (.v 0) (.c (.int 2))) (.ix (.v 0) (.c (.int 3)))))
  .skip)
  (.seq (.ite (.eq .eq (.ix (.v 0) (.c (.int 0))) (.c (.str (Str.ofString "turn"))))
  (.ret (.ix (.v 0) (.c (.int 2))))
  .skip)
  (.ret (.tup .nil))))⟩
def read_through : Fn := ⟨1, 3, (.seq (.asg 1 (.new (.lst .nil)))
  (.seq (.forS (.n 2) (.e (.v 0))
  (.seq (.ex (.me .append (.v 1) (.cons (.v 2) .nil)))
  (.ex (.me .extend (.v 1) (.cons (.call "read_through" .val (.cons (.call "rows_within" .val (.cons (.v 2) .nil)) .nil)) .nil)))))
  (.ret (.v 1))))⟩
def rows_of : Fn := ⟨1, 1, (.ret (.call "read_through" .val (.cons (.ix (.v 0) (.c (.int 2))) .nil)))⟩
def deed_of : Fn := ⟨2, 3, (.seq (.forS (.n 2) (.e (.v 0))
  (.ite (.eq .eq (.ix (.v 2) (.c (.int 0))) (.v 1))
  (.ret (.v 2))
  .skip))
  (.raise "NoDeed"))⟩
def look_at_names : Fn := ⟨1, 6, (.seq (.asg 1 (.new (.lst .nil)))
  (.forS (.t [(.n 2), (.n 3), (.n 4), (.n 5)]) (.e (.v 0))
  (.seq (.ite (.or (.isin .isin (.v 2) (.v 1)) (.cmp .lt (.bi .setlen (.cons (.v 3) .nil)) (.bi .len (.cons (.v 3) .nil))))
  (.raise "Twice")
  .skip)
  (.ex (.me .append (.v 1) (.cons (.v 2) .nil))))))⟩
def look_at_call : Fn := ⟨3, 3, (.seq (.ite (.eq .ne (.bi .len (.cons (.ix (.v 1) (.c (.int 3))) .nil)) (.bi .len (.cons (.ix (.call "deed_of" .val (.cons (.v 0) (.cons (.ix (.v 1) (.c (.int 2))) .nil))) (.c (.int 1))) .nil)))
  (.raise "WrongCount")
  .skip)
  (.ite (.isin .isin (.ix (.v 1) (.c (.int 4))) (.v 2))
  (.raise "Twice")
  .skip))⟩
def made_book : Fn := ⟨1, 4, (.seq (.ex (.call "look_at_names" .val (.cons (.v 0) .nil)))
  (.seq (.asg 1 (.new (.lst .nil)))
  (.seq (.forS (.n 2) (.e (.v 0))
  (.forS (.n 3) (.e (.call "rows_of" .val (.cons (.v 2) .nil)))
  (.ite (.eq .eq (.ix (.v 3) (.c (.int 0))) (.c (.str (Str.ofString "call"))))
  (.seq (.ex (.call "look_at_call" .val (.cons (.v 0) (.cons (.v 3) (.cons (.v 1) .nil)))))
  (.ex (.me .append (.v 1) (.cons (.ix (.v 3) (.c (.int 4))) .nil))))
  .skip)))
  (.ret (.bi .tuple (.cons (.v 0) .nil))))))⟩
def _law_folded : Fn := ⟨2, 5, (.seq (.asg 2 (.new (.bin .mul (.lst (.cons (.c (.int 0)) .nil)) (.v 1))))
  (.seq (.forS (.t [(.n 3), (.n 4)]) (.enum (.sl (.v 0) .nil (.cons (.c (.int 63)) .nil)))
  (.setix (.v 2) (.bin .mod (.v 3) (.v 1)) (.bin .add (.bin .mul (.ix (.v 2) (.bin .mod (.v 3) (.v 1))) (.c (.int 31))) (.v 4))))
  (.ret (.v 2))))⟩
def _law_deed_words : Fn := ⟨2, 6, (.seq (.asg 2 (.call "_law_take" .val (.cons (.v 0) (.cons (.c (.int 26)) .nil))))
  (.seq (.ite (.eq .eq (.call "_law_take" .val (.cons (.v 0) (.cons (.c (.int 2)) .nil))) (.c (.int 0)))
  (.seq (.asg 3 (.comp (.bin .mul (.ix (.c (.str (Str.ofString "abcdefghijklmnopqrstuvwxyz"))) (.v 2)) (.bin .add (.c (.int 1)) (.v 5))) (.n 5) [5] (.range (.v 1)) (.c (.bl true))))
  (.ret (.ix (.lst (.cons (.v 3) (.cons (.bi .rev (.cons (.v 3) .nil)) .nil))) (.call "_law_take" .val (.cons (.v 0) (.cons (.c (.int 2)) .nil))))))
  .skip)
  (.seq (.asg 4 (.ix (.lst (.cons (.c (.str (Str.ofString ""))) (.cons (.c (.str (Str.ofString "x"))) (.cons (.c (.str (Str.ofString "deed"))) (.cons (.c (.str (Str.ofString "seventh"))) .nil))))) (.call "_law_take" .val (.cons (.v 0) (.cons (.c (.int 4)) .nil)))))
  (.ret (.comp (.bin .add (.ix (.c (.str (Str.ofString "abcdefghijklmnopqrstuvwxyz"))) (.bin .mod (.bin .add (.v 2) (.bin .mul (.c (.int 5)) (.v 5))) (.c (.int 26)))) (.v 4)) (.n 5) [5] (.range (.v 1)) (.c (.bl true)))))))⟩
def _law_heads : Fn := ⟨3, 8, (.seq (.asg 3 (.new (.lst .nil)))
  (.seq (.forS (.n 4) (.e (.call "_law_deed_words" .val (.cons (.v 0) (.cons (.v 2) .nil))))
  (.seq (.asg 5 (.new (.bi .list (.cons (.v 1) .nil))))
  (.seq (.asg 6 (.new (.lst .nil)))
  (.seq (.forS (.n 7) (.range (.bi .min (.cons (.bi .len (.cons (.v 1) .nil)) (.cons (.call "_law_take" .val (.cons (.v 0) (.cons (.c (.int 5)) .nil))) .nil))))
  (.ex (.me .append (.v 6) (.cons (.me .pop (.v 5) (.cons (.call "_law_take" .val (.cons (.v 0) (.cons (.bi .len (.cons (.v 5) .nil)) .nil))) .nil)) .nil))))
  (.ex (.me .append (.v 3) (.cons (.tup (.cons (.v 4) (.cons (.bi .tuple (.cons (.v 6) .nil)) .nil))) .nil)))))))
  (.ret (.v 3))))⟩
def rows_of_v2 : Fn := ⟨1, 1, (.ret (.call "read_through" .obj (.cons (.ix (.v 0) (.c (.int 2))) .nil)))⟩
def calls_of_v2 : Fn := ⟨1, 2, (.ret (.comp (.tup (.cons (.ix (.v 1) (.c (.int 4))) (.cons (.ix (.v 1) (.c (.int 2))) .nil))) (.n 1) [1] (.e (.call "rows_of" .val (.cons (.v 0) .nil))) (.eq .eq (.ix (.v 1) (.c (.int 0))) (.c (.str (Str.ofString "call"))))))⟩
def names_in_v2 : Fn := ⟨1, 1, (.seq (.ite (.eq .eq (.ix (.v 0) (.c (.int 0))) (.c (.str (Str.ofString "number"))))
  (.ret (.lst .nil))
  .skip)
  (.seq (.ite (.eq .eq (.ix (.v 0) (.c (.int 0))) (.c (.str (Str.ofString "name"))))
  (.ret (.lst (.cons (.ix (.v 0) (.c (.int 1))) .nil)))
  .skip)
  (.ret (.bin .add (.call "names_in" .val (.cons (.ix (.v 0) (.c (.int 1))) .nil)) (.call "names_in" .val (.cons (.ix (.v 0) (.c (.int 2))) .nil))))))⟩
def expressions_of : Fn := ⟨1, 1, (.seq (.ite (.eq .eq (.ix (.v 0) (.c (.int 0))) (.c (.str (Str.ofString "set"))))
  (.ret (.lst (.cons (.ix (.v 0) (.c (.int 2))) .nil)))
  .skip)
  (.seq (.ite (.eq .eq (.ix (.v 0) (.c (.int 0))) (.c (.str (Str.ofString "call"))))
  (.ret (.bi .list (.cons (.ix (.v 0) (.c (.int 3))) .nil)))
  .skip)
  (.ret (.lst (.cons (.ix (.v 0) (.c (.int 1))) .nil)))))⟩
def row_names : Fn := ⟨1, 3, (.seq (.asg 1 (.new (.lst .nil)))
  (.seq (.forS (.n 2) (.e (.call "expressions_of" .val (.cons (.v 0) .nil)))
  (.ex (.me .extend (.v 1) (.cons (.call "names_in" .val (.cons (.v 2) .nil)) .nil))))
  (.seq (.ite (.isin .isin (.ix (.v 0) (.c (.int 0))) (.tup (.cons (.c (.str (Str.ofString "set"))) (.cons (.c (.str (Str.ofString "call"))) .nil))))
  (.ex (.me .append (.v 1) (.cons (.ix (.v 0) (.c (.int 1))) .nil)))
  .skip)
  (.ret (.v 1)))))⟩
def deed_names : Fn := ⟨1, 3, (.seq (.asg 1 (.new (.lst .nil)))
  (.seq (.forS (.n 2) (.e (.call "rows_of" .val (.cons (.v 0) .nil)))
  (.ex (.me .extend (.v 1) (.cons (.call "row_names" .val (.cons (.v 2) .nil)) .nil))))
  (.ret (.bin .add (.v 1) (.call "names_in" .val (.cons (.ix (.v 0) (.c (.int 3))) .nil))))))⟩
def _law_cell_at : Fn := ⟨2, 3, (.seq (.ite (.cmp .lt (.v 1) (.bi .len (.cons (.v 0) .nil)))
  (.ret (.ix (.v 0) (.v 1)))
  .skip)
  (.seq (.asg 2 (.c (.int 0)))
  (.seq (.ite (.eq .ne (.v 0) (.lst .nil))
  (.asg 2 (.bin .mod (.ix (.v 0) (.bin .mod (.v 1) (.bi .len (.cons (.v 0) .nil)))) (.c (.int 1000003))))
  .skip)
  (.ret (.bin .add (.bin .add (.v 2) (.bin .mul (.c (.int 104729)) (.v 1))) (.c (.int 13)))))))⟩
def _law_folded_v2 : Fn := ⟨2, 5, (.seq (.asg 2 (.new (.comp (.call "_law_cell_at" .val (.cons (.v 0) (.cons (.v 3) .nil))) (.n 3) [3] (.range (.v 1)) (.c (.bl true)))))
  (.seq (.forS (.n 3) (.range2 (.v 1) (.bi .len (.cons (.v 0) .nil)))
  (.seq (.asg 4 (.bin .mod (.v 3) (.v 1)))
  (.setix (.v 2) (.v 4) (.bin .mod (.bin .add (.bin .mul (.bin .mod (.ix (.v 2) (.v 4)) (.bin .pow (.c (.int 10)) (.c (.int 60)))) (.c (.int 48271))) (.ix (.v 0) (.v 3))) (.bin .add (.bin .pow (.c (.int 10)) (.c (.int 60))) (.c (.int 7)))))))
  (.ret (.v 2))))⟩
def _law_state : Fn := ⟨1, 2, (.seq (.asg 1 (.c (.int 0)))
  (.seq (.ite (.cmp .ge (.v 0) (.bin .pow (.c (.int 10)) (.c (.int 18))))
  (.asg 1 (.v 0))
  .skip)
  (.ret (.new (.lst (.cons (.v 1) (.cons (.bin .mod (.bin .mul (.bin .add (.bin .mod (.v 0) (.c (.int 2147483629))) (.c (.int 11))) (.c (.int 48271))) (.c (.int 2147483647))) .nil)))))))⟩
def _law_next : Fn := ⟨2, 3, (.seq (.ite (.cmp .gt (.ix (.v 0) (.c (.int 0))) (.c (.int 0)))
  (.seq (.asg 2 (.bin .mod (.ix (.v 0) (.c (.int 0))) (.v 1)))
  (.seq (.setix (.v 0) (.c (.int 0)) (.bin .fdiv (.ix (.v 0) (.c (.int 0))) (.v 1)))
  (.ret (.v 2))))
  .skip)
  (.seq (.setix (.v 0) (.c (.int 1)) (.bin .mod (.bin .add (.bin .mul (.ix (.v 0) (.c (.int 1))) (.c (.int 69621))) (.c (.int 40692))) (.c (.int 2147483647))))
  (.ret (.bin .mod (.bin .fdiv (.bin .mod (.bin .mul (.ix (.v 0) (.c (.int 1))) (.ix (.v 0) (.c (.int 1)))) (.c (.int 2147483629))) (.c (.int 8))) (.v 1)))))⟩
def _law_variable : Fn := ⟨1, 1, (.ret (.ix (.lst (.cons (.c (.str (Str.ofString "x"))) (.cons (.c (.str (Str.ofString "y"))) (.cons (.c (.str (Str.ofString "ab"))) (.cons (.c (.str (Str.ofString "z"))) .nil))))) (.call "_law_next" .val (.cons (.v 0) (.cons (.c (.int 4)) .nil)))))⟩
def _law_expression : Fn := ⟨2, 6, (.seq (.asg 2 (.call "_law_next" .val (.cons (.v 0) (.cons (.c (.int 6)) .nil))))
  (.seq (.ite (.and (.cmp .gt (.v 2) (.c (.int 2))) (.cmp .lt (.v 1) (.c (.int 2))))
  (.seq (.asg 3 (.ix (.lst (.cons (.c (.str (Str.ofString "plus"))) (.cons (.c (.str (Str.ofString "less"))) (.cons (.c (.str (Str.ofString "times"))) (.cons (.c (.str (Str.ofString "over"))) (.cons (.c (.str (Str.ofString "rest"))) (.cons (.c (.str (Str.ofString "under"))) (.cons (.c (.str (Str.ofString "same"))) .nil)))))))) (.call "_law_next" .val (.cons (.v 0) (.cons (.c (.int 7)) .nil)))))
  (.seq (.asg 4 (.call "_law_expression" .val (.cons (.v 0) (.cons (.bin .add (.v 1) (.c (.int 1))) .nil))))
  (.ret (.tup (.cons (.v 3) (.cons (.v 4) (.cons (.call "_law_expression" .val (.cons (.v 0) (.cons (.bin .add (.v 1) (.c (.int 1))) .nil))) .nil)))))))
  .skip)
  (.seq (.ite (.or (.eq .eq (.v 2) (.c (.int 0))) (.eq .eq (.v 2) (.c (.int 5))))
  (.seq (.asg 5 (.call "_law_next" .val (.cons (.v 0) (.cons (.c (.int 5)) .nil))))
  (.seq (.ite (.eq .eq (.v 5) (.c (.int 4)))
  (.ret (.tup (.cons (.c (.str (Str.ofString "number"))) (.cons (.call "_law_next" .val (.cons (.v 0) (.cons (.c (.int 1000000)) .nil))) .nil))))
  .skip)
  (.ret (.tup (.cons (.c (.str (Str.ofString "number"))) (.cons (.ix (.lst (.cons (.c (.int 0)) (.cons (.c (.int 1)) (.cons (.c (.int 2)) (.cons (.c (.int 10)) .nil))))) (.v 5)) .nil))))))
  .skip)
  (.ret (.tup (.cons (.c (.str (Str.ofString "name"))) (.cons (.call "_law_variable" .val (.cons (.v 0) .nil)) .nil)))))))⟩
def _law_heads_v2 : Fn := ⟨2, 9, (.seq (.asg 2 (.ix (.c (.str (Str.ofString "abcdefgh"))) (.call "_law_next" .val (.cons (.v 0) (.cons (.c (.int 8)) .nil)))))
  (.seq (.asg 3 (.call "_law_next" .val (.cons (.v 0) (.cons (.c (.int 5)) .nil))))
  (.seq (.asg 4 (.new (.lst .nil)))
  (.seq (.forS (.n 5) (.range (.v 1))
  (.seq (.asg 6 (.lst (.cons (.c (.str (Str.ofString "x"))) (.cons (.c (.str (Str.ofString "y"))) (.cons (.c (.str (Str.ofString "ab"))) (.cons (.c (.str (Str.ofString "z"))) .nil))))))
  (.seq (.asg 7 (.call "_law_next" .val (.cons (.v 0) (.cons (.c (.int 4)) .nil))))
  (.seq (.asg 8 (.sl (.bin .add (.sl (.v 6) (.cons (.v 7) .nil) .nil) (.sl (.v 6) .nil (.cons (.v 7) .nil))) .nil (.cons (.ix (.lst (.cons (.c (.int 0)) (.cons (.c (.int 1)) (.cons (.c (.int 4)) (.cons (.c (.int 2)) (.cons (.c (.int 3)) .nil)))))) (.call "_law_next" .val (.cons (.v 0) (.cons (.c (.int 5)) .nil)))) .nil)))
  (.ex (.me .append (.v 4) (.cons (.tup (.cons (.bin .mul (.v 2) (.bin .add (.c (.int 1)) (.bin .mod (.bin .add (.bin .mul (.c (.int 3)) (.v 5)) (.v 3)) (.c (.int 5))))) (.cons (.bi .tuple (.cons (.v 8) .nil)) .nil))) .nil)))))))
  (.ret (.v 4))))))⟩
def _law_call_v2 : Fn := ⟨3, 8, (.seq (.asg 3 (.ix (.lst (.cons (.bin .add (.v 2) (.c (.int 1))) (.cons (.ix (.v 1) (.c (.str (Str.ofString "low")))) .nil))) (.ix (.v 1) (.c (.str (Str.ofString "rings"))))))
  (.seq (.ite (.or (.eq .eq (.ix (.v 1) (.c (.str (Str.ofString "left")))) (.c (.int 0))) (.cmp .ge (.v 3) (.bi .len (.cons (.ix (.v 1) (.c (.str (Str.ofString "heads")))) .nil))))
  (.ret (.tup (.cons (.c (.str (Str.ofString "set"))) (.cons (.call "_law_variable" .val (.cons (.v 0) .nil)) (.cons (.call "_law_expression" .val (.cons (.v 0) (.cons (.c (.int 0)) .nil))) .nil)))))
  .skip)
  (.seq (.setix (.v 1) (.c (.str (Str.ofString "left"))) (.bin .sub (.ix (.v 1) (.c (.str (Str.ofString "left")))) (.c (.int 1))))
  (.seq (.asgT (.t [(.n 4), (.n 5)]) (.ix (.ix (.v 1) (.c (.str (Str.ofString "heads")))) (.bin .add (.v 3) (.call "_law_next" .val (.cons (.v 0) (.cons (.bin .sub (.bi .len (.cons (.ix (.v 1) (.c (.str (Str.ofString "heads")))) .nil)) (.v 3)) .nil))))))
  (.seq (.asg 6 (.bi .tuple (.cons (.comp (.call "_law_expression" .val (.cons (.v 0) (.cons (.c (.int 1)) .nil))) (.n 7) [7] (.e (.v 5)) (.c (.bl true))) .nil)))
  (.ret (.tup (.cons (.c (.str (Str.ofString "call"))) (.cons (.call "_law_variable" .val (.cons (.v 0) .nil)) (.cons (.v 4) (.cons (.v 6) (.cons (.bin .mod (.bin .add (.bin .mul (.c (.int 7)) (.ix (.v 1) (.c (.str (Str.ofString "left"))))) (.ix (.v 1) (.c (.str (Str.ofString "shift"))))) (.c (.int 100))) .nil))))))))))))⟩
def _law_row_v2 : Fn := ⟨4, 7, (.seq (.asg 4 (.call "_law_next" .val (.cons (.v 0) (.cons (.c (.int 8)) .nil))))
  (.seq (.ite (.cmp .lt (.v 4) (.c (.int 2)))
  (.ret (.tup (.cons (.c (.str (Str.ofString "set"))) (.cons (.call "_law_variable" .val (.cons (.v 0) .nil)) (.cons (.call "_law_expression" .val (.cons (.v 0) (.cons (.c (.int 0)) .nil))) .nil)))))
  .skip)
  (.seq (.ite (.eq .eq (.v 4) (.c (.int 2)))
  (.ret (.tup (.cons (.c (.str (Str.ofString "say"))) (.cons (.call "_law_expression" .val (.cons (.v 0) (.cons (.c (.int 0)) .nil))) .nil))))
  .skip)
  (.seq (.ite (.cmp .lt (.v 4) (.c (.int 6)))
  (.ret (.call "_law_call" .val (.cons (.v 0) (.cons (.v 1) (.cons (.v 2) .nil)))))
  .skip)
  (.seq (.ite (.cmp .gt (.v 3) (.c (.int 1)))
  (.ret (.tup (.cons (.c (.str (Str.ofString "say"))) (.cons (.tup (.cons (.c (.str (Str.ofString "name"))) (.cons (.call "_law_variable" .val (.cons (.v 0) .nil)) .nil))) .nil))))
  .skip)
  (.seq (.ite (.eq .eq (.v 4) (.c (.int 6)))
  (.seq (.asg 5 (.call "_law_expression" .val (.cons (.v 0) (.cons (.c (.int 0)) .nil))))
  (.seq (.asg 6 (.call "_law_rows" .val (.cons (.v 0) (.cons (.v 1) (.cons (.v 2) (.cons (.bin .add (.v 3) (.c (.int 1))) .nil))))))
  (.ret (.tup (.cons (.c (.str (Str.ofString "when"))) (.cons (.v 5) (.cons (.v 6) (.cons (.call "_law_rows" .val (.cons (.v 0) (.cons (.v 1) (.cons (.v 2) (.cons (.bin .add (.v 3) (.c (.int 1))) .nil))))) .nil))))))))
  .skip)
  (.ret (.tup (.cons (.c (.str (Str.ofString "turn"))) (.cons (.tup (.cons (.c (.str (Str.ofString "number"))) (.cons (.call "_law_next" .val (.cons (.v 0) (.cons (.c (.int 4)) .nil))) .nil))) (.cons (.call "_law_rows" .val (.cons (.v 0) (.cons (.v 1) (.cons (.v 2) (.cons (.bin .add (.v 3) (.c (.int 1))) .nil))))) .nil)))))))))))⟩
def _law_rows_v2 : Fn := ⟨4, 6, (.seq (.asg 4 (.ix (.lst (.cons (.c (.int 3)) (.cons (.c (.int 2)) (.cons (.c (.int 2)) (.cons (.c (.int 4)) (.cons (.c (.int 1)) (.cons (.c (.int 2)) .nil))))))) (.call "_law_next" .val (.cons (.v 0) (.cons (.c (.int 6)) .nil)))))
  (.seq (.ite (.cmp .gt (.v 3) (.c (.int 0)))
  (.asg 4 (.ix (.lst (.cons (.c (.int 1)) (.cons (.c (.int 2)) (.cons (.c (.int 0)) (.cons (.c (.int 1)) .nil))))) (.call "_law_next" .val (.cons (.v 0) (.cons (.c (.int 4)) .nil)))))
  .skip)
  (.seq (.asg 4 (.bi .min (.cons (.v 4) (.cons (.ix (.v 1) (.c (.str (Str.ofString "room")))) .nil))))
  (.seq (.setix (.v 1) (.c (.str (Str.ofString "room"))) (.bin .sub (.ix (.v 1) (.c (.str (Str.ofString "room")))) (.v 4)))
  (.ret (.bi .tuple (.cons (.comp (.call "_law_row" .val (.cons (.v 0) (.cons (.v 1) (.cons (.v 2) (.cons (.v 3) .nil))))) (.n 5) [5] (.range (.v 4)) (.c (.bl true))) .nil)))))))⟩
def _law_deeds : Fn := ⟨4, 12, (.seq (.asg 4 (.call "_law_state" .obj (.cons (.ix (.v 0) (.c (.int 0))) .nil)))
  (.seq (.asg 5 (.new (.dct (.cons (.tup (.cons (.c (.str (Str.ofString "heads"))) (.cons (.call "_law_heads" .val (.cons (.v 4) (.cons (.v 1) .nil))) .nil))) (.cons (.tup (.cons (.c (.str (Str.ofString "rings"))) (.cons (.v 2) .nil))) (.cons (.tup (.cons (.c (.str (Str.ofString "low"))) (.cons (.v 3) .nil))) .nil))))))
  (.seq (.setix (.v 5) (.c (.str (Str.ofString "left"))) (.bin .add (.c (.int 3)) (.call "_law_next" .val (.cons (.v 4) (.cons (.c (.int 4)) .nil)))))
  (.seq (.setix (.v 5) (.c (.str (Str.ofString "shift"))) (.call "_law_next" .val (.cons (.v 4) (.cons (.c (.int 100)) .nil))))
  (.seq (.asg 6 (.new (.lst .nil)))
  (.seq (.forS (.n 7) (.range (.v 1))
  (.seq (.asg 8 (.call "_law_state" .obj (.cons (.ix (.v 0) (.bin .add (.c (.int 1)) (.v 7))) .nil)))
  (.seq (.setix (.v 5) (.c (.str (Str.ofString "room"))) (.c (.int 9)))
  (.seq (.asgT (.t [(.n 9), (.n 10)]) (.ix (.ix (.v 5) (.c (.str (Str.ofString "heads")))) (.v 7)))
  (.seq (.asg 11 (.call "_law_rows" .val (.cons (.v 8) (.cons (.v 5) (.cons (.v 7) (.cons (.c (.int 0)) .nil))))))
  (.ex (.me .append (.v 6) (.cons (.tup (.cons (.v 9) (.cons (.v 10) (.cons (.v 11) (.cons (.call "_law_expression" .val (.cons (.v 8) (.cons (.c (.int 1)) .nil))) .nil))))) .nil))))))))
  (.ret (.v 6))))))))⟩
def _law_through : Fn := ⟨1, 4, (.seq (.asg 1 (.new (.lst .nil)))
  (.seq (.forS (.n 2) (.e (.v 0))
  (.seq (.ex (.me .append (.v 1) (.cons (.v 2) .nil)))
  (.forS (.n 3) (.e (.sl (.v 2) (.cons (.c (.int 2)) .nil) .nil))
  (.ite (.isin .isin (.ix (.v 2) (.c (.int 0))) (.tup (.cons (.c (.str (Str.ofString "when"))) (.cons (.c (.str (Str.ofString "turn"))) .nil))))
  (.asg 1 (.new (.bin .add (.v 1) (.call "_law_through" .val (.cons (.v 3) .nil)))))
  .skip))))
  (.ret (.v 1))))⟩
def _law_calls : Fn := ⟨1, 2, (.ret (.comp (.v 1) (.n 1) [1] (.e (.call "_law_through" .val (.cons (.ix (.v 0) (.c (.int 2))) .nil))) (.eq .eq (.ix (.v 1) (.c (.int 0))) (.c (.str (Str.ofString "call"))))))⟩
def ends_of_calls : Fn := ⟨1, 5, (.seq (.asg 1 (.new (.dct .nil)))
  (.seq (.forS (.n 2) (.e (.v 0))
  (.forS (.t [(.n 3), (.n 4)]) (.e (.call "calls_of" .val (.cons (.v 2) .nil)))
  (.setix (.v 1) (.v 3) (.tup (.cons (.ix (.v 2) (.c (.int 0))) (.cons (.v 4) .nil))))))
  (.ret (.v 1))))⟩
def ask_marks : Fn := ⟨2, 5, (.seq (.asg 2 (.call "ends_of_calls" .val (.cons (.v 0) .nil)))
  (.forS (.t [(.n 3), (.n 4)]) (.enum (.v 1))
  (.ite (.or (.isin .notin (.v 4) (.v 2)) (.and (.cmp .gt (.v 3) (.c (.int 0))) (.cmp .le (.v 4) (.ix (.v 1) (.bin .sub (.v 3) (.c (.int 1)))))))
  (.raise "NoMark")
  .skip)))⟩
def call_from : Fn := ⟨4, 5, (.seq (.forS (.n 4) (.e (.v 1))
  (.ite (.and (.eq .eq (.ix (.ix (.v 0) (.v 4)) (.c (.int 1))) (.v 3)) (.isin .isin (.ix (.ix (.v 0) (.v 4)) (.c (.int 0))) (.v 2)))
  (.ret (.v 4))
  .skip))
  (.ret (.c .non)))⟩
def is_ring : Fn := ⟨3, 6, (.seq (.ex (.call "ask_marks" .val (.cons (.v 0) (.cons (.v 1) .nil))))
  (.seq (.asg 3 (.call "ends_of_calls" .val (.cons (.v 0) .nil)))
  (.seq (.ite (.or (.eq .eq (.bi .len (.cons (.v 2) .nil)) (.c (.int 0))) (.not (.bi .all (.cons (.comp (.isin .isin (.v 5) (.v 1)) (.n 5) [5] (.e (.v 2)) (.c (.bl true))) .nil))))
  (.ret (.c (.bl false)))
  .skip)
  (.seq (.forS (.t [(.n 4), (.n 5)]) (.enum (.v 2))
  (.ite (.eq .ne (.ix (.ix (.v 3) (.v 5)) (.c (.int 0))) (.ix (.ix (.v 3) (.ix (.v 2) (.bin .sub (.v 4) (.c (.int 1))))) (.c (.int 1))))
  (.ret (.c (.bl false)))
  .skip))
  (.ret (.eq .eq (.bi .setlen (.cons (.comp (.ix (.ix (.v 3) (.v 5)) (.c (.int 1))) (.n 5) [5] (.e (.v 2)) (.c (.bl true))) .nil)) (.bi .len (.cons (.v 2) .nil))))))))⟩
def _law_round : Fn := ⟨1, 11, (.seq (.asg 1 (.bin .add (.c (.int 6)) (.call "_law_next" .val (.cons (.v 0) (.cons (.c (.int 3)) .nil)))))
  (.seq (.asg 2 (.call "_law_next" .val (.cons (.v 0) (.cons (.v 1) .nil))))
  (.seq (.asg 3 (.new (.comp (.tup (.cons (.v 4) (.cons (.bin .mod (.bin .add (.v 4) (.c (.int 1))) (.v 1)) (.cons (.bin .mod (.bin .add (.bin .mul (.c (.int 11)) (.v 4)) (.v 2)) (.c (.int 89))) .nil)))) (.n 4) [4] (.range (.v 1)) (.c (.bl true)))))
  (.seq (.forS (.n 4) (.range (.call "_law_next" .val (.cons (.v 0) (.cons (.c (.int 3)) .nil))))
  (.ex (.me .append (.v 3) (.cons (.tup (.cons (.call "_law_next" .val (.cons (.v 0) (.cons (.v 1) .nil))) (.cons (.call "_law_next" .val (.cons (.v 0) (.cons (.v 1) .nil))) (.cons (.bin .add (.c (.int 89)) (.v 4)) .nil)))) .nil))))
  (.seq (.asg 5 (.new (.lst .nil)))
  (.seq (.forS (.n 6) (.range (.v 1))
  (.seq (.asg 7 (.new (.lst .nil)))
  (.seq (.forS (.t [(.n 8), (.n 9), (.n 10)]) (.e (.v 3))
  (.ite (.eq .eq (.bin .mod (.bin .add (.v 8) (.v 2)) (.v 1)) (.v 6))
  (.ex (.me .append (.v 7) (.cons (.tup (.cons (.c (.str (Str.ofString "call"))) (.cons (.c (.str (Str.ofString "x"))) (.cons (.bin .mul (.c (.str (Str.ofString "r"))) (.bin .add (.c (.int 1)) (.bin .mod (.bin .add (.v 9) (.v 2)) (.v 1)))) (.cons (.tup .nil) (.cons (.v 10) .nil)))))) .nil)))
  .skip))
  (.ex (.me .append (.v 5) (.cons (.tup (.cons (.bin .mul (.c (.str (Str.ofString "r"))) (.bin .add (.c (.int 1)) (.v 6))) (.cons (.tup .nil) (.cons (.bi .tuple (.cons (.v 7) .nil)) (.cons (.tup (.cons (.c (.str (Str.ofString "name"))) (.cons (.c (.str (Str.ofString "x"))) .nil))) .nil))))) .nil))))))
  (.ret (.v 5))))))))⟩
def _law_ends : Fn := ⟨1, 4, (.seq (.asg 1 (.new (.dct .nil)))
  (.seq (.forS (.n 2) (.e (.v 0))
  (.forS (.n 3) (.e (.call "_law_calls" .val (.cons (.v 2) .nil)))
  (.setix (.v 1) (.ix (.v 3) (.c (.int 4))) (.tup (.cons (.ix (.v 2) (.c (.int 0))) (.cons (.ix (.v 3) (.c (.int 2))) .nil))))))
  (.ret (.v 1))))⟩
def _law_is_ring : Fn := ⟨3, 6, (.seq (.ite (.or (.eq .eq (.v 2) (.lst .nil)) (.eq .ne (.comp (.v 4) (.n 4) [4] (.e (.v 2)) (.isin .notin (.v 4) (.v 1))) (.lst .nil)))
  (.ret (.c (.bl false)))
  .skip)
  (.seq (.asg 3 (.comp (.ix (.ix (.v 0) (.v 4)) (.c (.int 1))) (.n 4) [4] (.e (.v 2)) (.c (.bl true))))
  (.seq (.ite (.cmp .lt (.bi .setlen (.cons (.v 3) .nil)) (.bi .len (.cons (.v 3) .nil)))
  (.ret (.c (.bl false)))
  .skip)
  (.ret (.bi .all (.cons (.comp (.eq .eq (.ix (.ix (.v 0) (.v 4)) (.c (.int 0))) (.ix (.v 3) (.bin .sub (.v 5) (.c (.int 1))))) (.t [(.n 5), (.n 4)]) [5, 4] (.enum (.v 2)) (.c (.bl true))) .nil))))))⟩
def own_names_v3 : Fn := ⟨1, 4, (.seq (.asg 1 (.bi .list (.cons (.ix (.v 0) (.c (.int 1))) .nil)))
  (.seq (.asg 2 (.new (.dct .nil)))
  (.seq (.forS (.n 3) (.e (.call "deed_names" .val (.cons (.v 0) .nil)))
  (.ite (.and (.not (.bi .inS (.cons (.c (.str (Str.ofString "."))) (.cons (.v 3) .nil)))) (.isin .notin (.v 3) (.v 1)))
  (.setix (.v 2) (.v 3) (.c (.bl true)))
  .skip))
  (.ret (.new (.bin .add (.v 1) (.bi .sortK (.cons (.v 2) .nil))))))))⟩
def own_names_v4 : Fn := ⟨1, 4, (.seq (.asg 1 (.bi .list (.cons (.ix (.v 0) (.c (.int 1))) .nil)))
  (.seq (.asg 2 (.new (.dct .nil)))
  (.seq (.forS (.n 3) (.e (.call "deed_names" .val (.cons (.v 0) .nil)))
  (.ite (.and (.not (.bi .inS (.cons (.c (.str (Str.ofString "."))) (.cons (.v 3) .nil)))) (.isin .notin (.v 3) (.v 1)))
  (.setix (.v 2) (.v 3) (.c (.bl true)))
  .skip))
  (.ret (.bin .add (.v 1) (.bi .sortK (.cons (.v 2) .nil)))))))⟩
def ring_among_v2 : Fn := ⟨3, 7, (.seq (.asg 3 (.new (.lst (.cons (.ix (.v 2) (.c (.int 0))) .nil))))
  (.seq (.asg 4 (.new (.lst .nil)))
  (.whileS (.c (.bl true))
  (.seq (.asg 5 (.call "call_from" .val (.cons (.v 0) (.cons (.v 1) (.cons (.v 2) (.cons (.ix (.v 3) (.neg (.c (.int 1)))) .nil))))))
  (.seq (.ex (.me .append (.v 4) (.cons (.v 5) .nil)))
  (.seq (.asg 6 (.ix (.ix (.v 0) (.v 5)) (.c (.int 0))))
  (.seq (.ite (.isin .isin (.v 6) (.v 3))
  (.ret (.new (.bi .rev (.cons (.sl (.v 4) (.cons (.me .indexV (.v 3) (.cons (.v 6) .nil)) .nil) .nil) .nil))))
  .skip)
  (.ex (.me .append (.v 3) (.cons (.v 6) .nil))))))))))⟩
def rank_deeds_v2 : Fn := ⟨2, 8, (.seq (.ex (.call "ask_marks" .val (.cons (.v 0) (.cons (.v 1) .nil))))
  (.seq (.asg 2 (.call "ends_of_calls" .val (.cons (.v 0) .nil)))
  (.seq (.asg 3 (.comp (.ix (.v 6) (.c (.int 0))) (.n 6) [6] (.e (.v 0)) (.c (.bl true))))
  (.seq (.asg 4 (.new (.lst .nil)))
  (.seq (.whileS (.eq .ne (.v 3) (.lst .nil))
  (.seq (.asg 5 (.comp (.v 7) (.n 7) [7] (.e (.v 3)) (.isN false (.call "call_from" .val (.cons (.v 2) (.cons (.v 1) (.cons (.v 3) (.cons (.v 7) .nil))))))))
  (.seq (.ite (.eq .eq (.v 5) (.lst .nil))
  (.ret (.tup (.cons (.c (.str (Str.ofString "ring"))) (.cons (.call "ring_among" .keep (.cons (.v 2) (.cons (.v 1) (.cons (.v 3) .nil)))) .nil))))
  .skip)
  (.seq (.ex (.me .append (.v 4) (.cons (.ix (.v 5) (.c (.int 0))) .nil)))
  (.asg 3 (.comp (.v 7) (.n 7) [7] (.e (.v 3)) (.eq .ne (.v 7) (.ix (.v 5) (.c (.int 0))))))))))
  (.ret (.tup (.cons (.c (.str (Str.ofString "ranks"))) (.cons (.v 4) .nil)))))))))⟩
def _law_chosen_v2 : Fn := ⟨2, 3, (.ret (.comp (.v 2) (.n 2) [2] (.e (.bi .sortK (.cons (.v 1) .nil))) (.cmp .gt (.call "_law_next" .val (.cons (.v 0) (.cons (.c (.int 3)) .nil))) (.c (.int 0)))))⟩
def expression_text : Fn := ⟨1, 2, (.seq (.asg 1 (.ix (.v 0) (.c (.int 0))))
  (.seq (.ite (.eq .eq (.v 1) (.c (.str (Str.ofString "number"))))
  (.ret (.bi .str (.cons (.ix (.v 0) (.c (.int 1))) .nil)))
  .skip)
  (.seq (.ite (.eq .eq (.v 1) (.c (.str (Str.ofString "name"))))
  (.ret (.ix (.v 0) (.c (.int 1))))
  .skip)
  (.ret (.bin .add (.bin .add (.bin .add (.bin .add (.c (.str (Str.ofString "("))) (.call "expression_text" .val (.cons (.ix (.v 0) (.c (.int 1))) .nil))) (.ix (.c (.dct [.tup [.str (Str.ofString "plus"), .str (Str.ofString "+")], .tup [.str (Str.ofString "less"), .str (Str.ofString "-")], .tup [.str (Str.ofString "times"), .str (Str.ofString "*")], .tup [.str (Str.ofString "over"), .str (Str.ofString "/")], .tup [.str (Str.ofString "rest"), .str (Str.ofString ":")], .tup [.str (Str.ofString "under"), .str (Str.ofString "<")], .tup [.str (Str.ofString "same"), .str (Str.ofString "=")]])) (.v 1))) (.call "expression_text" .val (.cons (.ix (.v 0) (.c (.int 2))) .nil))) (.c (.str (Str.ofString ")"))))))))⟩
def row_texts : Fn := ⟨1, 4, (.seq (.asg 1 (.ix (.v 0) (.c (.int 0))))
  (.seq (.ite (.eq .eq (.v 1) (.c (.str (Str.ofString "set"))))
  (.ret (.lst (.cons (.bin .add (.bin .add (.bin .add (.c (.str (Str.ofString "set "))) (.ix (.v 0) (.c (.int 1)))) (.c (.str (Str.ofString " ")))) (.call "expression_text" .val (.cons (.ix (.v 0) (.c (.int 2))) .nil))) .nil)))
  .skip)
  (.seq (.ite (.eq .eq (.v 1) (.c (.str (Str.ofString "call"))))
  (.ret (.lst (.cons (.bi .join (.cons (.c (.str (Str.ofString " "))) (.cons (.bin .add (.lst (.cons (.c (.str (Str.ofString "call"))) (.cons (.ix (.v 0) (.c (.int 1))) (.cons (.ix (.v 0) (.c (.int 2))) (.cons (.bi .str (.cons (.ix (.v 0) (.c (.int 4))) .nil)) .nil))))) (.comp (.call "expression_text" .val (.cons (.v 3) .nil)) (.n 3) [3] (.e (.ix (.v 0) (.c (.int 3)))) (.c (.bl true)))) .nil))) .nil)))
  .skip)
  (.seq (.asg 2 (.bin .add (.bin .add (.v 1) (.c (.str (Str.ofString " ")))) (.call "expression_text" .val (.cons (.ix (.v 0) (.c (.int 1))) .nil))))
  (.seq (.ite (.eq .eq (.v 1) (.c (.str (Str.ofString "say"))))
  (.ret (.lst (.cons (.v 2) .nil)))
  .skip)
  (.seq (.ite (.eq .eq (.v 1) (.c (.str (Str.ofString "turn"))))
  (.ret (.bin .add (.bin .add (.lst (.cons (.v 2) .nil)) (.call "all_texts" .val (.cons (.ix (.v 0) (.c (.int 2))) .nil))) (.lst (.cons (.c (.str (Str.ofString "end"))) .nil))))
  .skip)
  (.ret (.bin .add (.bin .add (.bin .add (.bin .add (.lst (.cons (.v 2) .nil)) (.call "all_texts" .val (.cons (.ix (.v 0) (.c (.int 2))) .nil))) (.lst (.cons (.c (.str (Str.ofString "else"))) .nil))) (.call "all_texts" .val (.cons (.ix (.v 0) (.c (.int 3))) .nil))) (.lst (.cons (.c (.str (Str.ofString "end"))) .nil))))))))))⟩
def all_texts : Fn := ⟨1, 3, (.seq (.asg 1 (.new (.lst .nil)))
  (.seq (.forS (.n 2) (.e (.v 0))
  (.ex (.me .extend (.v 1) (.cons (.call "row_texts" .val (.cons (.v 2) .nil)) .nil))))
  (.ret (.v 1))))⟩
def book_text : Fn := ⟨1, 6, (.seq (.asg 1 (.new (.lst .nil)))
  (.seq (.forS (.t [(.n 2), (.n 3), (.n 4), (.n 5)]) (.e (.v 0))
  (.seq (.ex (.me .append (.v 1) (.cons (.bi .join (.cons (.c (.str (Str.ofString " "))) (.cons (.bin .add (.lst (.cons (.c (.str (Str.ofString "deed"))) (.cons (.v 2) .nil))) (.bi .list (.cons (.v 3) .nil))) .nil))) .nil)))
  (.seq (.ex (.me .extend (.v 1) (.cons (.call "all_texts" .val (.cons (.v 4) .nil)) .nil)))
  (.ex (.me .append (.v 1) (.cons (.bin .add (.c (.str (Str.ofString "give "))) (.call "expression_text" .val (.cons (.v 5) .nil))) .nil))))))
  (.ret (.bi .join (.cons (.c (.str (Str.ofString "\n"))) (.cons (.v 1) .nil))))))⟩
def _law_cells : Fn := ⟨2, 5, (.seq (.asg 2 (.new (.bi .list (.cons (.sl (.v 0) .nil (.cons (.v 1) .nil)) .nil))))
  (.seq (.forS (.t [(.n 3), (.n 4)]) (.enum (.sl (.v 0) (.cons (.v 1) .nil) (.cons (.c (.int 63)) .nil)))
  (.setix (.v 2) (.bin .mod (.v 3) (.v 1)) (.bin .add (.bin .mul (.ix (.v 2) (.bin .mod (.v 3) (.v 1))) (.c (.int 31))) (.v 4))))
  (.ret (.v 2))))⟩
def _law_pool : Fn := ⟨2, 4, (.seq (.asg 2 (.c (.int 0)))
  (.seq (.ite (.cmp .gt (.bi .len (.cons (.v 0) .nil)) (.c (.int 0)))
  (.asg 2 (.bin .add (.ix (.v 0) (.bin .mod (.v 1) (.bi .len (.cons (.v 0) .nil)))) (.bin .fdiv (.v 1) (.bi .len (.cons (.v 0) .nil)))))
  .skip)
  (.seq (.asg 3 (.c (.int 0)))
  (.seq (.ite (.or (.cmp .lt (.v 2) (.c (.int 0))) (.cmp .ge (.v 2) (.bin .pow (.c (.int 10)) (.c (.int 18)))))
  (.asg 3 (.bi .abs (.cons (.v 2) .nil)))
  .skip)
  (.ret (.new (.lst (.cons (.v 3) (.cons (.bin .mod (.bin .add (.bin .mul (.bin .mod (.v 2) (.c (.int 2147483629))) (.c (.int 69621))) (.bin .mul (.bin .mul (.c (.int 40009)) (.bin .add (.v 1) (.c (.int 1)))) (.bin .add (.v 1) (.c (.int 3))))) (.c (.int 2147483629))) .nil)))))))))⟩
def _law_take_v2 : Fn := ⟨2, 3, (.seq (.ite (.cmp .gt (.ix (.v 0) (.c (.int 0))) (.c (.int 0)))
  (.seq (.asg 2 (.bin .mod (.ix (.v 0) (.c (.int 0))) (.v 1)))
  (.seq (.setix (.v 0) (.c (.int 0)) (.bin .fdiv (.ix (.v 0) (.c (.int 0))) (.v 1)))
  (.ret (.v 2))))
  .skip)
  (.seq (.setix (.v 0) (.c (.int 1)) (.bin .mod (.bin .add (.bin .mul (.ix (.v 0) (.c (.int 1))) (.c (.int 48271))) (.c (.int 12820163))) (.c (.int 2147483647))))
  (.ret (.bin .mod (.bin .fdiv (.bin .mod (.bin .mul (.bin .mod (.bin .mul (.ix (.v 0) (.c (.int 1))) (.ix (.v 0) (.c (.int 1)))) (.c (.int 2147483629))) (.c (.int 69621))) (.c (.int 2147483587))) (.c (.int 8))) (.v 1)))))⟩
def _law_some : Fn := ⟨3, 5, (.seq (.asg 3 (.new (.bi .list (.cons (.v 1) .nil))))
  (.ret (.comp (.me .pop (.v 3) (.cons (.call "_law_take" .val (.cons (.v 0) (.cons (.bi .len (.cons (.v 3) .nil)) .nil))) .nil)) (.n 4) [4] (.range (.v 2)) (.c (.bl true)))))⟩
def _law_value_v2 : Fn := ⟨1, 2, (.seq (.asg 1 (.call "_law_take" .val (.cons (.v 0) (.cons (.c (.int 8)) .nil))))
  (.seq (.ite (.eq .eq (.v 1) (.c (.int 7)))
  (.ret (.c (.int 999999)))
  .skip)
  (.ret (.call "_law_take" .val (.cons (.v 0) (.cons (.ix (.lst (.cons (.c (.int 4)) (.cons (.c (.int 12)) (.cons (.c (.int 1000000)) .nil)))) (.bin .mod (.v 1) (.c (.int 3)))) .nil))))))⟩
def _law_expression_v2 : Fn := ⟨3, 7, (.seq (.asg 3 (.call "_law_take" .val (.cons (.v 0) (.cons (.c (.int 8)) .nil))))
  (.seq (.ite (.and (.cmp .gt (.v 3) (.c (.int 4))) (.cmp .lt (.v 2) (.c (.int 5))))
  (.seq (.asg 4 (.lst (.cons (.c (.str (Str.ofString "plus"))) (.cons (.c (.str (Str.ofString "less"))) (.cons (.c (.str (Str.ofString "times"))) (.cons (.c (.str (Str.ofString "under"))) (.cons (.c (.str (Str.ofString "same"))) (.cons (.c (.str (Str.ofString "over"))) (.cons (.c (.str (Str.ofString "rest"))) .nil)))))))))
  (.seq (.asg 5 (.ix (.v 4) (.call "_law_take" .val (.cons (.v 0) (.cons (.bin .add (.c (.int 5)) (.bin .mul (.c (.int 2)) (.bi .int (.cons (.eq .eq (.call "_law_take" .val (.cons (.v 0) (.cons (.c (.int 6)) .nil))) (.c (.int 0))) .nil)))) .nil)))))
  (.seq (.asg 6 (.call "_law_expression" .val (.cons (.v 0) (.cons (.v 1) (.cons (.bin .add (.v 2) (.c (.int 1))) .nil)))))
  (.ret (.tup (.cons (.v 5) (.cons (.v 6) (.cons (.call "_law_expression" .val (.cons (.v 0) (.cons (.v 1) (.cons (.bin .add (.v 2) (.c (.int 1))) .nil)))) .nil))))))))
  .skip)
  (.seq (.ite (.cmp .lt (.v 3) (.c (.int 3)))
  (.ret (.tup (.cons (.c (.str (Str.ofString "name"))) (.cons (.ix (.v 1) (.call "_law_take" .val (.cons (.v 0) (.cons (.bi .len (.cons (.v 1) .nil)) .nil)))) .nil))))
  .skip)
  (.ret (.tup (.cons (.c (.str (Str.ofString "number"))) (.cons (.call "_law_value" .val (.cons (.v 0) .nil)) .nil)))))))⟩
def _law_call_v3 : Fn := ⟨3, 9, (.seq (.asg 3 (.ix (.v 1) (.c (.str (Str.ofString "heads")))))
  (.seq (.asg 4 (.call "_law_take" .val (.cons (.v 0) (.cons (.bi .len (.cons (.v 3) .nil)) .nil))))
  (.seq (.asg 5 (.bin .sub (.bin .sub (.bi .len (.cons (.v 3) .nil)) (.ix (.v 1) (.c (.str (Str.ofString "at"))))) (.c (.int 1))))
  (.seq (.ite (.and (.cmp .gt (.v 5) (.c (.int 0))) (.cmp .gt (.call "_law_take" .val (.cons (.v 0) (.cons (.c (.int 4)) .nil))) (.c (.int 0))))
  (.asg 4 (.bin .add (.bin .add (.ix (.v 1) (.c (.str (Str.ofString "at")))) (.c (.int 1))) (.call "_law_take" .val (.cons (.v 0) (.cons (.v 5) .nil)))))
  .skip)
  (.seq (.setix (.v 1) (.c (.str (Str.ofString "calls"))) (.bin .sub (.ix (.v 1) (.c (.str (Str.ofString "calls")))) (.c (.int 1))))
  (.seq (.asg 6 (.bi .tuple (.cons (.comp (.call "_law_expression" .val (.cons (.v 0) (.cons (.v 2) (.cons (.c (.int 3)) .nil)))) (.n 8) [8] (.e (.ix (.ix (.v 3) (.v 4)) (.c (.int 1)))) (.c (.bl true))) .nil)))
  (.seq (.asg 7 (.ix (.v 2) (.call "_law_take" .val (.cons (.v 0) (.cons (.bi .len (.cons (.v 2) .nil)) .nil)))))
  (.ret (.tup (.cons (.c (.str (Str.ofString "call"))) (.cons (.v 7) (.cons (.ix (.ix (.v 3) (.v 4)) (.c (.int 0))) (.cons (.v 6) (.cons (.bin .mod (.bin .add (.ix (.v 1) (.c (.str (Str.ofString "first")))) (.bin .mul (.c (.int 37)) (.ix (.v 1) (.c (.str (Str.ofString "calls")))))) (.c (.int 100))) .nil))))))))))))))⟩
def _law_row_v3 : Fn := ⟨4, 8, (.seq (.asg 4 (.call "_law_take" .val (.cons (.v 0) (.cons (.c (.int 10)) .nil))))
  (.seq (.setix (.v 1) (.c (.str (Str.ofString "rows"))) (.bin .sub (.ix (.v 1) (.c (.str (Str.ofString "rows")))) (.c (.int 1))))
  (.seq (.ite (.and (.cmp .lt (.v 4) (.c (.int 3))) (.cmp .gt (.ix (.v 1) (.c (.str (Str.ofString "calls")))) (.c (.int 0))))
  (.ret (.call "_law_call" .val (.cons (.v 0) (.cons (.v 1) (.cons (.v 2) .nil)))))
  .skip)
  (.seq (.asg 5 (.ix (.v 2) (.call "_law_take" .val (.cons (.v 0) (.cons (.bi .len (.cons (.v 2) .nil)) .nil)))))
  (.seq (.asg 6 (.call "_law_expression" .val (.cons (.v 0) (.cons (.v 2) (.cons (.bin .add (.c (.int 1)) (.call "_law_take" .val (.cons (.v 0) (.cons (.c (.int 4)) .nil)))) .nil)))))
  (.seq (.ite (.and (.eq .eq (.v 4) (.c (.int 3))) (.cmp .lt (.v 3) (.c (.int 3))))
  (.seq (.asg 7 (.call "_law_rows" .val (.cons (.v 0) (.cons (.v 1) (.cons (.v 2) (.cons (.bin .add (.v 3) (.c (.int 1))) .nil))))))
  (.ret (.tup (.cons (.c (.str (Str.ofString "when"))) (.cons (.v 6) (.cons (.v 7) (.cons (.call "_law_rows" .val (.cons (.v 0) (.cons (.v 1) (.cons (.v 2) (.cons (.bin .add (.v 3) (.c (.int 1))) .nil))))) .nil)))))))
  .skip)
  (.seq (.ite (.and (.eq .eq (.v 4) (.c (.int 4))) (.cmp .lt (.v 3) (.c (.int 3))))
  (.ret (.tup (.cons (.c (.str (Str.ofString "turn"))) (.cons (.v 6) (.cons (.call "_law_rows" .val (.cons (.v 0) (.cons (.v 1) (.cons (.v 2) (.cons (.bin .add (.v 3) (.c (.int 1))) .nil))))) .nil)))))
  .skip)
  (.seq (.ite (.cmp .lt (.v 4) (.c (.int 7)))
  (.ret (.tup (.cons (.c (.str (Str.ofString "say"))) (.cons (.v 6) .nil))))
  .skip)
  (.ret (.tup (.cons (.c (.str (Str.ofString "set"))) (.cons (.v 5) (.cons (.v 6) .nil)))))))))))))⟩
def _law_rows_v3 : Fn := ⟨4, 6, (.seq (.asg 4 (.new (.lst .nil)))
  (.seq (.forS (.n 5) (.range (.call "_law_take" .val (.cons (.v 0) (.cons (.ix (.lst (.cons (.c (.int 8)) (.cons (.c (.int 6)) (.cons (.c (.int 4)) (.cons (.c (.int 3)) .nil))))) (.v 3)) .nil))))
  (.ite (.cmp .gt (.ix (.v 1) (.c (.str (Str.ofString "rows")))) (.c (.int 0)))
  (.ex (.me .append (.v 4) (.cons (.call "_law_row" .val (.cons (.v 0) (.cons (.v 1) (.cons (.v 2) (.cons (.v 3) .nil))))) .nil)))
  .skip))
  (.ret (.bi .tuple (.cons (.v 4) .nil)))))⟩
def _law_book_v3 : Fn := ⟨2, 15, (.seq (.asg 2 (.call "_law_pool" .obj (.cons (.v 0) (.cons (.c (.int 0)) .nil))))
  (.seq (.asg 3 (.lst (.cons (.c (.str (Str.ofString "a"))) (.cons (.c (.str (Str.ofString "b"))) (.cons (.c (.str (Str.ofString "ab"))) (.cons (.c (.str (Str.ofString "x"))) (.cons (.c (.str (Str.ofString "xy"))) (.cons (.c (.str (Str.ofString "abc"))) (.cons (.c (.str (Str.ofString "abcd"))) (.cons (.c (.str (Str.ofString "set"))) (.cons (.c (.str (Str.ofString "end"))) (.cons (.c (.str (Str.ofString "else"))) (.cons (.c (.str (Str.ofString "give"))) (.cons (.c (.str (Str.ofString "z"))) .nil))))))))))))))
  (.seq (.asg 4 (.lst (.cons (.c (.str (Str.ofString "f"))) (.cons (.c (.str (Str.ofString "g"))) (.cons (.c (.str (Str.ofString "fold"))) (.cons (.c (.str (Str.ofString "gg"))) (.cons (.c (.str (Str.ofString "deed"))) (.cons (.c (.str (Str.ofString "end"))) (.cons (.c (.str (Str.ofString "callfold"))) (.cons (.c (.str (Str.ofString "h"))) (.cons (.c (.str (Str.ofString "ab"))) (.cons (.c (.str (Str.ofString "main"))) .nil))))))))))))
  (.seq (.asg 5 (.new (.lst .nil)))
  (.seq (.asg 6 (.bin .add (.c (.int 1)) (.call "_law_take" .val (.cons (.v 2) (.cons (.ix (.lst (.cons (.v 1) (.cons (.v 1) (.cons (.v 1) (.cons (.c (.int 8)) .nil))))) (.call "_law_take" .val (.cons (.v 2) (.cons (.c (.int 4)) .nil)))) .nil)))))
  (.seq (.forS (.n 7) (.e (.call "_law_some" .val (.cons (.v 2) (.cons (.v 4) (.cons (.v 6) .nil)))))
  (.ex (.me .append (.v 5) (.cons (.tup (.cons (.v 7) (.cons (.call "_law_some" .val (.cons (.v 2) (.cons (.v 3) (.cons (.call "_law_take" .val (.cons (.v 2) (.cons (.c (.int 5)) .nil))) .nil)))) .nil))) .nil))))
  (.seq (.asg 8 (.new (.dct (.cons (.tup (.cons (.c (.str (Str.ofString "heads"))) (.cons (.v 5) .nil))) (.cons (.tup (.cons (.c (.str (Str.ofString "at"))) (.cons (.c (.int 0)) .nil))) (.cons (.tup (.cons (.c (.str (Str.ofString "rows"))) (.cons (.c (.int 20)) .nil))) (.cons (.tup (.cons (.c (.str (Str.ofString "calls"))) (.cons (.c (.int 10)) .nil))) (.cons (.tup (.cons (.c (.str (Str.ofString "first"))) (.cons (.call "_law_take" .val (.cons (.v 2) (.cons (.c (.int 100)) .nil))) .nil))) .nil))))))))
  (.seq (.asg 9 (.new (.lst .nil)))
  (.seq (.forS (.t [(.n 10), (.t [(.n 7), (.n 11)])]) (.enum (.v 5))
  (.seq (.asg 2 (.call "_law_pool" .obj (.cons (.v 0) (.cons (.bin .add (.c (.int 1)) (.v 10)) .nil))))
  (.seq (.asg 12 (.bin .add (.v 11) (.call "_law_some" .val (.cons (.v 2) (.cons (.comp (.v 14) (.n 14) [14] (.e (.v 3)) (.isin .notin (.v 14) (.v 11))) (.cons (.bin .add (.c (.int 1)) (.call "_law_take" .val (.cons (.v 2) (.cons (.c (.int 3)) .nil)))) .nil))))))
  (.seq (.setix (.v 8) (.c (.str (Str.ofString "at"))) (.v 10))
  (.seq (.setix (.v 8) (.c (.str (Str.ofString "rows"))) (.c (.int 20)))
  (.seq (.asg 13 (.call "_law_rows" .val (.cons (.v 2) (.cons (.v 8) (.cons (.v 12) (.cons (.c (.int 1)) .nil))))))
  (.ex (.me .append (.v 9) (.cons (.tup (.cons (.v 7) (.cons (.bi .tuple (.cons (.v 11) .nil)) (.cons (.v 13) (.cons (.call "_law_expression" .val (.cons (.v 2) (.cons (.v 12) (.cons (.c (.int 2)) .nil)))) .nil))))) .nil)))))))))
  (.ret (.bi .tuple (.cons (.v 9) .nil))))))))))))⟩
def _law_written : Fn := ⟨1, 3, (.seq (.asg 1 (.ix (.v 0) (.c (.int 0))))
  (.seq (.ite (.eq .eq (.v 1) (.c (.str (Str.ofString "number"))))
  (.ret (.bi .str (.cons (.ix (.v 0) (.c (.int 1))) .nil)))
  .skip)
  (.seq (.ite (.eq .eq (.v 1) (.c (.str (Str.ofString "name"))))
  (.ret (.ix (.v 0) (.c (.int 1))))
  .skip)
  (.seq (.asg 2 (.ix (.c (.str (Str.ofString "+-*/:<="))) (.me .indexV (.lst (.cons (.c (.str (Str.ofString "plus"))) (.cons (.c (.str (Str.ofString "less"))) (.cons (.c (.str (Str.ofString "times"))) (.cons (.c (.str (Str.ofString "over"))) (.cons (.c (.str (Str.ofString "rest"))) (.cons (.c (.str (Str.ofString "under"))) (.cons (.c (.str (Str.ofString "same"))) .nil)))))))) (.cons (.v 1) .nil))))
  (.ret (.bin .add (.bin .add (.bin .add (.bin .add (.c (.str (Str.ofString "("))) (.call "_law_written" .val (.cons (.ix (.v 0) (.c (.int 1))) .nil))) (.v 2)) (.call "_law_written" .val (.cons (.ix (.v 0) (.c (.int 2))) .nil))) (.c (.str (Str.ofString ")")))))))))⟩
def _law_row_texts : Fn := ⟨1, 4, (.seq (.ite (.eq .eq (.ix (.v 0) (.c (.int 0))) (.c (.str (Str.ofString "set"))))
  (.ret (.lst (.cons (.bin .add (.bin .add (.bin .add (.c (.str (Str.ofString "set "))) (.ix (.v 0) (.c (.int 1)))) (.c (.str (Str.ofString " ")))) (.call "_law_written" .val (.cons (.ix (.v 0) (.c (.int 2))) .nil))) .nil)))
  .skip)
  (.seq (.ite (.eq .eq (.ix (.v 0) (.c (.int 0))) (.c (.str (Str.ofString "say"))))
  (.ret (.lst (.cons (.bin .add (.c (.str (Str.ofString "say "))) (.call "_law_written" .val (.cons (.ix (.v 0) (.c (.int 1))) .nil))) .nil)))
  .skip)
  (.seq (.ite (.eq .eq (.ix (.v 0) (.c (.int 0))) (.c (.str (Str.ofString "call"))))
  (.seq (.asg 1 (.bin .add (.lst (.cons (.c (.str (Str.ofString "call"))) (.cons (.ix (.v 0) (.c (.int 1))) (.cons (.ix (.v 0) (.c (.int 2))) (.cons (.bi .str (.cons (.ix (.v 0) (.c (.int 4))) .nil)) .nil))))) (.comp (.call "_law_written" .val (.cons (.v 3) .nil)) (.n 3) [3] (.e (.ix (.v 0) (.c (.int 3)))) (.c (.bl true)))))
  (.ret (.lst (.cons (.bi .join (.cons (.c (.str (Str.ofString " "))) (.cons (.v 1) .nil))) .nil))))
  .skip)
  (.seq (.asg 2 (.bin .add (.lst (.cons (.bin .add (.bin .add (.ix (.v 0) (.c (.int 0))) (.c (.str (Str.ofString " ")))) (.call "_law_written" .val (.cons (.ix (.v 0) (.c (.int 1))) .nil))) .nil)) (.call "_law_texts" .val (.cons (.ix (.v 0) (.c (.int 2))) .nil))))
  (.seq (.ite (.eq .eq (.ix (.v 0) (.c (.int 0))) (.c (.str (Str.ofString "when"))))
  (.asg 2 (.bin .add (.bin .add (.v 2) (.lst (.cons (.c (.str (Str.ofString "else"))) .nil))) (.call "_law_texts" .val (.cons (.ix (.v 0) (.c (.int 3))) .nil))))
  .skip)
  (.ret (.bin .add (.v 2) (.lst (.cons (.c (.str (Str.ofString "end"))) .nil)))))))))⟩
def _law_texts_v2 : Fn := ⟨1, 3, (.seq (.asg 1 (.new (.lst .nil)))
  (.seq (.forS (.n 2) (.e (.v 0))
  (.ex (.me .extend (.v 1) (.cons (.call "_law_row_texts" .val (.cons (.v 2) .nil)) .nil))))
  (.ret (.v 1))))⟩
def _law_book_texts : Fn := ⟨1, 6, (.seq (.asg 1 (.new (.lst .nil)))
  (.seq (.forS (.t [(.n 2), (.n 3), (.n 4), (.n 5)]) (.e (.v 0))
  (.seq (.ex (.me .append (.v 1) (.cons (.bi .join (.cons (.c (.str (Str.ofString " "))) (.cons (.bin .add (.lst (.cons (.c (.str (Str.ofString "deed"))) (.cons (.v 2) .nil))) (.bi .list (.cons (.v 3) .nil))) .nil))) .nil)))
  (.seq (.ex (.me .extend (.v 1) (.cons (.call "_law_texts" .val (.cons (.v 4) .nil)) .nil)))
  (.ex (.me .append (.v 1) (.cons (.bin .add (.c (.str (Str.ofString "give "))) (.call "_law_written" .val (.cons (.v 5) .nil))) .nil))))))
  (.ret (.v 1))))⟩
def law_k12 : Fn := ⟨1, 6, (.seq (.asg 1 (.call "_law_cells" .val (.cons (.v 0) (.cons (.c (.int 9)) .nil))))
  (.seq (.forS (.n 2) (.range (.c (.int 2)))
  (.seq (.asg 3 (.call "_law_book" .val (.cons (.v 1) (.cons (.c (.int 5)) .nil))))
  (.seq (.asg 4 (.bi .join (.cons (.c (.str (Str.ofString "\n"))) (.cons (.call "_law_book_texts" .val (.cons (.v 3) .nil)) .nil))))
  (.seq (.asg 5 (.call "book_text" .val (.cons (.v 3) .nil)))
  (.seq (.ite (.or (.not (.isT (.v 5) .str)) (.or (.eq .ne (.v 5) (.v 4)) (.or (.eq .ne (.call "book_text" .val (.cons (.v 3) .nil)) (.v 4)) (.eq .ne (.v 3) (.call "_law_book" .val (.cons (.v 1) (.cons (.c (.int 5)) .nil)))))))
  (.ret (.c (.bl false)))
  .skip)
  (.asg 1 (.bin .add (.sl (.v 1) (.cons (.c (.int 1)) .nil) .nil) (.sl (.v 1) .nil (.cons (.c (.int 1)) .nil)))))))))
  (.ret (.c (.bl true)))))⟩
end Mi.D
/-! La: expressions and their worths. -/
namespace Mi
open PySem (Str)
inductive Wd where | plus | less | times | over | rest | under | same
  deriving DecidableEq
def Wd.s : Wd → Str
  | .plus => Str.ofString "plus"
  | .less => Str.ofString "less"
  | .times => Str.ofString "times"
  | .over => Str.ofString "over"
  | .rest => Str.ofString "rest"
  | .under => Str.ofString "under"
  | .same => Str.ofString "same"
inductive Ex where
  | num (i : Int)
  | nam (s : Str)
  | op (w : Wd) (a b : Ex)
  deriving DecidableEq
def Ex.v : Ex → Val
  | .num i => .tup [.str (Str.ofString "number"), .int i]
  | .nam s => .tup [.str (Str.ofString "name"), .str s]
  | .op w a b => .tup [.str w.s, a.v, b.v]
def Ex.deep : Ex → Nat
  | .num _ => 1
  | .nam _ => 1
  | .op _ a b => max a.deep b.deep + 1
theorem Ex.nr : ∀ e : Ex, Mi.nr e.v = true
  | .num i => rfl
  | .nam s => rfl
  | .op w a b => by simp [Ex.v, Mi.nr, Mi.nrL, Ex.nr a, Ex.nr b]
def bd (i : Int) : Prop := i.natAbs < 1073741824
def jn : Wd → Int → Int → Option Int
  | .plus, a, b => some ((a + b).fmod 1000000)
  | .less, a, b => some ((a - b).fmod 1000000)
  | .times, a, b => some ((a * b).fmod 1000000)
  | .under, a, b => some (if a < b then 1 else 0)
  | .same, a, b => some (if a = b then 1 else 0)
  | .over, a, b => if b = 0 then none else some (a.fdiv b)
  | .rest, a, b => if b = 0 then none else some (a.fmod b)
theorem fmod_lt {a m : Int} (h : 0 < m) : 0 ≤ a.fmod m ∧ a.fmod m < m := by
  rw [Int.fmod_eq_emod_of_nonneg a (Int.le_of_lt h)]
  exact ⟨Int.emod_nonneg _ (by omega), Int.emod_lt_of_pos _ h⟩
abbrev Hd := List (Str × Int)
def hdV (l : Hd) : List Val := l.map fun p => .tup [.str p.1, .int p.2]
def worth : Ex → Hd → Option Int
  | .num i, _ => some i
  | .nam s, l => some ((l.lookup s).getD 0)
  | .op w a b, l => (worth a l).bind fun x => (worth b l).bind fun y => jn w x y
def Ex.ok : Ex → Prop
  | .num i => bd i
  | .nam _ => True
  | .op _ a b => a.ok ∧ b.ok
def okH (l : Hd) : Prop := ∀ p ∈ l, bd p.2
@[simp] theorem w_num (w : Wd) : (w.s = Str.ofString "number") = False := by cases w <;> simp [Wd.s]
@[simp] theorem w_nam (w : Wd) : (w.s = Str.ofString "name") = False := by cases w <;> simp [Wd.s]
section
variable {P : Prog} {n : Nat} {μ : Mu} {Q : Val → Mu → Prop} {X : XQ}
structure WorthP (P : Prog) : Prop where
  j : P "joined_worth" = some D.joined_worth
  w : P "worth_of" = some D.worth_of
/-! the judge's own reckoning -/
def oV : Option Int → Val
  | none => .non
  | some i => .int i
@[simp] theorem oV_some (i : Int) : oV (some i) = .int i := rfl
@[simp] theorem oV_none : oV none = .non := rfl
structure LWorthP (P : Prog) : Prop where
  j : P "_law_joined" = some D._law_joined
  w : P "_law_worth" = some D._law_worth
end
end Mi
/-! Lb: pots, what is drawn out of them. -/
namespace Mi
open PySem (Str)
def Pot (μ : Mu) (p : Ad) : Prop := ∃ l : List Int, μ p = some (.lst (l.map Val.int)) ∧ l ≠ [] ∧ l.length ≤ 100 ∧ ∀ x ∈ l, 0 ≤ x
structure Pw (p : Ad) (μ μ' : Mu) : Prop where
  pot : Pot μ' p
  eq : ∀ a, a ≠ p → μ' a = μ a
theorem Pw.refl {p : Ad} {μ : Mu} (h : Pot μ p) : Pw p μ μ := ⟨h, fun _ _ => rfl⟩
theorem Pw.trans {p : Ad} {μ μ1 μ2 : Mu} (a : Pw p μ μ1) (b : Pw p μ1 μ2) : Pw p μ μ2 := ⟨b.pot, fun c h => (b.eq c h).trans (a.eq c h)⟩
theorem Pot.some {p : Ad} {μ : Mu} (h : Pot μ p) : (μ p).isSome = true := by obtain ⟨l, e, _⟩ := h; rw [e]; rfl
theorem Pot.ne {p q : Ad} {μ : Mu} (h : Pot μ p) (hq : μ q = none) : q ≠ p := fun e => by have := h.some; rw [← e, hq] at this; cases this
theorem Pot.set {p q : Ad} {μ : Mu} {v : Val} (h : Pot μ p) (hq : q ≠ p) : Pot (μ.set q v) p := by
  obtain ⟨l, e, r⟩ := h
  exact ⟨l, by rw [mset_ne (Ne.symm hq)]; exact e, r⟩
theorem Pw.cut {p : Ad} {μ μ' : Mu} (h0 : Pot μ p) (h : Pot μ' p) (he : ∀ a, (μ a).isSome = true → a ≠ p → μ' a = μ a) : Pw p μ (μ'.cut μ) := by
  have hp := h0.some
  refine ⟨?_, fun a ha => ?_⟩
  · obtain ⟨l, e, r⟩ := h
    exact ⟨l, by unfold Mu.cut; rw [if_pos hp]; exact e, r⟩
  · unfold Mu.cut
    split
    · exact he a ‹_› ha
    · cases q : μ a with
      | none => rfl
      | some v => rename_i z; rw [q] at z; exact (z rfl).elim
section
variable {P : Prog} {n : Nat} {μ : Mu} {Q : Val → Mu → Prop} {X : XQ} {p : Ad}
def strsV (l : List Str) : Val := .lst (l.map Val.str)
structure DrawP (P : Prog) : Prop where
  t : P "_law_take" = some D._law_take
  v : P "_law_value" = some D._law_value
  d : P "_law_drawn" = some D._law_drawn
theorem plainL_strs (l : List Str) : plainL (l.map Val.str) = true ∧ depL (l.map Val.str) = 0 := by
  induction l with
  | nil => exact ⟨rfl, rfl⟩
  | cons a r ih => simp [plainL, plain, depL, dep, ih]
def Ex.names : Ex → List Str
  | .num _ => []
  | .nam s => [s]
  | .op _ a b => a.names ++ b.names
def Ex.small : Ex → Prop
  | .num i => 0 ≤ i ∧ i < 1000000
  | .nam _ => True
  | .op _ a b => a.small ∧ b.small
theorem Ex.small.ok : ∀ {e : Ex}, e.small → e.ok
  | .num i, h => by unfold Ex.small at h; show bd i; unfold bd; omega
  | .nam _, _ => trivial
  | .op _ a b, h => ⟨Ex.small.ok h.1, Ex.small.ok h.2⟩
/-! names -/
theorem strI_len {i : Int} (h0 : 0 ≤ i) (h1 : i < 1000000000000) : (strI i).length ≤ 12 := by
  unfold strI
  rw [os_len]
  cases i with
  | ofNat m =>
    show (Nat.repr m).length ≤ 12
    rw [Nat.length_repr_le_iff (by decide)]
    have : (Int.ofNat m) = (m : Int) := rfl
    rw [this] at h1
    omega
  | negSucc m => omega
theorem log_small {i : Int} (h0 : 0 ≤ i) (h1 : i < 1000000000000) : i.natAbs.log2 < 1920 := by
  rcases Nat.eq_zero_or_pos i.natAbs with h | h
  · rw [h]; decide
  · rw [Nat.log2_lt (by omega)]
    have h2 : i.natAbs < 2 ^ 40 := by omega
    have h3 : (2 : Nat) ^ 40 ≤ 2 ^ 1920 := Nat.pow_le_pow_right (by decide) (by decide)
    exact Nat.lt_of_lt_of_le h2 h3
@[simp] theorem eqb_str {a b : Str} : eqb (.str a) (.str b) = (a == b) := rfl
theorem any_strs {l : List Str} {s : Str} : (l.map Val.str).any (fun y => eqb y (.str s)) = decide (s ∈ l) := by
  induction l with
  | nil => simp
  | cons a r ih =>
    rw [List.map_cons, List.any_cons, ih, eqb_str, Bool.eq_iff_iff]
    simp only [List.mem_cons, Bool.or_eq_true, beq_iff_eq, decide_eq_true_eq]
    exact ⟨fun h => h.imp Eq.symm id, fun h => h.imp Eq.symm id⟩
theorem in_strs {v : Val} {l : List Str} {s : Str} (h : content μ v = some (.lst (l.map Val.str))) : inV μ (.str s) v = some (decide (s ∈ l)) := by
  unfold inV
  rw [h]
  have h1 := plainL_strs l
  show (if plain (.str s) = true ∧ plainL (l.map Val.str) = true ∧ min (dep (.str s)) (depL (l.map Val.str)) ≤ 150 then some ((l.map Val.str).any fun y => eqb y (.str s)) else none) = _
  rw [if_pos ⟨rfl, h1.1, by rw [h1.2]; exact Nat.zero_le _⟩, any_strs]
def nmOk (s : Str) : Prop := s.length ≤ 4 ∧ ∀ c ∈ s.cps.toList, 97 ≤ c ∧ c ≤ 122
end
/-! held values -/
def hput (s : Str) (v : Int) : Hd → Hd
  | [] => [(s, v)]
  | (k, w) :: r => if s == k then (k, v) :: r else (k, w) :: hput s v r
end Mi
/-! Lc: names and depths of expressions. -/
namespace Mi
open PySem (Str)
section
variable {P : Prog} {n : Nat} {μ : Mu} {Q : Val → Mu → Prop} {X : XQ} {p : Ad}
/-! the judge's own reading, by a list of what is left -/
def Ex.size : Ex → Nat
  | .num _ => 1
  | .nam _ => 1
  | .op _ a b => a.size + b.size + 1
def leftV (l : List (Ex × Int)) : Val := .lst (l.map fun p => .tup [p.1.v, .int p.2])
def restN (l : List (Ex × Int)) : List Str := (l.reverse.map fun p => p.1.names).flatten
def restD (l : List (Ex × Int)) (d : Int) : Int := l.foldr (fun p m => max m (p.2 + (p.1.deep : Int) - 1)) d
def restS (l : List (Ex × Int)) : Nat := (l.map fun p => p.1.size).sum
theorem Ex.plain : ∀ e : Ex, Mi.plain e.v = true
  | .num _ => rfl
  | .nam _ => rfl
  | .op w a b => by simp [Ex.v, Mi.plain, Mi.plainL, Ex.plain a, Ex.plain b]
end
end Mi
/-! Ld: rows, deeds, books as data. -/
namespace Mi
open PySem (Str)
theorem plain_nr' : (∀ v, plain v = true → nr v = true) ∧ (∀ l, plainL l = true → nrL l = true) := by
  have : ∀ n : Nat, (∀ v, sizeOf v < n → plain v = true → nr v = true) ∧ (∀ l, sizeOf l < n → plainL l = true → nrL l = true) := by
    intro n
    induction n with
    | zero => exact ⟨fun v h => by omega, fun l h => by omega⟩
    | succ n ih =>
      refine ⟨fun v h p => ?_, fun l h p => ?_⟩
      · cases v with
        | tup l => exact ih.2 l (by simp at h; omega) p
        | lst l => exact ih.2 l (by simp at h; omega) p
        | _ => first | rfl | cases p
      · cases l with
        | nil => rfl
        | cons v r =>
          simp only [plainL, Bool.and_eq_true] at p
          simp only [nrL, Bool.and_eq_true]
          exact ⟨ih.1 v (by simp at h; omega) p.1, ih.2 r (by simp at h; omega) p.2⟩
  exact ⟨fun v => (this (sizeOf v + 1)).1 v (Nat.lt_succ_self _), fun l => (this (sizeOf l + 1)).2 l (Nat.lt_succ_self _)⟩
theorem plain_nr {v : Val} (h : plain v = true) : nr v = true := plain_nr'.1 v h
theorem plainL_nr {l : List Val} (h : plainL l = true) : nrL l = true := plain_nr'.2 l h
theorem eqb_refl' : (∀ v, plain v = true → eqb v v = true) ∧ (∀ l, plainL l = true → eqbL l l = true) := by
  have : ∀ n : Nat, (∀ v, sizeOf v < n → plain v = true → eqb v v = true) ∧ (∀ l, sizeOf l < n → plainL l = true → eqbL l l = true) := by
    intro n
    induction n with
    | zero => exact ⟨fun v h => by omega, fun l h => by omega⟩
    | succ n ih =>
      refine ⟨fun v h p => ?_, fun l h p => ?_⟩
      · cases v with
        | tup l => unfold eqb; exact ih.2 l (by simp at h; omega) p
        | lst l => unfold eqb; exact ih.2 l (by simp at h; omega) p
        | non => simp [eqb]
        | bl b => simp [eqb]
        | int i => simp [eqb]
        | str s => simp [eqb]
        | _ => cases p
      · cases l with
        | nil => simp [eqbL]
        | cons v r =>
          simp only [plainL, Bool.and_eq_true] at p
          unfold eqbL
          simp only [Bool.and_eq_true]
          exact ⟨ih.1 v (by simp at h; omega) p.1, ih.2 r (by simp at h; omega) p.2⟩
  exact ⟨fun v => (this (sizeOf v + 1)).1 v (Nat.lt_succ_self _), fun l => (this (sizeOf l + 1)).2 l (Nat.lt_succ_self _)⟩
theorem eqb_refl {v : Val} (h : plain v = true) : eqb v v = true := eqb_refl'.1 v h
theorem plainL_iff {l : List Val} : plainL l = true ↔ ∀ v ∈ l, plain v = true := by
  induction l with
  | nil => simp [plainL]
  | cons v r ih => simp [plainL, ih]
theorem depL_le {l : List Val} {k : Nat} : depL l ≤ k ↔ ∀ v ∈ l, dep v ≤ k := by
  induction l with
  | nil => simp [depL]
  | cons v r ih => simp only [depL, List.forall_mem_cons, ← ih]; omega
theorem eq_same {μ : Mu} {v w x : Val} (hv : content μ v = some x) (hw : content μ w = some x) (hp : plain x = true) (hd : dep x ≤ 150) : eqV μ v w = some true := by
  refine eqV_of hv hw ?_
  rw [eq_plain hp hp (by omega) (fun l e => by rw [e] at hp; cases hp), eqb_refl hp]
inductive Rw where
  | set (n : Str) (e : Ex)
  | say (e : Ex)
  | call (n w : Str) (as : List Ex) (m : Int)
  | when (e : Ex) (a b : List Rw)
  | turn (e : Ex) (b : List Rw)
mutual
def Rw.v : Rw → Val
  | .set n e => .tup [.str (Str.ofString "set"), .str n, e.v]
  | .say e => .tup [.str (Str.ofString "say"), e.v]
  | .call n w as m => .tup [.str (Str.ofString "call"), .str n, .str w, .tup (as.map Ex.v), .int m]
  | .when e a b => .tup [.str (Str.ofString "when"), e.v, .tup (Rw.vs a), .tup (Rw.vs b)]
  | .turn e b => .tup [.str (Str.ofString "turn"), e.v, .tup (Rw.vs b)]
def Rw.vs : List Rw → List Val
  | [] => []
  | r :: t => r.v :: Rw.vs t
end
theorem vs_map : ∀ l : List Rw, Rw.vs l = l.map Rw.v
  | [] => rfl
  | r :: t => by rw [Rw.vs, vs_map t]; rfl
mutual
def Rw.flat : Rw → List Rw
  | .set n e => [.set n e]
  | .say e => [.say e]
  | .call n w as m => [.call n w as m]
  | .when e a b => .when e a b :: (flats a ++ flats b)
  | .turn e b => .turn e b :: flats b
def flats : List Rw → List Rw
  | [] => []
  | r :: t => r.flat ++ flats t
end
mutual
def Rw.dp : Rw → Nat
  | .set _ _ => 1
  | .say _ => 1
  | .call _ _ _ _ => 1
  | .when _ a b => max (dps a) (dps b) + 1
  | .turn _ b => dps b + 1
def dps : List Rw → Nat
  | [] => 0
  | r :: t => max r.dp (dps t)
end
def Rw.within : Rw → List Rw
  | .when _ a b => a ++ b
  | .turn _ b => b
  | _ => []
theorem flats_append : ∀ (a b : List Rw), flats (a ++ b) = flats a ++ flats b
  | [], b => rfl
  | r :: t, b => by rw [List.cons_append, flats, flats, flats_append t b, List.append_assoc]
theorem dps_append : ∀ (a b : List Rw), dps (a ++ b) = max (dps a) (dps b)
  | [], b => by simp [dps]
  | r :: t, b => by rw [List.cons_append, dps, dps, dps_append t b]; omega
theorem Rw.flat_eq (r : Rw) : r.flat = r :: flats r.within := by
  cases r <;> simp [Rw.flat, Rw.within, flats, flats_append]
theorem Rw.dp_eq (r : Rw) : r.dp = dps r.within + 1 := by
  cases r <;> simp [Rw.dp, Rw.within, dps, dps_append]
theorem flats_len : ∀ l : List Rw, l.length ≤ (flats l).length
  | [] => Nat.le_refl 0
  | r :: t => by
    have := flats_len t
    rw [flats, r.flat_eq]
    simp
    omega
def Rw.mark : Rw → Option Int
  | .call _ _ _ m => some m
  | _ => none
def mks (l : List Rw) : List Int := (flats l).filterMap Rw.mark
theorem mks_append (a b : List Rw) : mks (a ++ b) = mks a ++ mks b := by unfold mks; rw [flats_append, List.filterMap_append]
theorem mks_cons (r : Rw) (t : List Rw) : mks (r :: t) = r.flat.filterMap Rw.mark ++ mks t := by unfold mks; rw [flats, List.filterMap_append]
structure ExOk (names : List Str) (e : Ex) : Prop where
  small : e.small
  deep : e.deep ≤ 3
  names : ∀ s ∈ e.names, s ∈ names
def Rw.ok (names : List Str) (hs : List (Str × List Str)) : Rw → Prop
  | .set n e => n ∈ names ∧ ExOk names e
  | .say e => ExOk names e
  | .call n w as m => n ∈ names ∧ (∀ e ∈ as, ExOk names e) ∧ (∃ ps, (w, ps) ∈ hs ∧ as.length = ps.length) ∧ 0 ≤ m ∧ m < 100
  | .when e _ _ => ExOk names e
  | .turn e _ => ExOk names e
def RwsOk (names : List Str) (hs : List (Str × List Str)) (l : List Rw) : Prop := ∀ r ∈ flats l, r.ok names hs
theorem Ex.dep_le : ∀ e : Ex, dep e.v ≤ e.deep
  | .num _ => by simp [Ex.v, dep, depL, Ex.deep]
  | .nam _ => by simp [Ex.v, dep, depL, Ex.deep]
  | .op w a b => by
    have := Ex.dep_le a
    have := Ex.dep_le b
    simp only [Ex.v, dep, depL, Ex.deep]
    omega
mutual
theorem Rw.plain : ∀ r : Rw, Mi.plain r.v = true
  | .set n e => by simp [Rw.v, Mi.plain, Mi.plainL, Ex.plain]
  | .say e => by simp [Rw.v, Mi.plain, Mi.plainL, Ex.plain]
  | .call n w as m => by
    have : plainL (as.map Ex.v) = true := plainL_iff.mpr fun v hv => by obtain ⟨e, _, rfl⟩ := List.mem_map.mp hv; exact Ex.plain e
    simp [Rw.v, Mi.plain, Mi.plainL, this]
  | .when e a b => by simp [Rw.v, Mi.plain, Mi.plainL, Ex.plain, Rw.plains a, Rw.plains b]
  | .turn e b => by simp [Rw.v, Mi.plain, Mi.plainL, Ex.plain, Rw.plains b]
theorem Rw.plains : ∀ l : List Rw, Mi.plainL (Rw.vs l) = true
  | [] => rfl
  | r :: t => by simp [Rw.vs, Mi.plainL, Rw.plain r, Rw.plains t]
end
def Rw.low : Rw → Prop
  | .set _ e => e.deep ≤ 3
  | .say e => e.deep ≤ 3
  | .call _ _ as _ => ∀ e ∈ as, e.deep ≤ 3
  | .when e _ _ => e.deep ≤ 3
  | .turn e _ => e.deep ≤ 3
theorem Rw.ok.low {names : List Str} {hs : List (Str × List Str)} {r : Rw} (h : r.ok names hs) : r.low := by
  cases r with
  | set n e => exact h.2.deep
  | say e => exact h.deep
  | call n w as m => exact fun e he => (h.2.1 e he).deep
  | when e a b => exact h.deep
  | turn e b => exact h.deep
mutual
theorem Rw.dep_le : ∀ r : Rw, (∀ q ∈ r.flat, q.low) → dep r.v ≤ 2 * r.dp + 3
  | .set n e, h => by
    have h1 : e.deep ≤ 3 := h (.set n e) (by simp [Rw.flat])
    have := e.dep_le
    simp only [Rw.v, dep, depL, Rw.dp]; omega
  | .say e, h => by
    have h1 : e.deep ≤ 3 := h (.say e) (by simp [Rw.flat])
    have := e.dep_le
    simp only [Rw.v, dep, depL, Rw.dp]; omega
  | .call n w as m, h => by
    have h1 : ∀ e ∈ as, e.deep ≤ 3 := h (.call n w as m) (by simp [Rw.flat])
    have h2 : depL (as.map Ex.v) ≤ 3 := depL_le.mpr fun v hv => by
      obtain ⟨e, he, rfl⟩ := List.mem_map.mp hv
      have := e.dep_le
      have := h1 e he
      omega
    simp only [Rw.v, dep, depL, Rw.dp]; omega
  | .when e a b, h => by
    have h1 : e.deep ≤ 3 := h (.when e a b) (by simp [Rw.flat])
    have := e.dep_le
    have h2 := Rw.deps_le a fun q hq => h q (by simp [Rw.flat, hq])
    have h3 := Rw.deps_le b fun q hq => h q (by simp [Rw.flat, hq])
    simp only [Rw.v, dep, depL, Rw.dp]; omega
  | .turn e b, h => by
    have h1 : e.deep ≤ 3 := h (.turn e b) (by simp [Rw.flat])
    have := e.dep_le
    have h3 := Rw.deps_le b fun q hq => h q (by simp [Rw.flat, hq])
    simp only [Rw.v, dep, depL, Rw.dp]; omega
theorem Rw.deps_le : ∀ l : List Rw, (∀ q ∈ flats l, q.low) → depL (Rw.vs l) ≤ 2 * dps l + 3
  | [], h => by simp [Rw.vs, depL]
  | r :: t, h => by
    have h2 := Rw.dep_le r fun q hq => h q (by simp [flats, hq])
    have h3 := Rw.deps_le t fun q hq => h q (by simp [flats, hq])
    simp only [Rw.vs, depL, dps]; omega
end
mutual
theorem Rw.sub : ∀ (x : Rw) {r : Rw}, r ∈ x.flat → (∀ q ∈ r.flat, q ∈ x.flat) ∧ r.dp ≤ x.dp
  | .set n e, r, h => by simp [Rw.flat] at h; subst h; exact ⟨fun _ h => h, Nat.le_refl _⟩
  | .say e, r, h => by simp [Rw.flat] at h; subst h; exact ⟨fun _ h => h, Nat.le_refl _⟩
  | .call n w as m, r, h => by simp [Rw.flat] at h; subst h; exact ⟨fun _ h => h, Nat.le_refl _⟩
  | .when e a b, r, h => by
    rw [Rw.flat] at h
    rcases List.mem_cons.mp h with h | h
    · subst h; exact ⟨fun _ h => h, Nat.le_refl _⟩
    · rcases List.mem_append.mp h with h | h
      · have := flats_sub a h
        exact ⟨fun q hq => by rw [Rw.flat]; exact List.mem_cons_of_mem _ (List.mem_append_left _ (this.1 q hq)), by have := this.2; simp only [Rw.dp]; omega⟩
      · have := flats_sub b h
        exact ⟨fun q hq => by rw [Rw.flat]; exact List.mem_cons_of_mem _ (List.mem_append_right _ (this.1 q hq)), by have := this.2; simp only [Rw.dp]; omega⟩
  | .turn e b, r, h => by
    rw [Rw.flat] at h
    rcases List.mem_cons.mp h with h | h
    · subst h; exact ⟨fun _ h => h, Nat.le_refl _⟩
    · have := flats_sub b h
      exact ⟨fun q hq => by rw [Rw.flat]; exact List.mem_cons_of_mem _ (this.1 q hq), by have := this.2; simp only [Rw.dp]; omega⟩
theorem flats_sub : ∀ (l : List Rw) {r : Rw}, r ∈ flats l → (∀ q ∈ r.flat, q ∈ flats l) ∧ r.dp ≤ dps l
  | [], r, h => by simp [flats] at h
  | x :: t, r, h => by
    rw [flats] at h
    rcases List.mem_append.mp h with h | h
    · have := Rw.sub x h
      exact ⟨fun q hq => by rw [flats]; exact List.mem_append_left _ (this.1 q hq), by have := this.2; simp only [dps]; omega⟩
    · have := flats_sub t h
      exact ⟨fun q hq => by rw [flats]; exact List.mem_append_right _ (this.1 q hq), by have := this.2; simp only [dps]; omega⟩
end
structure Dd where
  name : Str
  ps : List Str
  rows : List Rw
  give : Ex
def Dd.v (d : Dd) : Val := .tup [.str d.name, .tup (d.ps.map Val.str), .tup (Rw.vs d.rows), d.give.v]
theorem Dd.plain (d : Dd) : Mi.plain d.v = true := by
  have h := plainL_strs d.ps
  simp [Dd.v, Mi.plain, Mi.plainL, Rw.plains, Ex.plain, h.1]
def Dd.head (d : Dd) : Str × List Str := (d.name, d.ps)
def headV (h : Str × List Str) : Val := .tup [.str h.1, .tup (h.2.map Val.str)]
def bmks (b : List Dd) : List Int := (b.map fun d => mks d.rows).flatten
structure DdOk (names : List Str) (hs : List (Str × List Str)) (d : Dd) : Prop where
  rows : RwsOk names hs d.rows
  dp : dps d.rows ≤ 3
  len : (flats d.rows).length ≤ 20
  give : ExOk names d.give
  nd : d.ps.Nodup
  pl : d.ps.length ≤ 4
  sub : ∀ s ∈ d.ps, s ∈ names
theorem DdOk.dep {names : List Str} {hs : List (Str × List Str)} {d : Dd} (h : DdOk names hs d) : dep d.v ≤ 12 := by
  have h1 := Rw.deps_le d.rows fun q hq => (h.rows q hq).low
  have h2 := plainL_strs d.ps
  have h3 := h.give.deep
  have h4 := d.give.dep_le
  have h5 := h.dp
  simp only [Dd.v, Mi.dep, depL, h2.2]
  omega
structure BkOk (names : List Str) (b : List Dd) : Prop where
  ne : b ≠ []
  len : b.length ≤ 8
  nm : (b.map Dd.name).Nodup
  dd : ∀ d ∈ b, DdOk names (b.map Dd.head) d
  mn : (bmks b).Nodup
  mkl : (bmks b).length ≤ 10
  wl : ∀ d ∈ b, d.name.length ≤ 12
  nn : names.Nodup
  nl : names.length ≤ 6
  nok : ∀ s ∈ names, nmOk s
theorem bk_plain (b : List Dd) : plainL (b.map Dd.v) = true := plainL_iff.mpr fun v hv => by obtain ⟨d, _, rfl⟩ := List.mem_map.mp hv; exact d.plain
theorem BkOk.dep {names : List Str} {b : List Dd} (h : BkOk names b) : depL (b.map Dd.v) ≤ 12 := depL_le.mpr fun v hv => by obtain ⟨d, hd, rfl⟩ := List.mem_map.mp hv; exact (h.dd d hd).dep
theorem w_seq_inv {Φ : Ph} (hΦ : MonoP Φ) (I : Env → Mu → Prop) {a b : S} {env : Env} {μ : Mu} {D : En} (h1 : wpS Φ a env μ { D with nx := I }) (h2 : ∀ e m, I e m → wpS Φ b e m D) : wpS Φ (.seq a b) env μ D := by
  rw [w_seq]
  exact wpS_mono hΦ a env μ { D with nx := I } _ ⟨h2, fun _ _ z => z, fun _ _ _ z => z⟩ h1
/-! loops over data of one kind -/
theorem for_T {α : Type} (g : α → Val) (xs : List α) {Φ : Ph} (hΦ : MonoP Φ) {t : Tg} {it : It} {b : S} {env : Env} {μ : Mu} {D : En}
    (h : wpI Φ it env μ (fun l a μ1 => l = xs.map g ∧ ∃ I : List α → Env → Mu → Prop, I [] env μ1 ∧
      (∀ ys x zs env' μ', xs = ys ++ x :: zs → I ys env' μ' → gOk a μ' ∧ brV (t.asg (g x) env') fun env2 => wpS Φ b env2 μ' { D with nx := fun e m => I (ys ++ [x]) e m }) ∧
      (∀ env' μ', I xs env' μ' → gOk a μ' ∧ D.nx env' μ')) fun x μ' => D.ex x env μ') : wpS Φ (.forS t it b) env μ D := by
  refine for_rule hΦ (wpI_mono hΦ it env μ _ _ _ _ (fun l a μ1 ⟨hl, I, h0, hs, he⟩ => ?_) (fun _ _ z => z) h)
  subst hl
  refine ⟨fun done env' μ' => ∃ ys zs, xs = ys ++ zs ∧ done = ys.map g ∧ I ys env' μ', ⟨[], xs, rfl, rfl, h0⟩, ?_, ?_⟩
  · rintro done v rest env' μ' e ⟨ys, zs, hx, rfl, hI⟩
    obtain ⟨x, zs', rfl, rfl⟩ := split_map e hx
    obtain ⟨h1, h2⟩ := hs ys x zs' env' μ' hx hI
    refine ⟨h1, ?_⟩
    cases ha : t.asg (g x) env' with
    | none => rw [ha] at h2; exact h2.elim
    | some env2 =>
      rw [ha] at h2
      exact wpS_mono hΦ b env2 μ' { D with nx := fun e m => I (ys ++ [x]) e m } _ ⟨fun e m z => ⟨ys ++ [x], zs', by rw [hx]; simp, by simp, z⟩, fun _ _ z => z, fun _ _ _ z => z⟩ h2
  · rintro env' μ' ⟨ys, zs, hx, e, hI⟩
    have hz : zs = [] := by
      have := congrArg List.length e
      rw [hx] at this
      simp at this
      exact this
    subst hz
    rw [List.append_nil] at hx
    subst hx
    exact he _ _ hI
theorem comp_T {α : Type} (g : α → Val) (xs : List α) {Φ : Ph} (hΦ : MonoP Φ) {elt : E} {tg : Tg} {own : List Nat} {it : It} {cond : E} {env : Env} {μ : Mu} {Q : Val → Mu → Prop} {X : XQ}
    (h : wpI Φ it env μ (fun l a μ1 => l = xs.map g ∧ ∃ I : List α → List Val → Mu → Prop, I [] [] μ1 ∧
      (∀ ys x zs acc μ', xs = ys ++ x :: zs → I ys acc μ' → gOk a μ' ∧ brV (tg.asg (g x) (wipe env own)) fun env' =>
        wpE Φ cond env' μ' (fun t μ3 => br (truthV μ3 t) (wpE Φ elt env' μ3 (fun y μ4 => acc.length < big ∧ I (ys ++ [x]) (acc ++ [y]) μ4) fun _ _ => False) (I (ys ++ [x]) acc μ3)) fun _ _ => False) ∧
      (∀ acc μ', I xs acc μ' → gOk a μ' ∧ Q (.lst acc) μ')) X) : wpE Φ (.comp elt tg own it cond) env μ Q X := by
  refine comp_inv hΦ (wpI_mono hΦ it env μ _ _ _ _ (fun l a μ1 ⟨hl, I, h0, hs, he⟩ => ?_) (fun _ _ z => z) h)
  subst hl
  refine ⟨fun done acc μ' => ∃ ys zs, xs = ys ++ zs ∧ done = ys.map g ∧ I ys acc μ', ⟨[], xs, rfl, rfl, h0⟩, ?_, ?_⟩
  · rintro done v rest acc μ' e ⟨ys, zs, hx, rfl, hI⟩
    obtain ⟨x, zs', rfl, rfl⟩ := split_map e hx
    obtain ⟨h1, h2⟩ := hs ys x zs' acc μ' hx hI
    refine ⟨h1, ?_⟩
    cases ha : tg.asg (g x) (wipe env own) with
    | none => rw [ha] at h2; exact h2.elim
    | some env' =>
      rw [ha] at h2
      refine wpE_mono hΦ cond env' μ' _ _ _ _ (fun t μ3 z => ?_) (fun _ _ z => z) h2
      cases ht : truthV μ3 t with
      | none => rw [ht] at z; exact z.elim
      | some b =>
        rw [ht] at z
        cases b with
        | false => exact ⟨ys ++ [x], zs', by rw [hx]; simp, by simp, z⟩
        | true => exact wpE_mono hΦ elt env' μ3 _ _ _ _ (fun y μ4 y2 => ⟨y2.1, ys ++ [x], zs', by rw [hx]; simp, by simp, y2.2⟩) (fun _ _ z => z) z
  · rintro acc μ' ⟨ys, zs, hx, e, hI⟩
    have hz : zs = [] := by
      have := congrArg List.length e
      rw [hx] at this
      simp at this
      exact this
    subst hz
    rw [List.append_nil] at hx
    subst hx
    exact he _ _ hI
def enumT {α : Type} (i : Int) : List α → List (Int × α)
  | [] => []
  | v :: r => (i, v) :: enumT (i + 1) r
theorem enum_map {α : Type} (g : α → Val) : ∀ (l : List α) (i : Int), enumL i (l.map g) = (enumT i l).map fun p => .tup [.int p.1, g p.2]
  | [], i => rfl
  | v :: r, i => by rw [List.map_cons, enumL, enumT, List.map_cons, enum_map g r (i + 1)]
theorem enumT_at {α : Type} : ∀ {l : List α} {i : Int} {ys : List (Int × α)} {x : Int × α} {zs : List (Int × α)}, enumT i l = ys ++ x :: zs → x.1 = i + ys.length ∧ ∃ l1 l2, l = l1 ++ x.2 :: l2 ∧ ys = enumT i l1 ∧ l1.length = ys.length
  | [], i, ys, x, zs, h => by cases ys <;> cases h
  | v :: r, i, [], x, zs, h => by
    rw [enumT, List.nil_append] at h
    injection h with h1 h2
    subst h1
    exact ⟨by simp, [], r, rfl, rfl, rfl⟩
  | v :: r, i, y :: ys, x, zs, h => by
    rw [enumT, List.cons_append] at h
    injection h with h1 h2
    obtain ⟨e, l1, l2, hl, hy, hlen⟩ := enumT_at h2
    subst h1
    refine ⟨by rw [e]; simp; omega, v :: l1, l2, by rw [hl]; rfl, by rw [enumT, hy], by simp [hlen]⟩
theorem enumT_snd {α : Type} : ∀ (l : List α) (i : Int), (enumT i l).map Prod.snd = l
  | [], _ => rfl
  | v :: r, i => by rw [enumT, List.map_cons, enumT_snd r]
theorem ints_map (i : Int) (n : Nat) : intsFrom i n = (List.range n).map fun (k : Nat) => Val.int (i + (k : Int)) := rfl
end Mi
/-! Le: the functions about books. -/
namespace Mi
open PySem (Str)
theorem cut_keep {μ μ' : Mu} (h : ∀ a, (μ a).isSome = true → μ' a = μ a) : μ'.cut μ = μ := by
  funext c
  unfold Mu.cut
  cases hz : μ c with
  | none => simp
  | some v =>
    have := h c (by rw [hz]; rfl)
    simp [this, hz]
theorem isSome_ne {μ : Mu} {a r : Ad} (h : (μ a).isSome = true) (hr : μ r = none) : a ≠ r := fun e => by rw [e, hr] at h; cases h
theorem vs_nr (l : List Rw) : nrL (Rw.vs l) = true := plainL_nr (Rw.plains l)
theorem vs_append (a b : List Rw) : Rw.vs (a ++ b) = Rw.vs a ++ Rw.vs b := by rw [vs_map, vs_map, vs_map, List.map_append]
theorem vs_len (a : List Rw) : (Rw.vs a).length = a.length := by rw [vs_map, List.length_map]
theorem flats_snoc (ys : List Rw) (x : Rw) : flats (ys ++ [x]) = flats ys ++ x :: flats x.within := by rw [flats_append, flats, flats, List.append_nil, x.flat_eq]
section
variable {P : Prog} {n : Nat} {μ : Mu} {Q : Val → Mu → Prop} {X : XQ} {p : Ad}
structure BkP (P : Prog) : Prop where
  w : P "rows_within" = some D.rows_within
  r : P "read_through" = some D.read_through
def resV (m : Md) (μ : Mu) (Q : Val → Mu → Prop) (v : Val) : Prop := match m with
  | .obj => ∀ r, μ r = none → Q (.ref r) (μ.set r v)
  | _ => Q v μ
def RowsOf (P : Prog) : Prop := P "rows_of" = some D.rows_of ∨ P "rows_of" = some D.rows_of_v2
structure BkP2 (P : Prog) : Prop extends BkP P where
  ro : RowsOf P
  dof : P "deed_of" = some D.deed_of
  ln : P "look_at_names" = some D.look_at_names
  lc : P "look_at_call" = some D.look_at_call
  mb : P "made_book" = some D.made_book
theorem Rw.kind (r : Rw) : (∃ n w as m, r = .call n w as m) ∨ (r.mark = none ∧ ∃ s t, r.v = .tup (.str s :: t) ∧ (s == Str.ofString "call") = false) := by
  cases r with
  | call n w as m => exact .inl ⟨n, w, as, m, rfl⟩
  | set n e => exact .inr ⟨rfl, _, _, rfl, by simp⟩
  | say e => exact .inr ⟨rfl, _, _, rfl, by simp⟩
  | when e a b => exact .inr ⟨rfl, _, _, rfl, by simp⟩
  | turn e b => exact .inr ⟨rfl, _, _, rfl, by simp⟩
end
end Mi
/-! Sa: what is drawn from a state of two numbers. -/
namespace Mi
open PySem (Str)
def Sta (μ : Mu) (p : Ad) : Prop := ∃ a b : Int, μ p = some (.lst [.int a, .int b]) ∧ 0 ≤ b ∧ b < 2147483647
structure Sw (p : Ad) (μ μ' : Mu) : Prop where
  st : Sta μ' p
  eq : ∀ a, a ≠ p → μ' a = μ a
theorem Sw.refl {p : Ad} {μ : Mu} (h : Sta μ p) : Sw p μ μ := ⟨h, fun _ _ => rfl⟩
theorem Sw.trans {p : Ad} {μ μ1 μ2 : Mu} (a : Sw p μ μ1) (b : Sw p μ1 μ2) : Sw p μ μ2 := ⟨b.st, fun c h => (b.eq c h).trans (a.eq c h)⟩
theorem Sta.some {p : Ad} {μ : Mu} (h : Sta μ p) : (μ p).isSome = true := by obtain ⟨a, b, e, _⟩ := h; rw [e]; rfl
theorem Sta.ne {p q : Ad} {μ : Mu} (h : Sta μ p) (hq : μ q = none) : q ≠ p := fun e => by have := h.some; rw [← e, hq] at this; cases this
theorem Sw.cut {p : Ad} {μ μ' : Mu} (h0 : Sta μ p) (h : Sta μ' p) (he : ∀ a, (μ a).isSome = true → a ≠ p → μ' a = μ a) : Sw p μ (μ'.cut μ) := by
  have hp := h0.some
  refine ⟨?_, fun a ha => ?_⟩
  · obtain ⟨a, b, e, r⟩ := h
    exact ⟨a, b, by unfold Mu.cut; rw [if_pos hp]; exact e, r⟩
  · unfold Mu.cut
    by_cases hs : (μ a).isSome = true
    · rw [if_pos hs]; exact he a hs ha
    · rw [if_neg hs]
      cases e : μ a with
      | none => rfl
      | some v => rw [e] at hs; exact (hs rfl).elim
theorem Sw.cut_ {p : Ad} {μ μ' : Mu} (h0 : Sta μ p) (h : Sw p μ μ') : μ'.cut μ = μ' := by
  funext a
  unfold Mu.cut
  cases e : μ a with
  | some v => simp
  | none => simp; rw [h.eq a (h0.ne e), e]
section
variable {P : Prog} {n : Nat} {μ : Mu} {Q : Val → Mu → Prop} {X : XQ} {p : Ad}
/-! ### names and expressions -/
abbrev svars : List Str := [Str.ofString "x", Str.ofString "y", Str.ofString "ab", Str.ofString "z"]
structure SxP (P : Prog) : Prop where
  n : P "_law_next" = some D._law_next
  v : P "_law_variable" = some D._law_variable
  e : P "_law_expression" = some D._law_expression
def ExprOk (P : Prog) (p : Ad) (d : Nat) : Prop := ∀ {n : Nat} {μ : Mu} {Q : Val → Mu → Prop} {X : XQ}, d ≤ 2 → Sta μ p → d + 3 ≤ n → (∀ e μ', ExOk svars e → e.deep ≤ d + 1 → Sw p μ μ' → Q e.v μ') → phi P n "_law_expression" .val [.ref p, .int (2 - (d : Int))] μ Q X
/-! ### heads -/
theorem ints0S (n : Nat) : intsFrom 0 n = (List.range n).map fun (k : Nat) => Val.int (k : Int) := by rw [ints_map]; simp
def snm (c : Nat) (shift : Int) (k : Nat) : Str := repS ⟨#[c]⟩ (1 + (3 * (k : Int) + shift).fmod 5)
abbrev Hs := List (Str × List Str)
def HsK (c : Nat) (shift : Int) (hs : Hs) : Prop := ∀ j h, hs[j]? = some h → h.1 = snm c shift j ∧ h.2.Nodup ∧ h.2.length ≤ 4 ∧ ∀ s ∈ h.2, s ∈ svars
end
end Mi
/-! Sb: rows drawn from a state, with a world at hand. -/
namespace Mi
open PySem (Str)
def woL (hs : Hs) (rings low : Int) (left shift room : Int) : List Val :=
  [.tup [.str (Str.ofString "heads"), .lst (hs.map headV)], .tup [.str (Str.ofString "rings"), .int rings], .tup [.str (Str.ofString "low"), .int low], .tup [.str (Str.ofString "left"), .int left], .tup [.str (Str.ofString "shift"), .int shift], .tup [.str (Str.ofString "room"), .int room]]
section
variable {μ : Mu} {w : Ad} {hs : Hs} {rings low shift left room : Int}
end
structure Ww (p w : Ad) (μ μ' : Mu) : Prop where
  st : Sta μ' p
  eq : ∀ a, a ≠ p → a ≠ w → μ' a = μ a
theorem Ww.trans {p w : Ad} {μ μ1 μ2 : Mu} (a : Ww p w μ μ1) (b : Ww p w μ1 μ2) : Ww p w μ μ2 := ⟨b.st, fun c h h2 => (b.eq c h h2).trans (a.eq c h h2)⟩
theorem Sw.ww {p w : Ad} {μ μ1 : Mu} (a : Sw p μ μ1) : Ww p w μ μ1 := ⟨a.st, fun c h _ => a.eq c h⟩
theorem Ww.cut_ {p w : Ad} {μ μ' : Mu} (h0 : Sta μ p) (hw : (μ w).isSome = true) (h : Ww p w μ μ') : μ'.cut μ = μ' := by
  funext a
  unfold Mu.cut
  cases e : μ a with
  | some v => simp
  | none => simp; rw [h.eq a (h0.ne e) (fun z => by rw [z] at e; rw [e] at hw; cases hw), e]
def mlS (shift : Int) (l l' : Nat) : List Int := (List.range (l - l')).map fun i => (7 * ((l - 1 - i : Nat) : Int) + shift).fmod 100
structure HsF (hs : Hs) : Prop where
  len : hs.length ≤ 8
  ps : ∀ h ∈ hs, h.2.length ≤ 4
structure SrP (P : Prog) : Prop where
  x : SxP P
  call : P "_law_call" = some D._law_call_v2
  row : P "_law_row" = some D._law_row_v2
  rows : P "_law_rows" = some D._law_rows_v2
section
variable {P : Prog} {n : Nat} {μ : Mu} {Q : Val → Mu → Prop} {X : XQ} {p w : Ad} {hs : Hs} {rings low shift : Int} {left room : Nat}
def WoAt (w : Ad) (hs : Hs) (rings low shift : Int) (left room : Nat) (μ : Mu) : Prop := μ w = some (.dct (woL hs rings low (left : Int) shift (room : Int)))
def RowsOkS (P : Prog) (p w : Ad) (hs : Hs) (rings low shift : Int) (d : Nat) : Prop := ∀ {n : Nat} {μ : Mu} {Q : Val → Mu → Prop} {X : XQ} {left room : Nat} {here : Int}, 8 + 2 * d ≤ n → Sta μ p → WoAt w hs rings low shift left room μ → 0 ≤ here → room ≤ 100 →
  (∀ (l : List Rw) (left' room' : Nat) μ', (∀ q ∈ flats l, q.ok svars hs) → dps l ≤ d + 1 → (flats l).length + room' = room → left' ≤ left → mks l = mlS shift left left' → Ww p w μ μ' → WoAt w hs rings low shift left' room' μ' → Q (.tup (l.map Rw.v)) μ') →
  phi P n "_law_rows" .val [.ref p, .ref w, .int here, .int (2 - (d : Int))] μ Q X
def RowOkS (P : Prog) (p w : Ad) (hs : Hs) (rings low shift : Int) (d : Nat) : Prop := ∀ {n : Nat} {μ : Mu} {Q : Val → Mu → Prop} {X : XQ} {left room : Nat} {here : Int}, 7 + 2 * d ≤ n → Sta μ p → WoAt w hs rings low shift left room μ → 0 ≤ here → room ≤ 100 →
  (∀ (r : Rw) (left' room' : Nat) μ', (∀ q ∈ flats [r], q.ok svars hs) → r.dp ≤ d + 1 → (flats r.within).length + room' = room → left' ≤ left → mks [r] = mlS shift left left' → Ww p w μ μ' → WoAt w hs rings low shift left' room' μ' → Q r.v μ') →
  phi P n "_law_row" .val [.ref p, .ref w, .int here, .int (2 - (d : Int))] μ Q X
structure RInv (p w : Ad) (hs : Hs) (rings low shift : Int) (d left rest : Nat) (μ : Mu) (k : Nat) (acc : List Val) (μ' : Mu) : Prop where
  ex : ∃ (l : List Rw) (left1 room1 : Nat), l.length = k ∧ acc = l.map Rw.v ∧ (∀ q ∈ flats l, q.ok svars hs) ∧ dps l ≤ d + 1 ∧ (flats l).length + room1 = k + rest ∧ left1 ≤ left ∧ mks l = mlS shift left left1 ∧ Ww p w μ μ' ∧ WoAt w hs rings low shift left1 room1 μ'
end
end Mi
/-! Sc: books drawn from cells. -/
namespace Mi
open PySem (Str)
def wo3 (hs : Hs) (rings low : Int) : List Val := [.tup [.str (Str.ofString "heads"), .lst (hs.map headV)], .tup [.str (Str.ofString "rings"), .int rings], .tup [.str (Str.ofString "low"), .int low]]
def wo5 (hs : Hs) (rings low left shift : Int) : List Val := wo3 hs rings low ++ [.tup [.str (Str.ofString "left"), .int left], .tup [.str (Str.ofString "shift"), .int shift]]
def wo4 (hs : Hs) (rings low left : Int) : List Val := wo3 hs rings low ++ [.tup [.str (Str.ofString "left"), .int left]]
def WoB (w : Ad) (hs : Hs) (rings low shift : Int) (left : Nat) (μ : Mu) : Prop := μ w = some (.dct (wo5 hs rings low left shift)) ∨ ∃ room : Nat, WoAt w hs rings low shift left room μ
section
variable {P : Prog} {n : Nat} {μ : Mu} {Q : Val → Mu → Prop} {X : XQ} {w : Ad} {hs : Hs} {rings low shift : Int} {left : Nat}
structure SdP (P : Prog) : Prop where
  r : SrP P
  st : P "_law_state" = some D._law_state
  hd : P "_law_heads" = some D._law_heads_v2
  de : P "_law_deeds" = some D._law_deeds
structure DI (hs : Hs) (shift : Int) (left0 left1 k : Nat) (b : List Dd) : Prop where
  len : b.length = k
  head : b.map Dd.head = hs.take k
  rows : ∀ d ∈ b, RwsOk svars hs d.rows ∧ dps d.rows ≤ 3 ∧ (flats d.rows).length ≤ 9 ∧ ExOk svars d.give
  mkl : bmks b = mlS shift left0 left1
  le : left1 ≤ left0
structure DInv (cs : List Int) (many : Int) (p w r : Ad) (hs : Hs) (rings low shift : Int) (left0 : Nat) (μ : Mu) (k : Nat) (env' : Env) (μ' : Mu) : Prop where
  ex : ∃ (b : List Dd) (left1 : Nat) (o7 o8 o9 o10 o11 : Option Val), env' = [some (.lst (cs.map .int)), some (.int many), some (.int rings), some (.int low), some (.ref p), some (.ref w), some (.ref r), o7, o8, o9, o10, o11] ∧ DI hs shift left0 left1 k b ∧ WoB w hs rings low shift left1 μ' ∧ μ' r = some (.lst (b.map Dd.v)) ∧ ∀ a, (μ a).isSome = true → μ' a = μ a
end
end Mi
/-! Sd: a script folded into cells. -/
namespace Mi
open PySem (Str)
section
variable {P : Prog} {n : Nat} {μ : Mu} {Q : Val → Mu → Prop} {X : XQ}
def intsL (i : Int) (n : Nat) : List Int := (List.range n).map fun (k : Nat) => i + (k : Int)
end
end Mi
/-! Se: the calls of a deed; whence and where calls lead. -/
namespace Mi
open PySem (Str)
def Rw.cl : Rw → Option (Int × Str)
  | .call _ w _ m => some (m, w)
  | _ => none
def clV (p : Int × Str) : Val := .tup [.int p.1, .str p.2]
section
variable {μ : Mu} {Q : Val → Mu → Prop} {X : XQ} {n : Nat} {P : Prog}
abbrev Ends := List (Int × (Str × Str))
def enV (e : Int × (Str × Str)) : Val := .tup [.int e.1, .tup [.str e.2.1, .str e.2.2]]
def endsD (d : Dd) : Ends := ((flats d.rows).filterMap Rw.cl).map fun p => (p.1, (d.name, p.2))
def endsL (b : List Dd) : Ends := (b.map endsD).flatten
def leads (E : Ends) (left : List Str) (name : Str) (m : Int) : Bool := match E.lookup m with
  | some p => decide (p.2 = name) && decide (p.1 ∈ left)
  | none => false
def fromV : Option Int → Val
  | some m => .int m
  | none => .non
end
end Mi
/-! Sf: marks chosen by draws. -/
namespace Mi
open PySem (Str)
section
variable {μ : Mu} {Q : Val → Mu → Prop} {X : XQ} {n : Nat} {P : Prog} {p : Ad}
end
end Mi
/-! Sg: the ends of calls as the law reads them; what a ring is. -/
namespace Mi
open PySem (Str)
structure ThI (μ : Mu) (v0 : Val) (acc : List Rw) (x : Option Rw) (env' : Env) (μ' : Mu) : Prop where
  ex : ∃ (r : Ad) (o2 o3 : Option Val), env' = [some v0, some (.ref r), o2, o3] ∧ (∀ y, x = some y → o2 = some y.v) ∧ μ r = none ∧ μ' r = some (.lst (Rw.vs acc)) ∧ ∀ a, (μ a).isSome = true → μ' a = μ a
def Rw.ins : Rw → List (List Rw)
  | .when _ a b => [a, b]
  | .turn _ a => [a]
  | _ => []
def tupR (l : List Rw) : Val := .tup (Rw.vs l)
section
variable {μ : Mu} {Q : Val → Mu → Prop} {X : XQ} {n : Nat} {P : Prog} {p : Ad}
def Rw.isCall : Rw → Bool
  | .call _ _ _ _ => true
  | _ => false
end
end Mi
/-! Sh: what a ring is, as the program and the law look at it. -/
namespace Mi
open PySem (Str)
def rot {α : Type} (l : List α) : List α := match l.getLast? with
  | none => []
  | some x => x :: l.dropLast
def stn (E : Ends) (m : Int) : Str := ((E.lookup m).getD (⟨#[]⟩, ⟨#[]⟩)).1
def cld (E : Ends) (m : Int) : Str := ((E.lookup m).getD (⟨#[]⟩, ⟨#[]⟩)).2
structure RingP (E : Ends) (ms ring : List Int) : Prop where
  ne : ring ≠ []
  mem : ∀ m ∈ ring, m ∈ ms
  adj : ring.map (stn E) = rot (ring.map (cld E))
  nd : (ring.map (cld E)).Nodup
def okAt (E : Ends) (ring : List Int) (p : Int × Int) : Bool := some (stn E p.2) == (rot (ring.map (cld E)))[p.1.toNat]?
section
variable {μ : Mu} {Q : Val → Mu → Prop} {X : XQ} {n : Nat} {P : Prog} {p : Ad}
end
end Mi
/-! Si: ranks, or a ring. -/
namespace Mi
open PySem (Str)
theorem nodup_sub {α : Type} : ∀ {l r : List α}, l.Nodup → (∀ x ∈ l, x ∈ r) → l.length ≤ r.length
  | [], _, _, _ => Nat.zero_le _
  | a :: t, r, h, hs => by
    obtain ⟨u, v, rfl⟩ := List.append_of_mem (hs a List.mem_cons_self)
    have h2 := List.nodup_cons.mp h
    have := nodup_sub (r := u ++ v) h2.2 fun x hx => by
      have := hs x (List.mem_cons_of_mem _ hx)
      simp at this ⊢
      rcases this with z | rfl | z
      · exact .inl z
      · exact (h2.1 hx).elim
      · exact .inr z
    simp at this ⊢
    omega
theorem look_mem {k : Int} {p : Str × Str} : ∀ {l : Ends}, l.lookup k = some p → k ∈ l.map Prod.fst
  | (j, x) :: r, h => by
    rw [List.lookup_cons] at h
    by_cases e : k = j
    · simp [e]
    · have : (k == j) = false := by simp [e]
      rw [this] at h
      have := look_mem h
      simp only [List.map_cons, List.mem_cons]
      exact .inr this
theorem leads_iff {E : Ends} {left : List Str} {name : Str} {m : Int} (h : leads E left name m = true) : cld E m = name ∧ stn E m ∈ left ∧ m ∈ E.map Prod.fst := by
  unfold leads at h
  cases e : E.lookup m with
  | none => rw [e] at h; cases h
  | some p =>
    rw [e] at h
    simp at h
    refine ⟨by simp [cld, e, h.1], by simp [stn, e, h.2], ?_⟩
    exact look_mem e
def ringGo (E : Ends) (ms : List Int) (left : List Str) : Nat → List Str → List Int → List Int
  | 0, _, _ => []
  | k + 1, names, row => match names.getLast? with
    | none => []
    | some nm => match ms.find? (leads E left nm) with
      | none => []
      | some m => if stn E m ∈ names then ((row ++ [m]).drop (names.findIdx fun y => y == stn E m)).reverse else ringGo E ms left k (names ++ [stn E m]) (row ++ [m])
structure RgI (E : Ends) (ms : List Int) (left : List Str) (names : List Str) (row : List Int) : Prop where
  nd : names.Nodup
  sub : ∀ x ∈ names, x ∈ left
  ne : names ≠ []
  st : row.map (stn E) = names.tail
  cl : row.map (cld E) = names.dropLast
  mem : ∀ m ∈ row, m ∈ ms
theorem RgI.len {E : Ends} {ms : List Int} {left : List Str} {names : List Str} {row : List Int} (h : RgI E ms left names row) : names.length = row.length + 1 ∧ names.length ≤ left.length := by
  have h1 := congrArg List.length h.st
  have h2 : names.length ≠ 0 := fun z => h.ne (List.length_eq_zero_iff.mp z)
  simp at h1
  exact ⟨by omega, nodup_sub h.nd h.sub⟩
theorem RgI.step {E : Ends} {ms : List Int} {left : List Str} {names : List Str} {row : List Int} (h : RgI E ms left names row) {nm : Str} (hl : names.getLast? = some nm) {m : Int} (hm : m ∈ ms) (hd : leads E left nm m = true) (hn : stn E m ∉ names) : RgI E ms left (names ++ [stn E m]) (row ++ [m]) := by
  obtain ⟨h1, h2, h3⟩ := leads_iff hd
  refine ⟨?_, ?_, by simp, ?_, ?_, ?_⟩
  · rw [List.nodup_append]
    exact ⟨h.nd, by simp, fun x hx y hy => by simp at hy; subst hy; exact fun e => hn (e ▸ hx)⟩
  · intro x hx
    simp at hx
    rcases hx with z | rfl
    · exact h.sub x z
    · exact h2
  · rw [List.map_append, h.st]
    cases names with
    | nil => exact (h.ne rfl).elim
    | cons a t => rfl
  · rw [List.map_append, h.cl]
    rw [List.dropLast_concat]
    show names.dropLast ++ [cld E m] = names
    rw [h1]
    obtain ⟨t, rfl⟩ := List.getLast?_eq_some_iff.mp hl
    simp
  · intro x hx
    simp at hx
    rcases hx with z | rfl
    · exact h.mem x z
    · exact hm
def ringF (E : Ends) (ms : List Int) (left : List Str) : List Int := ringGo E ms left left.length (left.take 1) []
def rdy (E : Ends) (ms : List Int) (left : List Str) (nm : Str) : Bool := (ms.find? (leads E left nm)).isNone
def readyL (E : Ends) (ms : List Int) (left : List Str) : List Str := left.filter (rdy E ms left)
def rankF (E : Ends) (ms : List Int) : Nat → List Str → List Str → List Str ⊕ List Int
  | 0, _, names => .inl names
  | k + 1, left, names => match readyL E ms left with
    | [] => .inr (ringF E ms left)
    | r :: _ => rankF E ms k (left.filter fun x => !decide (x = r)) (names ++ [r])
section
variable {μ : Mu} {Q : Val → Mu → Prop} {X : XQ} {n : Nat} {P : Prog} {p : Ad}
structure RgV (E : Ends) (ms : List Int) (left : List Str) (μ : Mu) (k : Nat) (env' : Env) (μ' : Mu) : Prop where
  ex : ∃ (r3 r4 : Ad) (names : List Str) (row : List Int) (o5 o6 : Option Val), env' = [some (.dct (E.map enV)), some (.lst (ms.map .int)), some (.lst (left.map .str)), some (.ref r3), some (.ref r4), o5, o6] ∧ k + names.length = left.length + 1 ∧ RgI E ms left names row ∧ ringGo E ms left k names row = ringF E ms left ∧ r3 ≠ r4 ∧ μ r3 = none ∧ μ r4 = none ∧ μ' r3 = some (.lst (names.map .str)) ∧ μ' r4 = some (.lst (row.map .int)) ∧ ∀ a, (μ a).isSome = true → μ' a = μ a
structure RkV (E : Ends) (ms : List Int) (b : List Dd) (μ : Mu) (k : Nat) (env' : Env) (μ' : Mu) : Prop where
  ex : ∃ (r : Ad) (left names : List Str) (o5 o6 o7 : Option Val), env' = [some (.tup (b.map Dd.v)), some (.lst (ms.map .int)), some (.dct (E.map enV)), some (.lst (left.map .str)), some (.ref r), o5, o6, o7] ∧ left.length = k ∧ names.length + k ≤ b.length ∧ left.Nodup ∧ rankF E ms k left names = rankF E ms b.length (b.map Dd.name) [] ∧ μ r = none ∧ μ' r = some (.lst (names.map .str)) ∧ ∀ a, (μ a).isSome = true → μ' a = μ a
def rkV : List Str ⊕ List Int → Ad → Val
  | .inl _, r => .tup [.str (Str.ofString "ranks"), .ref r]
  | .inr _, r => .tup [.str (Str.ofString "ring"), .ref r]
def rkL : List Str ⊕ List Int → Val
  | .inl l => .lst (l.map .str)
  | .inr l => .lst (l.map .int)
abbrev rankB (b : List Dd) (ms : List Int) : List Str ⊕ List Int := rankF (endsL b) ms b.length (b.map Dd.name) []
end
end Mi
/-! Sj: deeds in a round. -/
namespace Mi
open PySem (Str)
abbrev Cl := Int × Int × Int
def cV (c : Cl) : Val := .tup [.int c.1, .int c.2.1, .int c.2.2]
def rN (k : Int) : Str := repS (Str.ofString "r") k
def rwOf (many turn : Int) (c : Cl) : Rw := .call (Str.ofString "x") (rN (1 + (c.2.1 + turn).fmod many)) [] c.2.2
def rowsAt (many turn : Int) (calls : List Cl) (k : Nat) : List Rw := (calls.filter fun c => (c.1 + turn).fmod many == (k : Int)).map (rwOf many turn)
def roundD (many turn : Int) (calls : List Cl) (k : Nat) : Dd := ⟨rN (1 + (k : Int)), [], rowsAt many turn calls k, .nam (Str.ofString "x")⟩
def roundB (many : Nat) (turn : Int) (calls : List Cl) : List Dd := (List.range many).map (roundD many turn calls)
section
variable {μ : Mu} {Q : Val → Mu → Prop} {X : XQ} {n : Nat} {P : Prog} {p : Ad}
def rcalls (many : Nat) (turn : Int) : List Cl := (List.range many).map fun (k : Nat) => ((k : Int), ((k : Int) + 1).fmod many, (11 * (k : Int) + turn).fmod 89)
structure ClOk (many : Nat) (k : Nat) (l : List Cl) : Prop where
  len : l.length = many + k
  nd : (l.map fun c => c.2.2).Nodup
  bd : ∀ c ∈ l, 0 ≤ c.2.2 ∧ c.2.2 < 89 + k
structure RoI (p r : Ad) (many : Nat) (turn : Int) (μ : Mu) (k : Nat) (env' : Env) (μ' : Mu) : Prop where
  ex : ∃ (calls : List Cl) (o4 o5 o6 o7 o8 o9 o10 : Option Val), env' = [some (.ref p), some (.int many), some (.int turn), some (.ref r), o4, o5, o6, o7, o8, o9, o10] ∧ ClOk many k calls ∧ Sta μ' p ∧ μ r = none ∧ μ' r = some (.lst (calls.map cV)) ∧ ∀ a, a ≠ p → (μ a).isSome = true → μ' a = μ a
structure RoD (p r r2 : Ad) (many : Nat) (turn : Int) (calls : List Cl) (μ : Mu) (k : Nat) (env' : Env) (μ' : Mu) : Prop where
  ex : ∃ (o4 o6 o7 o8 o9 o10 : Option Val), env' = [some (.ref p), some (.int many), some (.int turn), some (.ref r), o4, some (.ref r2), o6, o7, o8, o9, o10] ∧ μ' r = some (.lst (calls.map cV)) ∧ μ' r2 = some (.lst (((List.range k).map (roundD many turn calls)).map Dd.v)) ∧ Sta μ' p ∧ ∀ a, a ≠ p → (μ a).isSome = true → μ' a = μ a
structure RoR (p r r2 r3 : Ad) (many : Nat) (turn : Int) (calls : List Cl) (μ : Mu) (k : Nat) (ys : List Cl) (env' : Env) (μ' : Mu) : Prop where
  ex : ∃ (o4 o8 o9 o10 : Option Val), env' = [some (.ref p), some (.int many), some (.int turn), some (.ref r), o4, some (.ref r2), some (.int (k : Int)), some (.ref r3), o8, o9, o10] ∧ μ' r = some (.lst (calls.map cV)) ∧ μ' r2 = some (.lst (((List.range k).map (roundD many turn calls)).map Dd.v)) ∧ μ' r3 = some (.lst ((rowsAt many turn ys k).map Rw.v)) ∧ Sta μ' p ∧ ∀ a, a ≠ p → (μ a).isSome = true → μ' a = μ a
end
end Mi
/-! Sk: what ranks are; no ring where ranks are. -/
namespace Mi
open PySem (Str)
theorem cutL_mapS {α β : Type} (f : α → β) (l : List α) (x y : Option Int) : cutL (l.map f) x y = (cutL l x y).map f := by
  unfold cutL
  rw [List.length_map, ← List.map_drop, ← List.map_take]
theorem cutL_lenS {α : Type} (l : List α) (x y : Option Int) : (cutL l x y).length ≤ l.length := by
  unfold cutL
  rw [List.length_take, List.length_drop]
  omega
def iL (l : List Int) : Val := .lst (l.map Val.int)
def sL (l : List Str) : Val := .lst (l.map Val.str)
def ixS (l : List Str) (s : Str) : Nat := l.findIdx fun y => y == s
structure RankP (E : Ends) (ms : List Int) (all names : List Str) : Prop where
  perm : names.Perm all
  lt : ∀ m ∈ ms, ixS names (stn E m) < ixS names (cld E m)
end Mi
/-! So: the names of a deed, its own ones. -/
namespace Mi
open PySem (Str)
def Rw.exs : Rw → List Ex
  | .set _ e => [e]
  | .say e => [e]
  | .call _ _ as _ => as
  | .when e _ _ => [e]
  | .turn e _ => [e]
def Rw.aim : Rw → List Str
  | .set n _ => [n]
  | .call n _ _ _ => [n]
  | _ => []
def exN (l : List Ex) : List Str := (l.map Ex.names).flatten
def Rw.nms (r : Rw) : List Str := exN r.exs ++ r.aim
def rnms (l : List Rw) : List Str := (l.map Rw.nms).flatten
def dnames (d : Dd) : List Str := rnms (flats d.rows) ++ d.give.names
def dot (s : Str) : Bool := s.cps.toList.contains 46
def addK (l : List Str) (s : Str) : List Str := if s ∈ l then l else l ++ [s]
def keysK (l : List Str) : List Str := l.foldl addK []
def tdV (l : List Str) : List Val := l.map fun s => .tup [.str s, .bl true]
theorem strsOf_map : ∀ l : List Str, strsOf (l.map Val.str) = some l
  | [] => rfl
  | a :: t => by simp [strsOf, strsOf_map t]
theorem nodup_subO {α : Type} : ∀ {l r : List α}, l.Nodup → (∀ x ∈ l, x ∈ r) → l.length ≤ r.length
  | [], _, _, _ => Nat.zero_le _
  | a :: t, r, h, hs => by
    obtain ⟨u, v, rfl⟩ := List.append_of_mem (hs a List.mem_cons_self)
    have h2 := List.nodup_cons.mp h
    have := nodup_subO (r := u ++ v) h2.2 fun x hx => by
      have := hs x (List.mem_cons_of_mem _ hx)
      simp at this ⊢
      rcases this with z | rfl | z
      · exact .inl z
      · exact (h2.1 hx).elim
      · exact .inr z
    simp at this ⊢
    omega
def plainN (d : Dd) (s : Str) : Bool := !dot s && !decide (s ∈ d.ps)
def ownK (d : Dd) : List Str := keysK ((dnames d).filter (plainN d))
def own (d : Dd) : List Str := d.ps ++ sortS (ownK d)
def DNamesIn (P : Prog) : Prop := P "names_in" = some D.names_in_v2
structure OwnP (P : Prog) : Prop where
  b : BkP P
  r : RowsOf P
  ni : P "names_in" = some D.names_in_v2
  ex : P "expressions_of" = some D.expressions_of
  rn : P "row_names" = some D.row_names
  dn : P "deed_names" = some D.deed_names
section
variable {μ : Mu} {Q : Val → Mu → Prop} {X : XQ} {n : Nat} {P : Prog} {p : Ad}
def ExsLe (k : Nat) (r : Rw) : Prop := ∀ e ∈ r.exs, e.deep ≤ k
structure DdLe (m k : Nat) (d : Dd) : Prop where
  dp : dps d.rows ≤ m
  len : (flats d.rows).length ≤ 100000
  ex : ∀ r ∈ flats d.rows, ExsLe k r
  give : d.give.deep ≤ k
  nl : (dnames d).length ≤ 100000
def OwnRes (m : Md) (μ : Mu) (Q : Val → Mu → Prop) (l : List Str) : Prop := match m with
  | .obj => ∀ r, μ r = none → Q (.ref r) (μ.set r (.lst (l.map .str)))
  | _ => Q (.lst (l.map .str)) μ
structure OwnLe (m k : Nat) (d : Dd) : Prop extends DdLe m k d where
  few : (ownK d).length < 64
  ok : ∀ s ∈ dnames d, okS s = true ∧ s.length ≤ 1000000
  ps : d.ps.length ≤ 1000
end
end Mi
/-! Lf: how books are drawn. -/
namespace Mi
open PySem (Str)
def intsV (l : List Int) : Val := .lst (l.map Val.int)
theorem ixN_in {n : Nat} {i : Int} (h0 : 0 ≤ i) (h1 : i < n) : ixN n i = some i.toNat := by
  unfold ixN
  rw [if_pos h0, if_pos h1]
section
variable {P : Prog} {n : Nat} {μ : Mu} {Q : Val → Mu → Prop} {X : XQ} {p : Ad}
end
end Mi
/-! Lg: how books are drawn, further. -/
namespace Mi
open PySem (Str)
section
variable {P : Prog} {n : Nat} {μ : Mu} {Q : Val → Mu → Prop} {X : XQ} {p : Ad}
theorem me_popI {l : List Val} {i : Int} {k : Nat} {x : Val} (h : μ p = some (.lst l)) (hl : l.length ≤ big) (hk : ixN l.length i = some k) (hx : l[k]? = some x) : meV μ .pop (.ref p) [.int i] = some (x, μ.set p (.lst (l.eraseIdx k))) := by
  show popF μ (.ref p) [.int i] = _
  simp [popF, h, hl, hk, hx]
theorem eraseIdx_map' {α β : Type} (f : α → β) : ∀ (l : List α) (k : Nat), (l.map f).eraseIdx k = (l.eraseIdx k).map f
  | [], _ => by simp
  | a :: l, 0 => rfl
  | a :: l, k + 1 => by simp [eraseIdx_map' f l k]
structure HsOk (names : List Str) (hs : List (Str × List Str)) : Prop where
  nd : (hs.map Prod.fst).Nodup
  wl : ∀ h ∈ hs, h.1.length ≤ 12
  ps : ∀ h ∈ hs, h.2.Nodup ∧ h.2.length ≤ 4 ∧ ∀ s ∈ h.2, s ∈ names
def But (p : Ad) (μ μ' : Mu) : Prop := ∀ a, (μ a).isSome = true → a ≠ p → μ' a = μ a
theorem But.pw {μ1 μ2 : Mu} (h : But p μ μ1) (k : Pw p μ1 μ2) : But p μ μ2 := fun a ha hb => (k.eq a hb).trans (h a ha hb)
theorem But.set {μ1 : Mu} {r : Ad} {v : Val} (h : But p μ μ1) (hr : μ r = none) : But p μ (μ1.set r v) := fun a ha hb => by rw [mset_ne (isSome_ne ha hr)]; exact h a ha hb
end
end Mi
/-! Ma: the drawn books of the menu family (k12.., k41..k44): draws, expressions. Its pools are Sta, too. -/
namespace Mi
open PySem (Str)
section
variable {P : Prog} {n : Nat} {μ : Mu} {Q : Val → Mu → Prop} {X : XQ} {p : Ad}
def rdPl (μ : Mu) (p : Ad) : Int × Int := match μ p with
  | some (.lst [.int a, .int b]) => (a, b)
  | _ => (0, 0)
theorem rdPl_eq {a b : Int} (e : μ p = some (.lst [.int a, .int b])) : rdPl μ p = (a, b) := by unfold rdPl; rw [e]
theorem rdPl_ne {q : Ad} {v : Val} (h : q ≠ p) : rdPl (μ.set q v) p = rdPl μ p := by unfold rdPl; rw [mset_ne (Ne.symm h)]
def stpS (b : Int) : Int := (b * 48271 + 12820163).fmod 2147483647
def mixS (c m : Int) : Int := ((((c * c).fmod 2147483629) * 69621).fmod 2147483587).fdiv 8 |>.fmod m
def tkS (m : Int) (s : Int × Int) : Int × (Int × Int) := if 0 < s.1 then (s.1.fmod m, (s.1.fdiv m, s.2)) else (mixS (stpS s.2) m, (s.1, stpS s.2))
theorem takeM_ok (h : P "_law_take" = some D._law_take_v2) {m : Int} (hp : Sta μ p) (h0 : 0 < m) (h1 : m < 1073741824) (hn : 1 ≤ n) (q : ∀ v μ', 0 ≤ v → v < m → Sw p μ μ' → tkS m (rdPl μ p) = (v, rdPl μ' p) → Q (.int v) μ') : phi P n "_law_take" .val [.ref p, .int m] μ Q X := by
  obtain ⟨n, rfl⟩ : ∃ k, n = k + 1 := ⟨n - 1, by omega⟩
  have hp0 := hp
  obtain ⟨a, b, e, b0, b1⟩ := hp
  refine call_ok h rfl ?_
  have hm0 : m ≠ 0 := by omega
  have hmb : m.natAbs < 1073741824 := by omega
  have fin : ∀ (v : Int) (μ' : Mu), 0 ≤ v → v < m → Sw p μ μ' → tkS m (rdPl μ p) = (v, rdPl μ' p) → finM .val μ Q (.int v) μ' := fun v μ' v0 v1 k he => by
    show Q (reso _ _ _ _) _
    rw [reso_nr rfl, k.cut_ hp0]
    exact q v μ' v0 v1 k he
  have hrd := rdPl_eq e
  simp [D._law_take_v2, e_v, e_c, e_tup, e_lst, e_dct, s_nil, s_cons, e_ix, e_sl, e_bin, e_cmp, e_eq, e_ne, e_in, e_nin, e_isN, e_notN, e_chain, e_neg, e_not, e_and, e_or, e_ite, e_call, e_bi, e_me, e_isT, e_new, e_attr, e_mth, e_mk, w_setattr, w_skip, w_ex, w_asg, w_asgT, w_setix, w_ite, w_ret, w_raise, w_seq, ix_ref e, hm0, hmb]
  refine ⟨fun hpos => ?_, fun hneg => ?_⟩
  · have f := fmod_lt (a := a) h0
    rw [set_lst (n := 0) e rfl]
    simp
    exact fin _ _ f.1 f.2 ⟨⟨a.fdiv m, b, mset_same, b0, b1⟩, fun c hc => mset_ne hc⟩ (by rw [hrd, rdPl_eq mset_same]; unfold tkS; rw [if_pos hpos])
  · have f := fmod_lt (a := b * 48271 + 12820163) (m := 2147483647) (by decide)
    refine ⟨cmul_l (by omega) (by omega), ?_⟩
    rw [set_lst (n := 1) e rfl]
    simp
    generalize hc : (b * 48271 + 12820163).fmod 2147483647 = c at f
    have e2 : (μ.set p (.lst [.int a, .int c])) p = some (.lst [.int a, .int c]) := mset_same
    rw [ix_ref e2]
    simp
    have f2 := fmod_lt (a := c * c) (m := 2147483629) (by decide)
    refine ⟨cmul_l (by omega) (by omega), cmul_l (by omega) (by omega), ?_⟩
    have g := fmod_lt (a := ((((c * c).fmod 2147483629) * 69621).fmod 2147483587).fdiv 8) h0
    exact ⟨hm0, fin _ _ g.1 g.2 ⟨⟨a, c, mset_same, f.1, f.2⟩, fun c hc => mset_ne hc⟩ (by
      rw [hrd, rdPl_eq mset_same]
      unfold tkS
      rw [if_neg (by show ¬ 0 < a; omega), show stpS (a, b).2 = c from hc]
      rfl)⟩
structure MxP (P : Prog) : Prop where
  t : P "_law_take" = some D._law_take_v2
  v : P "_law_value" = some D._law_value_v2
  e : P "_law_expression" = some D._law_expression_v2
def valS (s : Int × Int) : Int × (Int × Int) := match tkS 8 s with
  | (w, s1) => if w = 7 then (999999, s1) else tkS (if w.fmod 3 = 0 then 4 else if w.fmod 3 = 1 then 12 else 1000000) s1
theorem valueM_ok (h : MxP P) (hp : Sta μ p) (hn : 2 ≤ n) (q : ∀ v μ', 0 ≤ v → v < 1000000 → Sw p μ μ' → valS (rdPl μ p) = (v, rdPl μ' p) → Q (.int v) μ') : phi P n "_law_value" .val [.ref p] μ Q X := by
  obtain ⟨n, rfl⟩ : ∃ k, n = k + 1 := ⟨n - 1, by omega⟩
  refine call_ok h.v rfl ?_
  have fin : ∀ (v : Int) (μ' : Mu), 0 ≤ v → v < 1000000 → Sw p μ μ' → valS (rdPl μ p) = (v, rdPl μ' p) → finM .val μ Q (.int v) μ' := fun v μ' v0 v1 k he => by
    show Q (reso _ _ _ _) _
    rw [reso_nr rfl, k.cut_ hp]
    exact q v μ' v0 v1 k he
  unfold D._law_value_v2
  rw [w_seq]
  simp [e_v, e_c, e_tup, e_lst, e_dct, s_nil, s_cons, e_ix, e_sl, e_bin, e_cmp, e_eq, e_ne, e_in, e_nin, e_isN, e_notN, e_chain, e_neg, e_not, e_and, e_or, e_ite, e_call, e_bi, e_me, e_isT, e_new, e_attr, e_mth, e_mk, w_setattr, w_skip, w_ex, w_asg, w_asgT, w_setix, w_ite, w_ret, w_raise]
  refine takeM_ok h.t hp (by decide) (by decide) (by omega) fun w μ1 w0 w1 k1 d1 => ?_
  rw [w_seq]
  simp [e_v, e_c, e_tup, e_lst, e_dct, s_nil, s_cons, e_ix, e_sl, e_bin, e_cmp, e_eq, e_ne, e_in, e_nin, e_isN, e_notN, e_chain, e_neg, e_not, e_and, e_or, e_ite, e_call, e_bi, e_me, e_isT, e_new, e_attr, e_mth, e_mk, w_setattr, w_skip, w_ex, w_asg, w_asgT, w_setix, w_ite, w_ret, w_raise]
  refine ⟨fun hw7 => fin _ _ (by decide) (by decide) k1 (by unfold valS; rw [d1]; dsimp only; rw [if_pos hw7]), fun hw7 => ?_⟩
  obtain ⟨m, m0, m1, hm, hme⟩ : ∃ m : Int, 0 < m ∧ m ≤ 1000000 ∧ atI [Val.int 4, .int 12, .int 1000000] (w.fmod 3) = some (.int m) ∧ m = (if w.fmod 3 = 0 then 4 else if w.fmod 3 = 1 then 12 else 1000000) := by
    have f := fmod_lt (a := w) (m := 3) (by decide)
    have : w.fmod 3 = 0 ∨ w.fmod 3 = 1 ∨ w.fmod 3 = 2 := by omega
    rcases this with e | e | e <;> rw [e]
    · exact ⟨4, by decide, by decide, rfl, rfl⟩
    · exact ⟨12, by decide, by decide, rfl, rfl⟩
    · exact ⟨1000000, by decide, by decide, rfl, rfl⟩
  simp [hm]
  exact takeM_ok h.t k1.st m0 (by omega) (by omega) fun v μ2 v0 v1 k2 d2 => fin v μ2 v0 (by omega) (k1.trans k2) (by unfold valS; rw [d1]; dsimp only; rw [if_neg hw7, ← hme]; exact d2)
structure ExM (names : List Str) (d : Nat) (e : Ex) : Prop where
  small : e.small
  deep : e.deep ≤ d
  names : ∀ s ∈ e.names, s ∈ names
def wdS (i : Int) : Wd := if i = 0 then .plus else if i = 1 then .less else if i = 2 then .times else if i = 3 then .under else if i = 4 then .same else if i = 5 then .over else .rest
def leafS (names : List Str) (w : Int) (s : Int × Int) : Ex × (Int × Int) :=
  if w < 3 then (match tkS (names.length : Int) s with | (i, s2) => (.nam (names[i.toNat]?.getD ⟨#[]⟩), s2)) else (match valS s with | (v, s2) => (.num v, s2))
def exS (names : List Str) : Nat → (Int × Int) → Ex × (Int × Int)
  | 0, s => match tkS 8 s with | (w, s1) => leafS names w s1
  | d + 1, s => match tkS 8 s with
    | (w, s1) => if 4 < w then (match tkS 6 s1 with
      | (u, s2) => match tkS (5 + 2 * (if u = 0 then 1 else 0)) s2 with
        | (i, s3) => match exS names d s3 with
          | (a, s4) => match exS names d s4 with
            | (c, s5) => (.op (wdS i) a c, s5)) else leafS names w s1
theorem wd_atM {i : Int} (h0 : 0 ≤ i) (h1 : i < 7) : ∃ w : Wd, atI [Val.str (Str.ofString "plus"), .str (Str.ofString "less"), .str (Str.ofString "times"), .str (Str.ofString "under"), .str (Str.ofString "same"), .str (Str.ofString "over"), .str (Str.ofString "rest")] i = some (.str w.s) ∧ w = wdS i := by
  have : i = 0 ∨ i = 1 ∨ i = 2 ∨ i = 3 ∨ i = 4 ∨ i = 5 ∨ i = 6 := by omega
  rcases this with rfl | rfl | rfl | rfl | rfl | rfl | rfl
  · exact ⟨.plus, rfl, rfl⟩
  · exact ⟨.less, rfl, rfl⟩
  · exact ⟨.times, rfl, rfl⟩
  · exact ⟨.under, rfl, rfl⟩
  · exact ⟨.same, rfl, rfl⟩
  · exact ⟨.over, rfl, rfl⟩
  · exact ⟨.rest, rfl, rfl⟩
def ExprM (P : Prog) (p : Ad) (names : List Str) (d : Nat) : Prop := ∀ {n : Nat} {μ : Mu} {Q : Val → Mu → Prop} {X : XQ}, d ≤ 4 → Sta μ p → d + 3 ≤ n → (∀ e μ', ExM names (d + 1) e → Sw p μ μ' → exS names d (rdPl μ p) = (e, rdPl μ' p) → Q e.v μ') → phi P n "_law_expression" .val [.ref p, .lst (names.map .str), .int (5 - (d : Int))] μ Q X
theorem exprM_step (h : MxP P) {names : List Str} (hne : names ≠ []) (hnl : names.length ≤ 1000) {d : Nat} (IH : ∀ d', d' < d → ExprM P p names d') : ExprM P p names d := by
  intro n μ Q X hd hp hn q
  obtain ⟨n, rfl⟩ : ∃ k, n = k + 1 := ⟨n - 1, by omega⟩
  refine call_ok h.e rfl ?_
  have hΦ := phi_mono P n
  have fin : ∀ (e : Ex) (μ' : Mu), ExM names (d + 1) e → Sw p μ μ' → exS names d (rdPl μ p) = (e, rdPl μ' p) → finM .val μ Q e.v μ' := fun e μ' he k hq => by
    show Q (reso _ _ _ _) _
    rw [reso_nr e.nr, k.cut_ hp]
    exact q e μ' he k hq
  have hpos : 0 < names.length := List.length_pos_iff.mpr hne
  obtain ⟨D2, hD2⟩ : ∃ D2 : Int, D2 = 5 - (d : Int) := ⟨_, rfl⟩
  rw [← hD2]
  unfold D._law_expression_v2
  rw [w_seq]
  simp [e_v, e_c, e_tup, e_lst, e_dct, s_nil, s_cons, e_ix, e_sl, e_bin, e_cmp, e_eq, e_ne, e_in, e_nin, e_isN, e_notN, e_chain, e_neg, e_not, e_and, e_or, e_ite, e_call, e_bi, e_me, e_isT, e_new, e_attr, e_mth, e_mk, w_setattr, w_skip, w_ex, w_asg, w_asgT, w_setix, w_ite, w_ret, w_raise]
  refine takeM_ok h.t hp (by decide) (by decide) (by omega) fun w μ1 w0 w1 k1 d1 => ?_
  have leaf : exS names d (rdPl μ p) = leafS names w (rdPl μ1 p) → ∀ {env : Env} {D : En}, env = [some (.ref p), some (.lst (names.map .str)), some (.int D2), some (.int w), none, none, none] → D.rt = (fun v μ' => finM .val μ Q v μ') → wpS (phi P n) (.seq (.ite (.cmp .lt (.v 3) (.c (.int 3)))
  (.ret (.tup (.cons (.c (.str (Str.ofString "name"))) (.cons (.ix (.v 1) (.call "_law_take" .val (.cons (.v 0) (.cons (.bi .len (.cons (.v 1) .nil)) .nil)))) .nil))))
  .skip)
  (.ret (.tup (.cons (.c (.str (Str.ofString "number"))) (.cons (.call "_law_value" .val (.cons (.v 0) .nil)) .nil))))) env μ1 D := by
    intro hlf env D he hrt
    subst he
    rw [w_seq]
    simp [e_v, e_c, e_tup, e_lst, e_dct, s_nil, s_cons, e_ix, e_sl, e_bin, e_cmp, e_eq, e_ne, e_in, e_nin, e_isN, e_notN, e_chain, e_neg, e_not, e_and, e_or, e_ite, e_call, e_bi, e_me, e_isT, e_new, e_attr, e_mth, e_mk, w_setattr, w_skip, w_ex, w_asg, w_asgT, w_setix, w_ite, w_ret, w_raise, hrt]
    refine ⟨fun hw3 => ?_, fun hw3 => ?_⟩
    · refine takeM_ok h.t k1.st (by omega) (by omega) (by omega) fun i μ2 i0 i1 k2 d2 => ?_
      obtain ⟨s, hs⟩ : ∃ s, names[i.toNat]? = some s := ⟨_, List.getElem?_eq_getElem (by omega)⟩
      rw [ix_lst, at_nat i0 (a := Val.str s) (by rw [List.getElem?_map, hs]; rfl)]
      exact fin (.nam s) μ2 ⟨trivial, by simp [Ex.deep], fun x hx => by simp [Ex.names] at hx; rw [hx]; exact List.mem_of_getElem? hs⟩ (k1.trans k2) (by rw [hlf]; unfold leafS; rw [if_pos hw3, d2]; dsimp only; rw [hs]; rfl)
    · exact valueM_ok h k1.st (by omega) fun v μ2 v0 v1 k2 d2 => fin (.num v) μ2 ⟨⟨v0, v1⟩, by simp [Ex.deep], fun x hx => by simp [Ex.names] at hx⟩ (k1.trans k2) (by rw [hlf]; unfold leafS; rw [if_neg (by omega), d2])
  by_cases hop : 4 < w ∧ 1 ≤ d
  · have hw : 4 < w := hop.1
    have hD : D2 < 5 := by omega
    rw [w_seq]
    simp [e_v, e_c, e_tup, e_lst, e_dct, s_nil, s_cons, e_ix, e_sl, e_bin, e_cmp, e_eq, e_ne, e_in, e_nin, e_isN, e_notN, e_chain, e_neg, e_not, e_and, e_or, e_ite, e_call, e_bi, e_me, e_isT, e_new, e_attr, e_mth, e_mk, w_setattr, w_skip, w_ex, w_asg, w_asgT, w_setix, w_ite, w_ret, w_raise, hw, hD]
    rw [w_seq]
    simp [e_v, e_c, e_tup, e_lst, e_dct, s_nil, s_cons, e_ix, e_sl, e_bin, e_cmp, e_eq, e_ne, e_in, e_nin, e_isN, e_notN, e_chain, e_neg, e_not, e_and, e_or, e_ite, e_call, e_bi, e_me, e_isT, e_new, e_attr, e_mth, e_mk, w_setattr, w_skip, w_ex, w_asg, w_asgT, w_setix, w_ite, w_ret, w_raise]
    rw [w_seq]
    simp [e_v, e_c, e_tup, e_lst, e_dct, s_nil, s_cons, e_ix, e_sl, e_bin, e_cmp, e_eq, e_ne, e_in, e_nin, e_isN, e_notN, e_chain, e_neg, e_not, e_and, e_or, e_ite, e_call, e_bi, e_me, e_isT, e_new, e_attr, e_mth, e_mk, w_setattr, w_skip, w_ex, w_asg, w_asgT, w_setix, w_ite, w_ret, w_raise]
    refine takeM_ok h.t k1.st (by decide) (by decide) (by omega) fun u μ2 _ _ k2 d2 => ?_
    simp
    obtain ⟨m, hm, m0, m1⟩ : ∃ m : Int, (5 + 2 * (if u = 0 then 1 else 0) : Int) = m ∧ 0 < m ∧ m ≤ 7 := ⟨_, rfl, by split <;> omega, by split <;> omega⟩
    rw [hm]
    refine takeM_ok h.t k2.st m0 (by omega) (by omega) fun i μ3 i0 i1 k3 d3 => ?_
    obtain ⟨wd, hwd, hwe⟩ := wd_atM i0 (by omega)
    have eD : D2 + 1 = 5 - ((d - 1 : Nat) : Int) := by omega
    rw [ix_lst, hwd]
    simp only [brV_some]
    rw [w_seq]
    simp [e_v, e_c, e_tup, e_lst, e_dct, s_nil, s_cons, e_ix, e_sl, e_bin, e_cmp, e_eq, e_ne, e_in, e_nin, e_isN, e_notN, e_chain, e_neg, e_not, e_and, e_or, e_ite, e_call, e_bi, e_me, e_isT, e_new, e_attr, e_mth, e_mk, w_setattr, w_skip, w_ex, w_asg, w_asgT, w_setix, w_ite, w_ret, w_raise]
    rw [eD]
    refine IH (d - 1) (by omega) (by omega) k3.st (by omega) fun a μ4 ha k4 d4 => ?_
    refine IH (d - 1) (by omega) (by omega) k4.st (by omega) fun b μ5 hb k5 d5 => ?_
    refine fin (.op wd a b) μ5 ⟨⟨ha.small, hb.small⟩, by have := ha.deep; have := hb.deep; simp [Ex.deep]; omega, fun s hs => ?_⟩ ((((k1.trans k2).trans k3).trans k4).trans k5) (by
      obtain ⟨d', hd'⟩ : ∃ d', d = d' + 1 := ⟨d - 1, by omega⟩
      subst hd'
      rw [exS, d1]
      dsimp only
      rw [if_pos hw, d2]
      dsimp only
      rw [hm, d3]
      dsimp only
      have d4 : exS names d' (rdPl μ3 p) = (a, rdPl μ4 p) := d4
      have d5 : exS names d' (rdPl μ4 p) = (b, rdPl μ5 p) := d5
      rw [d4]
      dsimp only
      rw [d5, hwe])
    simp [Ex.names] at hs
    rcases hs with hs | hs
    · exact ha.names s hs
    · exact hb.names s hs
  · refine w_seq_id hΦ ?_ ?_
    · simp [e_v, e_c, e_tup, e_lst, e_dct, s_nil, s_cons, e_ix, e_sl, e_bin, e_cmp, e_eq, e_ne, e_in, e_nin, e_isN, e_notN, e_chain, e_neg, e_not, e_and, e_or, e_ite, e_call, e_bi, e_me, e_isT, e_new, e_attr, e_mth, e_mk, w_setattr, w_skip, w_ex, w_asg, w_asgT, w_setix, w_ite, w_ret, w_raise]
      intro h1 h2
      exact absurd ⟨h1, by omega⟩ hop
    · refine leaf ?_ rfl rfl
      cases d with
      | zero => rw [exS, d1]
      | succ d =>
        rw [exS, d1]
        dsimp only
        rw [if_neg fun z => hop ⟨z, by omega⟩]
theorem exprM_ok (h : MxP P) {names : List Str} (hne : names ≠ []) (hnl : names.length ≤ 1000) (d : Nat) : ExprM P p names d := by
  induction d using Nat.strongRecOn with
  | _ d ih => exact exprM_step h hne hnl ih
end
end Mi
/-! Mb: rows of the menu family, drawn with a state at hand. -/
namespace Mi
open PySem (Str)
def hdM (h : Str × List Str) : Val := .tup [.str h.1, .lst (h.2.map .str)]
def woM (r : Ad) (at' rows calls first : Int) : List Val :=
  [.tup [.str (Str.ofString "heads"), .ref r], .tup [.str (Str.ofString "at"), .int at'], .tup [.str (Str.ofString "rows"), .int rows], .tup [.str (Str.ofString "calls"), .int calls], .tup [.str (Str.ofString "first"), .int first]]
section
variable {μ : Mu} {w r : Ad} {at' rows calls first : Int}
theorem wm_heads (h : μ w = some (.dct (woM r at' rows calls first))) : ixV μ (.ref w) (.str (Str.ofString "heads")) = some (.ref r) := by
  unfold ixV
  simp only [content, h]
  rfl
theorem wm_at (h : μ w = some (.dct (woM r at' rows calls first))) : ixV μ (.ref w) (.str (Str.ofString "at")) = some (.int at') := by
  unfold ixV
  simp only [content, h]
  rfl
theorem wm_rows (h : μ w = some (.dct (woM r at' rows calls first))) : ixV μ (.ref w) (.str (Str.ofString "rows")) = some (.int rows) := by
  unfold ixV
  simp only [content, h]
  rfl
theorem wm_calls (h : μ w = some (.dct (woM r at' rows calls first))) : ixV μ (.ref w) (.str (Str.ofString "calls")) = some (.int calls) := by
  unfold ixV
  simp only [content, h]
  rfl
theorem wm_first (h : μ w = some (.dct (woM r at' rows calls first))) : ixV μ (.ref w) (.str (Str.ofString "first")) = some (.int first) := by
  unfold ixV
  simp only [content, h]
  rfl
theorem wm_setC (h : μ w = some (.dct (woM r at' rows calls first))) (i : Int) : setV μ (.ref w) (.str (Str.ofString "calls")) (.int i) = some (μ.set w (.dct (woM r at' rows i first))) := by
  rw [set_dct h rfl (by rw [big_eq]; simp [woM])]
  rfl
theorem wm_setR (h : μ w = some (.dct (woM r at' rows calls first))) (i : Int) : setV μ (.ref w) (.str (Str.ofString "rows")) (.int i) = some (μ.set w (.dct (woM r at' i calls first))) := by
  rw [set_dct h rfl (by rw [big_eq]; simp [woM])]
  rfl
theorem wm_setA (h : μ w = some (.dct (woM r at' rows calls first))) (i : Int) : setV μ (.ref w) (.str (Str.ofString "at")) (.int i) = some (μ.set w (.dct (woM r i rows calls first))) := by
  rw [set_dct h rfl (by rw [big_eq]; simp [woM])]
  rfl
end
def mlM (first : Int) (l l' : Nat) : List Int := (List.range (l - l')).map fun i => (first + 37 * ((l - 1 - i : Nat) : Int)).fmod 100
theorem mlM_self (first : Int) (l : Nat) : mlM first l l = [] := by simp [mlM]
theorem mlM_one (first : Int) (l : Nat) : mlM first (l + 1) l = [(first + 37 * (l : Int)).fmod 100] := by
  unfold mlM
  rw [show l + 1 - l = 1 from by omega]
  simp [List.range_succ]
theorem mlM_app (first : Int) {l l1 l2 : Nat} (h : l1 ≤ l) (h2 : l2 ≤ l1) : mlM first l l1 ++ mlM first l1 l2 = mlM first l l2 := by
  unfold mlM
  rw [show l - l2 = (l - l1) + (l1 - l2) from by omega, List.range_add, List.map_append, List.map_map]
  congr 1
  refine List.map_congr_left fun i hi => ?_
  have := List.mem_range.mp hi
  simp only [Function.comp]
  rw [show l - 1 - (l - l1 + i) = l1 - 1 - i from by omega]
structure RwM (names : List Str) (hs : Hs) (r : Rw) : Prop where
  ex : ∀ e ∈ r.exs, ExM names 5 e
  aim : ∀ s ∈ r.aim, s ∈ names
  cl : ∀ x w as m, r = .call x w as m → (∃ ps, (w, ps) ∈ hs ∧ as.length = ps.length) ∧ 0 ≤ m ∧ m < 100
theorem ExM.up {names : List Str} {d d' : Nat} {e : Ex} (h : ExM names d e) (hd : d ≤ d') : ExM names d' e := ⟨h.small, Nat.le_trans h.deep hd, h.names⟩
structure MrP (P : Prog) : Prop where
  x : MxP P
  call : P "_law_call" = some D._law_call_v3
  row : P "_law_row" = some D._law_row_v3
  rows : P "_law_rows" = some D._law_rows_v3
structure WmAt (w r : Ad) (hs : Hs) (at' first : Int) (left room : Nat) (μ : Mu) : Prop where
  w : μ w = some (.dct (woM r at' (room : Int) (left : Int) first))
  r : μ r = some (.lst (hs.map hdM))
structure FixM (p w r : Ad) (hs : Hs) (at' first : Int) (names : List Str) : Prop where
  wp : w ≠ p
  rp : r ≠ p
  rw' : r ≠ w
  len : hs.length ≤ 10
  ps : ∀ h ∈ hs, h.2.length ≤ 4
  at0 : 0 ≤ at'
  at1 : at' < hs.length
  ne : names ≠ []
  nl : names.length ≤ 1000
section
variable {P : Prog} {n : Nat} {μ : Mu} {Q : Val → Mu → Prop} {X : XQ} {p w r : Ad} {hs : Hs} {at' first : Int} {left room : Nat} {names : List Str}
theorem WmAt.sw (F : FixM p w r hs at' first names) (h : WmAt w r hs at' first left room μ) {μ' : Mu} (k : Sw p μ μ') : WmAt w r hs at' first left room μ' := ⟨by rw [k.eq w F.wp]; exact h.w, by rw [k.eq r F.rp]; exact h.r⟩
theorem sta_ne {q : Ad} {v : Val} (hp : Sta μ p) (h : q ≠ p) : Sta (μ.set q v) p := by
  obtain ⟨a, b, e, r2⟩ := hp
  exact ⟨a, b, by rw [mset_ne (Ne.symm h)]; exact e, r2⟩
/-! the draws as functions -/
def argS (names : List Str) (ps : List Str) (s : Int × Int) : List Ex × (Int × Int) := ps.foldl (fun acc _ => match exS names 2 acc.2 with | (e, s') => (acc.1 ++ [e], s')) ([], s)
theorem argS_snoc (names : List Str) (ys : List Str) (x : Str) (s : Int × Int) {es : List Ex} {s1 : Int × Int} {e : Ex} {s2 : Int × Int} (h1 : argS names ys s = (es, s1)) (h2 : exS names 2 s1 = (e, s2)) : argS names (ys ++ [x]) s = (es ++ [e], s2) := by
  unfold argS at h1 ⊢
  rw [List.foldl_append, h1]
  show (match exS names 2 s1 with | (e, s') => (es ++ [e], s')) = _
  rw [h2]
def chS (hs : Hs) (at' : Int) (s : Int × Int) : Int × (Int × Int) := match tkS (hs.length : Int) s with
  | (i, s1) => if 0 < (hs.length : Int) - at' - 1 then (match tkS 4 s1 with
    | (u, s2) => if 0 < u then (match tkS ((hs.length : Int) - at' - 1) s2 with | (j, s3) => (at' + 1 + j, s3)) else (i, s2)) else (i, s1)
def hdA (hs : Hs) (i : Int) : Str × List Str := (hs[i.toNat]?).getD (⟨#[]⟩, [])
def nmA (names : List Str) (j : Int) : Str := (names[j.toNat]?).getD ⟨#[]⟩
def clS (hs : Hs) (at' first : Int) (names : List Str) (left : Nat) (s : Int × Int) : Rw × (Int × Int) := match chS hs at' s with
  | (i, s1) => match argS names (hdA hs i).2 s1 with
    | (es, s2) => match tkS (names.length : Int) s2 with
      | (j, s3) => (.call (nmA names j) (hdA hs i).1 es ((first + 37 * (left : Int)).fmod 100), s3)
abbrev RSt := (Int × Int) × (Nat × Nat)
def rwS (hs : Hs) (at' first : Int) (names : List Str) (nest : Option (RSt → List Rw × RSt)) (σ : RSt) : Rw × RSt := match tkS 10 σ.1 with
  | (way, s1) => if way < 3 ∧ 0 < σ.2.1 then (match clS hs at' first names (σ.2.1 - 1) s1 with | (c, s2) => (c, (s2, (σ.2.1 - 1, σ.2.2))))
    else match tkS (names.length : Int) s1 with
    | (j, s2) => match tkS 4 s2 with
      | (u, s3) => match exS names (4 - u.toNat) s3 with
        | (e, s4) => if way = 3 ∧ nest.isSome = true then (match (nest.getD fun σ => ([], σ)) (s4, σ.2) with
            | (a, σ1) => match (nest.getD fun σ => ([], σ)) σ1 with | (b, σ2) => (.when e a b, σ2))
          else if way = 4 ∧ nest.isSome = true then (match (nest.getD fun σ => ([], σ)) (s4, σ.2) with | (a, σ1) => (.turn e a, σ1))
          else if way < 7 then (.say e, (s4, σ.2)) else (.set (nmA names j) e, (s4, σ.2))
def lpS (row : RSt → Rw × RSt) : Nat → List Rw × RSt → List Rw × RSt
  | 0, acc => acc
  | k + 1, acc => match lpS row k acc with
    | (l, σ) => if 0 < σ.2.2 then (match row (σ.1, (σ.2.1, σ.2.2 - 1)) with | (c, σ') => (l ++ [c], σ')) else (l, σ)
def mrS (d : Nat) : Int := if d = 0 then 3 else if d = 1 then 4 else 6
def rrS (hs : Hs) (at' first : Int) (names : List Str) : Nat → RSt → List Rw × RSt
  | 0, σ => match tkS (mrS 0) σ.1 with | (i, s1) => lpS (rwS hs at' first names none) i.toNat ([], (s1, σ.2))
  | d + 1, σ => match tkS (mrS (d + 1)) σ.1 with | (i, s1) => lpS (rwS hs at' first names (some (rrS hs at' first names d))) i.toNat ([], (s1, σ.2))
def neS (hs : Hs) (at' first : Int) (names : List Str) : Nat → Option (RSt → List Rw × RSt)
  | 0 => none
  | d + 1 => some (rrS hs at' first names d)
theorem rrS_eq (hs : Hs) (at' first : Int) (names : List Str) (d : Nat) (σ : RSt) : rrS hs at' first names d σ = match tkS (mrS d) σ.1 with | (i, s1) => lpS (rwS hs at' first names (neS hs at' first names d)) i.toNat ([], (s1, σ.2)) := by
  cases d with
  | zero => rw [rrS]; rfl
  | succ d => rw [rrS]; rfl
structure ClI (p w r : Ad) (hs : Hs) (at' : Int) (names : List Str) (μ : Mu) (env' : Env) (μ' : Mu) : Prop where
  ex : ∃ (i : Int) (o5 : Option Val), chS hs at' (rdPl μ p) = (i, rdPl μ' p) ∧ env' = [some (.ref p), some (.ref w), some (.lst (names.map .str)), some (.ref r), some (.int i), o5, none, none, none] ∧ 0 ≤ i ∧ i < hs.length ∧ Sw p μ μ'
theorem call_okM (h : MrP P) (F : FixM p w r hs at' first names) (hp : Sta μ p) (hw : WmAt w r hs at' first (left + 1) room μ) (hn : 7 ≤ n)
    (q : ∀ (c : Rw) μ', RwM names hs c → c.flat = [c] → c.within = [] → mks [c] = mlM first (left + 1) left → Ww p w μ μ' → WmAt w r hs at' first left room μ' → clS hs at' first names left (rdPl μ p) = (c, rdPl μ' p) → Q c.v μ') : phi P n "_law_call" .val [.ref p, .ref w, .lst (names.map .str)] μ Q X := by
  obtain ⟨n, rfl⟩ : ∃ k, n = k + 1 := ⟨n - 1, by omega⟩
  have hΦ := phi_mono P n
  refine call_ok h.call rfl ?_
  have hsw : (μ w).isSome = true := by rw [hw.w]; rfl
  have fin : ∀ (c : Rw) μ', RwM names hs c → c.flat = [c] → c.within = [] → mks [c] = mlM first (left + 1) left → Ww p w μ μ' → WmAt w r hs at' first left room μ' → clS hs at' first names left (rdPl μ p) = (c, rdPl μ' p) → finM .val μ Q c.v μ' := fun c μ' a1 a2 a3 a4 k a5 he => by
    show Q (reso _ _ _ _) _
    rw [reso_nr (plain_nr c.plain), k.cut_ hp hsw]
    exact q c μ' a1 a2 a3 a4 k a5 he
  have hl := F.len
  have h0 := F.at0
  have h1 := F.at1
  unfold D._law_call_v3
  rw [w_seq]
  simp [e_v, e_c, e_tup, e_lst, e_dct, s_nil, s_cons, e_ix, e_sl, e_bin, e_cmp, e_eq, e_ne, e_in, e_nin, e_isN, e_notN, e_chain, e_neg, e_not, e_and, e_or, e_ite, e_call, e_bi, e_me, e_isT, e_new, e_attr, e_mth, e_mk, w_setattr, w_skip, w_ex, w_asg, w_asgT, w_setix, w_ite, w_ret, w_raise, wm_heads hw.w]
  rw [w_seq]
  simp [e_v, e_c, e_tup, e_lst, e_dct, s_nil, s_cons, e_ix, e_sl, e_bin, e_cmp, e_eq, e_ne, e_in, e_nin, e_isN, e_notN, e_chain, e_neg, e_not, e_and, e_or, e_ite, e_call, e_bi, e_me, e_isT, e_new, e_attr, e_mth, e_mk, w_setattr, w_skip, w_ex, w_asg, w_asgT, w_setix, w_ite, w_ret, w_raise, bi_lenR hw.r]
  refine takeM_ok h.x.t hp (by omega) (by omega) (by omega) fun i μ1 i0 i1 k1 d1 => ?_
  have hw1 := hw.sw F k1
  rw [w_seq]
  simp [e_v, e_c, e_tup, e_lst, e_dct, s_nil, s_cons, e_ix, e_sl, e_bin, e_cmp, e_eq, e_ne, e_in, e_nin, e_isN, e_notN, e_chain, e_neg, e_not, e_and, e_or, e_ite, e_call, e_bi, e_me, e_isT, e_new, e_attr, e_mth, e_mk, w_setattr, w_skip, w_ex, w_asg, w_asgT, w_setix, w_ite, w_ret, w_raise, bi_lenR hw1.r, wm_at hw1.w]
  refine w_seq_inv hΦ (ClI p w r hs at' names μ) ?_ ?_
  · simp [e_v, e_c, e_tup, e_lst, e_dct, s_nil, s_cons, e_ix, e_sl, e_bin, e_cmp, e_eq, e_ne, e_in, e_nin, e_isN, e_notN, e_chain, e_neg, e_not, e_and, e_or, e_ite, e_call, e_bi, e_me, e_isT, e_new, e_attr, e_mth, e_mk, w_setattr, w_skip, w_ex, w_asg, w_asgT, w_setix, w_ite, w_ret, w_raise, wm_at hw1.w]
    refine ⟨fun hb => ?_, fun hb => ⟨i, _, by unfold chS; rw [d1]; dsimp only; rw [if_neg (by omega)], rfl, i0, i1, k1⟩⟩
    refine takeM_ok h.x.t k1.st (by decide) (by decide) (by omega) fun u μ2 _ _ k2 d2 => ?_
    have hw2 := hw1.sw F k2
    simp [wm_at hw2.w]
    refine ⟨fun hu => ?_, fun hu => ⟨i, _, by unfold chS; rw [d1]; dsimp only; rw [if_pos (by omega), d2]; dsimp only; rw [if_neg (by omega)], rfl, i0, i1, k1.trans k2⟩⟩
    refine takeM_ok h.x.t k2.st (by omega) (by omega) (by omega) fun j μ3 j0 j1 k3 d3 => ?_
    simp
    exact ⟨at' + 1 + j, _, by unfold chS; rw [d1]; dsimp only; rw [if_pos (by omega), d2]; dsimp only; rw [if_pos (by omega), d3], rfl, by omega, by omega, (k1.trans k2).trans k3⟩
  rintro env' μ2 ⟨i, o5, dch, rfl, i0, i1, k2⟩
  have hw2 := hw.sw F k2
  rw [w_seq]
  simp [e_v, e_c, e_tup, e_lst, e_dct, s_nil, s_cons, e_ix, e_sl, e_bin, e_cmp, e_eq, e_ne, e_in, e_nin, e_isN, e_notN, e_chain, e_neg, e_not, e_and, e_or, e_ite, e_call, e_bi, e_me, e_isT, e_new, e_attr, e_mth, e_mk, w_setattr, w_skip, w_ex, w_asg, w_asgT, w_setix, w_ite, w_ret, w_raise, wm_calls hw2.w]
  rw [wm_setC hw2.w]
  simp
  obtain ⟨μ3, h3⟩ : ∃ m, m = μ2.set w (.dct (woM r at' (room : Int) (left : Int) first)) := ⟨_, rfl⟩
  rw [← h3]
  have hw3 : WmAt w r hs at' first left room μ3 := ⟨by rw [h3, mset_same], by rw [h3, mset_ne F.rw']; exact hw2.r⟩
  have hp3 : Sta μ3 p := by rw [h3]; exact sta_ne k2.st F.wp
  have hrd3 : rdPl μ3 p = rdPl μ2 p := by rw [h3]; exact rdPl_ne F.wp
  have k3 : Ww p w μ μ3 := ⟨hp3, fun a a1 a2 => by rw [h3, mset_ne a2]; exact k2.eq a a1⟩
  obtain ⟨hd, hhd⟩ : ∃ hd, hs[i.toNat]? = some hd := ⟨_, List.getElem?_eq_getElem (by omega)⟩
  have hmem : hd ∈ hs := List.mem_of_getElem? hhd
  have hix : ∀ m2 : Mu, m2 r = some (.lst (hs.map hdM)) → ixV m2 (.ref r) (.int i) = some (hdM hd) := fun m2 hm => by
    rw [ix_ref hm]
    exact at_nat i0 (by rw [List.getElem?_map, hhd]; rfl)
  have e0 : ∀ m2 : Mu, ixV m2 (hdM hd) (.int 0) = some (.str hd.1) := fun _ => rfl
  have e1 : ∀ m2 : Mu, ixV m2 (hdM hd) (.int 1) = some (.lst (hd.2.map .str)) := fun _ => rfl
  have hpl := F.ps hd hmem
  rw [w_seq]
  simp [e_v, e_c, e_tup, e_lst, e_dct, s_nil, s_cons, e_ix, e_sl, e_bin, e_cmp, e_eq, e_ne, e_in, e_nin, e_isN, e_notN, e_chain, e_neg, e_not, e_and, e_or, e_ite, e_call, e_bi, e_me, e_isT, e_new, e_attr, e_mth, e_mk, w_setattr, w_skip, w_ex, w_asg, w_asgT, w_setix, w_ite, w_ret, w_raise]
  refine comp_T Val.str hd.2 hΦ (i_e ?_ hΦ)
  simp [e_v, e_c, e_tup, e_lst, e_dct, s_nil, s_cons, e_ix, e_sl, e_bin, e_cmp, e_eq, e_ne, e_in, e_nin, e_isN, e_notN, e_chain, e_neg, e_not, e_and, e_or, e_ite, e_call, e_bi, e_me, e_isT, e_new, e_attr, e_mth, e_mk, w_setattr, w_skip, w_ex, w_asg, w_asgT, w_setix, w_ite, w_ret, w_raise, hix μ3 hw3.r, e1, guard]
  refine ⟨fun ys acc μ' => ∃ es : List Ex, es.length = ys.length ∧ acc = es.map Ex.v ∧ (∀ e ∈ es, ExM names 5 e) ∧ Sw p μ3 μ' ∧ argS names ys (rdPl μ3 p) = (es, rdPl μ' p), ⟨[], rfl, rfl, by simp, Sw.refl hp3, rfl⟩, ?_, ?_⟩
  · rintro ys x zs acc μ' e ⟨es, e2, rfl, e3, k, da⟩
    refine ⟨trivial, ?_⟩
    have hys : ys.length < 4 := by
      rw [e] at hpl
      simp at hpl
      omega
    simp [wipe, e_v, e_c, e_tup, e_lst, e_dct, s_nil, s_cons, e_ix, e_sl, e_bin, e_cmp, e_eq, e_ne, e_in, e_nin, e_isN, e_notN, e_chain, e_neg, e_not, e_and, e_or, e_ite, e_call, e_bi, e_me, e_isT, e_new, e_attr, e_mth, e_mk, w_setattr, w_skip, w_ex, w_asg, w_asgT, w_setix, w_ite, w_ret, w_raise]
    refine exprM_ok h.x F.ne F.nl 2 (by decide) k.st (by omega) fun e0 μ4 he k4 d4 => ?_
    exact ⟨by rw [big_eq]; omega, es ++ [e0], by simp [e2], by simp, fun y hy => by
      rcases List.mem_append.mp hy with z | z
      · exact e3 y z
      · rw [List.mem_singleton.mp z]; exact he.up (by decide), k.trans k4, argS_snoc names ys x _ da d4⟩
  · rintro acc μ' ⟨es, e2, rfl, e3, k, da⟩
    refine ⟨trivial, ?_⟩
    have hpos : 0 < names.length := List.length_pos_iff.mpr F.ne
    have hnl := F.nl
    rw [w_seq]
    simp [e_v, e_c, e_tup, e_lst, e_dct, s_nil, s_cons, e_ix, e_sl, e_bin, e_cmp, e_eq, e_ne, e_in, e_nin, e_isN, e_notN, e_chain, e_neg, e_not, e_and, e_or, e_ite, e_call, e_bi, e_me, e_isT, e_new, e_attr, e_mth, e_mk, w_setattr, w_skip, w_ex, w_asg, w_asgT, w_setix, w_ite, w_ret, w_raise]
    refine takeM_ok h.x.t k.st (by omega) (by omega) (by omega) fun j μ5 j0 j1 k5 d5 => ?_
    obtain ⟨s, hs'⟩ : ∃ s, names[j.toNat]? = some s := ⟨_, List.getElem?_eq_getElem (by omega)⟩
    rw [ix_lst, at_nat j0 (a := Val.str s) (by rw [List.getElem?_map, hs']; rfl)]
    have hw5 := (hw3.sw F k).sw F k5
    simp [e_v, e_c, e_tup, e_lst, e_dct, s_nil, s_cons, e_ix, e_sl, e_bin, e_cmp, e_eq, e_ne, e_in, e_nin, e_isN, e_notN, e_chain, e_neg, e_not, e_and, e_or, e_ite, e_call, e_bi, e_me, e_isT, e_new, e_attr, e_mth, e_mk, w_setattr, w_skip, w_ex, w_asg, w_asgT, w_setix, w_ite, w_ret, w_raise, hix μ5 hw5.r, e0, wm_first hw5.w, wm_calls hw5.w]
    have f := fmod_lt (a := first + 37 * (left : Int)) (m := 100) (by decide)
    refine fin (.call s hd.1 es ((first + 37 * (left : Int)).fmod 100)) μ5 ⟨e3, fun y hy => ?_, fun x w' as m e => ?_⟩ rfl rfl (by rw [mlM_one]; rfl) (k3.trans (k.trans k5).ww) hw5 (by
      have ehd : hdA hs i = hd := by unfold hdA; rw [hhd]; rfl
      have enm : nmA names j = s := by unfold nmA; rw [hs']; rfl
      unfold clS
      rw [dch]
      dsimp only
      rw [ehd, ← hrd3, da]
      dsimp only
      rw [d5]
      dsimp only
      rw [enm])
    · simp [Rw.aim] at hy
      rw [hy]
      exact List.mem_of_getElem? hs'
    · cases e
      exact ⟨⟨hd.2, hmem, e2⟩, f.1, f.2⟩
theorem w_seq_idC {Φ : Ph} {C : Prop} (hΦ : MonoP Φ) {a b : S} {env : Env} {μ : Mu} {D : En} (h1 : wpS Φ a env μ { D with nx := fun e m => (e = env ∧ m = μ) ∧ C }) (h2 : C → wpS Φ b env μ D) : wpS Φ (.seq a b) env μ D := w_seq_inv hΦ (fun e m => (e = env ∧ m = μ) ∧ C) h1 (by rintro e m ⟨⟨rfl, rfl⟩, c⟩; exact h2 c)
def RowsOkM (P : Prog) (p w r : Ad) (hs : Hs) (at' first : Int) (names : List Str) (d : Nat) : Prop := ∀ {n : Nat} {μ : Mu} {Q : Val → Mu → Prop} {X : XQ} {left room : Nat}, 10 + 2 * d ≤ n → Sta μ p → WmAt w r hs at' first left room μ → room ≤ 100 →
  (∀ (l : List Rw) (left' room' : Nat) μ', (∀ q ∈ flats l, RwM names hs q) → dps l ≤ d + 1 → (flats l).length + room' = room → left' ≤ left → mks l = mlM first left left' → Ww p w μ μ' → WmAt w r hs at' first left' room' μ' → rrS hs at' first names d (rdPl μ p, (left, room)) = (l, (rdPl μ' p, (left', room'))) → Q (.tup (Rw.vs l)) μ') →
  phi P n "_law_rows" .val [.ref p, .ref w, .lst (names.map .str), .int (3 - (d : Int))] μ Q X
def RowOkM (P : Prog) (p w r : Ad) (hs : Hs) (at' first : Int) (names : List Str) (d : Nat) : Prop := ∀ {n : Nat} {μ : Mu} {Q : Val → Mu → Prop} {X : XQ} {left room : Nat}, 9 + 2 * d ≤ n → Sta μ p → WmAt w r hs at' first left (room + 1) μ → room ≤ 100 →
  (∀ (c : Rw) (left' room' : Nat) μ', (∀ q ∈ flats [c], RwM names hs q) → c.dp ≤ d + 1 → (flats c.within).length + room' = room → left' ≤ left → mks [c] = mlM first left left' → Ww p w μ μ' → WmAt w r hs at' first left' room' μ' → rwS hs at' first names (neS hs at' first names d) (rdPl μ p, (left, room)) = (c, (rdPl μ' p, (left', room'))) → Q c.v μ') →
  phi P n "_law_row" .val [.ref p, .ref w, .lst (names.map .str), .int (3 - (d : Int))] μ Q X
theorem row_stepM (h : MrP P) (F : FixM p w r hs at' first names) {d : Nat} (hd : d ≤ 2) (IH : ∀ d', d = d' + 1 → RowsOkM P p w r hs at' first names d') : RowOkM P p w r hs at' first names d := by
  intro n μ Q X left room hn hp hw hroom q
  obtain ⟨n, rfl⟩ : ∃ k, n = k + 1 := ⟨n - 1, by omega⟩
  have hΦ := phi_mono P n
  refine call_ok h.row rfl ?_
  have hsw : (μ w).isSome = true := by rw [hw.w]; rfl
  have hpos : 0 < names.length := List.length_pos_iff.mpr F.ne
  have hnl := F.nl
  have fin : ∀ (c : Rw) (left' room' : Nat) μ', (∀ q ∈ flats [c], RwM names hs q) → c.dp ≤ d + 1 → (flats c.within).length + room' = room → left' ≤ left → mks [c] = mlM first left left' → Ww p w μ μ' → WmAt w r hs at' first left' room' μ' → rwS hs at' first names (neS hs at' first names d) (rdPl μ p, (left, room)) = (c, (rdPl μ' p, (left', room'))) → finM .val μ Q c.v μ' := fun c left' room' μ' a1 a2 a3 a4 a5 k a6 he => by
    show Q (reso _ _ _ _) _
    rw [reso_nr (plain_nr c.plain), k.cut_ hp hsw]
    exact q c left' room' μ' a1 a2 a3 a4 a5 k a6 he
  obtain ⟨D2, hD2⟩ : ∃ D2 : Int, D2 = 3 - (d : Int) := ⟨_, rfl⟩
  rw [← hD2]
  unfold D._law_row_v3
  rw [w_seq]
  simp [e_v, e_c, e_tup, e_lst, e_dct, s_nil, s_cons, e_ix, e_sl, e_bin, e_cmp, e_eq, e_ne, e_in, e_nin, e_isN, e_notN, e_chain, e_neg, e_not, e_and, e_or, e_ite, e_call, e_bi, e_me, e_isT, e_new, e_attr, e_mth, e_mk, w_setattr, w_skip, w_ex, w_asg, w_asgT, w_setix, w_ite, w_ret, w_raise]
  refine takeM_ok h.x.t hp (by decide) (by decide) (by omega) fun way μ1 y0 y1 k1 d1 => ?_
  have hw1 := hw.sw F k1
  rw [w_seq]
  simp [e_v, e_c, e_tup, e_lst, e_dct, s_nil, s_cons, e_ix, e_sl, e_bin, e_cmp, e_eq, e_ne, e_in, e_nin, e_isN, e_notN, e_chain, e_neg, e_not, e_and, e_or, e_ite, e_call, e_bi, e_me, e_isT, e_new, e_attr, e_mth, e_mk, w_setattr, w_skip, w_ex, w_asg, w_asgT, w_setix, w_ite, w_ret, w_raise, wm_rows hw1.w]
  rw [wm_setR hw1.w]
  simp
  obtain ⟨μ2, h2⟩ : ∃ m, m = μ1.set w (.dct (woM r at' (room : Int) (left : Int) first)) := ⟨_, rfl⟩
  rw [← h2]
  have hw2 : WmAt w r hs at' first left room μ2 := ⟨by rw [h2, mset_same], by rw [h2, mset_ne F.rw']; exact hw1.r⟩
  have hp2 : Sta μ2 p := by rw [h2]; exact sta_ne k1.st F.wp
  have hrd2 : rdPl μ2 p = rdPl μ1 p := by rw [h2]; exact rdPl_ne F.wp
  have k2 : Ww p w μ μ2 := ⟨hp2, fun a a1 a2 => by rw [h2, mset_ne a2]; exact k1.eq a a1⟩
  have fin1 : ∀ (c : Rw) μ', RwM names hs c → c.flat = [c] → c.within = [] → c.dp = 1 → c.mark = none → Sw p μ2 μ' → rwS hs at' first names (neS hs at' first names d) (rdPl μ p, (left, room)) = (c, (rdPl μ' p, (left, room))) → finM .val μ Q c.v μ' := fun c μ' a1 a2 a3 a4 a5 k he =>
    fin c left room μ' (fun x hx => by simp [flats, a2] at hx; rw [hx]; exact a1) (by omega) (by rw [a3]; simp [flats]) (Nat.le_refl _) (by rw [mlM_self]; simp [mks, flats, a2, a5]) (k2.trans k.ww) (hw2.sw F k) he
  refine w_seq_idC (C := ¬ (way < 3 ∧ 0 < left)) hΦ ?_ fun hn1 => ?_
  · simp [e_v, e_c, e_tup, e_lst, e_dct, s_nil, s_cons, e_ix, e_sl, e_bin, e_cmp, e_eq, e_ne, e_in, e_nin, e_isN, e_notN, e_chain, e_neg, e_not, e_and, e_or, e_ite, e_call, e_bi, e_me, e_isT, e_new, e_attr, e_mth, e_mk, w_setattr, w_skip, w_ex, w_asg, w_asgT, w_setix, w_ite, w_ret, w_raise, wm_calls hw2.w]
    refine ⟨fun hw3 => ⟨fun hl0 => ?_, fun z _ => z⟩, fun z z2 => by omega⟩
    obtain ⟨l, rfl⟩ : ∃ l, left = l + 1 := ⟨left - 1, by omega⟩
    exact call_okM h F hp2 hw2 (by omega) fun c μ3 a1 a2 a3 a4 k3 a5 dc => fin c l room μ3 (fun x hx => by simp [flats, a2] at hx; rw [hx]; exact a1) (by rw [c.dp_eq, a3]; simp [dps]) (by rw [a3]; simp [flats]) (Nat.le_succ _) a4 (k2.trans k3) a5 (by
      unfold rwS
      rw [d1]
      dsimp only
      rw [if_pos ⟨hw3, by omega⟩, ← hrd2, show l + 1 - 1 = l from rfl, dc])
  rw [w_seq]
  simp [e_v, e_c, e_tup, e_lst, e_dct, s_nil, s_cons, e_ix, e_sl, e_bin, e_cmp, e_eq, e_ne, e_in, e_nin, e_isN, e_notN, e_chain, e_neg, e_not, e_and, e_or, e_ite, e_call, e_bi, e_me, e_isT, e_new, e_attr, e_mth, e_mk, w_setattr, w_skip, w_ex, w_asg, w_asgT, w_setix, w_ite, w_ret, w_raise]
  refine takeM_ok h.x.t hp2 (by omega) (by omega) (by omega) fun j μ3 j0 j1 k3 d3 => ?_
  obtain ⟨s, hs'⟩ : ∃ s, names[j.toNat]? = some s := ⟨_, List.getElem?_eq_getElem (by omega)⟩
  rw [ix_lst, at_nat j0 (a := Val.str s) (by rw [List.getElem?_map, hs']; rfl)]
  simp only [brV_some]
  rw [w_seq]
  simp [e_v, e_c, e_tup, e_lst, e_dct, s_nil, s_cons, e_ix, e_sl, e_bin, e_cmp, e_eq, e_ne, e_in, e_nin, e_isN, e_notN, e_chain, e_neg, e_not, e_and, e_or, e_ite, e_call, e_bi, e_me, e_isT, e_new, e_attr, e_mth, e_mk, w_setattr, w_skip, w_ex, w_asg, w_asgT, w_setix, w_ite, w_ret, w_raise]
  refine takeM_ok h.x.t k3.st (by decide) (by decide) (by omega) fun u μ4 u0 u1 k4 d4 => ?_
  simp
  have eu : 1 + u = 5 - ((4 - u.toNat : Nat) : Int) := by omega
  rw [eu]
  refine exprM_ok h.x F.ne F.nl (4 - u.toNat) (by omega) k4.st (by omega) fun e μ5 he k5 d5 => ?_
  have he' := he.up (d' := 5) (by omega)
  have k35 := (k3.trans k4).trans k5
  have hw5 := hw2.sw F k35
  have enm : nmA names j = s := by unfold nmA; rw [hs']; rfl
  have dr : ∀ x, (if way = 3 ∧ (neS hs at' first names d).isSome = true then (match ((neS hs at' first names d).getD fun σ => ([], σ)) (rdPl μ5 p, (left, room)) with
            | (a, σ1) => match ((neS hs at' first names d).getD fun σ => ([], σ)) σ1 with | (b, σ2) => (Rw.when e a b, σ2))
          else if way = 4 ∧ (neS hs at' first names d).isSome = true then (match ((neS hs at' first names d).getD fun σ => ([], σ)) (rdPl μ5 p, (left, room)) with | (a, σ1) => (Rw.turn e a, σ1))
          else if way < 7 then (Rw.say e, (rdPl μ5 p, (left, room))) else (Rw.set s e, (rdPl μ5 p, (left, room)))) = x → rwS hs at' first names (neS hs at' first names d) (rdPl μ p, (left, room)) = x := fun x hx => by
    unfold rwS
    rw [d1]
    dsimp only
    rw [if_neg hn1, ← hrd2, d3]
    dsimp only
    rw [d4]
    dsimp only
    rw [d5]
    dsimp only
    rw [enm]
    exact hx
  have one : ∀ (c : Rw), c.exs = [e] → c.aim = [] → (∀ x w as m, c ≠ .call x w as m) → RwM names hs c := fun c a1 a2 a3 => ⟨fun y hy => (by rw [a1] at hy; simp at hy; rw [hy]; exact he'), fun y hy => (by rw [a2] at hy; cases hy), fun x w as m z => (a3 x w as m z).elim⟩
  have nest : ∀ (c : Rw) (in_ : List Rw) (left' room' : Nat) μ', c.within = in_ → RwM names hs c → c.mark = none → c.dp ≤ d + 1 → (∀ q ∈ flats in_, RwM names hs q) → (flats in_).length + room' = room → left' ≤ left → mks in_ = mlM first left left' → Ww p w μ μ' → WmAt w r hs at' first left' room' μ' → rwS hs at' first names (neS hs at' first names d) (rdPl μ p, (left, room)) = (c, (rdPl μ' p, (left', room'))) → finM .val μ Q c.v μ' := fun c in_ left' room' μ' e1 e2 e2' e3 e4 e5 e6 e7 k e8 e9 => by
    refine fin c left' room' μ' (fun x hx => ?_) e3 (by rw [e1]; exact e5) e6 ?_ k e8 e9
    · rw [flats, c.flat_eq, e1] at hx
      simp [flats] at hx
      rcases hx with rfl | z
      · exact e2
      · exact e4 x z
    · rw [mks_cons, c.flat_eq, e1]
      simp [e2']
      rw [← e7]
      simp [mks, flats]
  refine w_seq_idC (C := ¬ (way = 3 ∧ 1 ≤ d)) hΦ ?_ fun hn3 => ?_
  · simp [e_v, e_c, e_tup, e_lst, e_dct, s_nil, s_cons, e_ix, e_sl, e_bin, e_cmp, e_eq, e_ne, e_in, e_nin, e_isN, e_notN, e_chain, e_neg, e_not, e_and, e_or, e_ite, e_call, e_bi, e_me, e_isT, e_new, e_attr, e_mth, e_mk, w_setattr, w_skip, w_ex, w_asg, w_asgT, w_setix, w_ite, w_ret, w_raise]
    refine ⟨fun hw3 => ⟨fun hD3 => ?_, fun z _ => by omega⟩, fun z z2 => absurd z2 z⟩
    obtain ⟨d', rfl⟩ : ∃ d', d = d' + 1 := ⟨d - 1, by omega⟩
    have eD : D2 + 1 = 3 - (d' : Int) := by omega
    rw [w_seq]
    simp [e_v, e_c, e_tup, e_lst, e_dct, s_nil, s_cons, e_ix, e_sl, e_bin, e_cmp, e_eq, e_ne, e_in, e_nin, e_isN, e_notN, e_chain, e_neg, e_not, e_and, e_or, e_ite, e_call, e_bi, e_me, e_isT, e_new, e_attr, e_mth, e_mk, w_setattr, w_skip, w_ex, w_asg, w_asgT, w_setix, w_ite, w_ret, w_raise]
    rw [eD]
    refine IH d' rfl (by omega) k35.st hw5 hroom fun a left1 room1 μ6 a1 a2 a3 a4 a5 k6 a6 d6 => ?_
    refine IH d' rfl (by omega) k6.st a6 (by omega) fun b left2 room2 μ7 b1 b2 b3 b4 b5 k7 b6 d7 => ?_
    exact nest (.when e a b) (a ++ b) left2 room2 μ7 rfl (one _ rfl rfl (fun _ _ _ _ z => by cases z)) rfl (by simp [Rw.dp]; omega) (fun x hx => by
      rw [flats_append] at hx
      rcases List.mem_append.mp hx with z | z
      · exact a1 x z
      · exact b1 x z) (by rw [flats_append, List.length_append]; omega) (by omega) (by rw [mks_append, a5, b5, mlM_app first a4 b4]) (((k2.trans k35.ww).trans k6).trans k7) b6 (dr _ (by
        rw [if_pos ⟨hw3, rfl⟩]
        show (match rrS hs at' first names d' (rdPl μ5 p, (left, room)) with
            | (a, σ1) => match rrS hs at' first names d' σ1 with | (b, σ2) => (Rw.when e a b, σ2)) = _
        rw [d6]
        dsimp only
        rw [d7]))
  refine w_seq_idC (C := ¬ (way = 4 ∧ 1 ≤ d)) hΦ ?_ fun hn4 => ?_
  · simp [e_v, e_c, e_tup, e_lst, e_dct, s_nil, s_cons, e_ix, e_sl, e_bin, e_cmp, e_eq, e_ne, e_in, e_nin, e_isN, e_notN, e_chain, e_neg, e_not, e_and, e_or, e_ite, e_call, e_bi, e_me, e_isT, e_new, e_attr, e_mth, e_mk, w_setattr, w_skip, w_ex, w_asg, w_asgT, w_setix, w_ite, w_ret, w_raise]
    refine ⟨fun hw4 => ⟨fun hD3 => ?_, fun z _ => by omega⟩, fun z z2 => absurd z2 z⟩
    obtain ⟨d', rfl⟩ : ∃ d', d = d' + 1 := ⟨d - 1, by omega⟩
    have eD : D2 + 1 = 3 - (d' : Int) := by omega
    rw [eD]
    refine IH d' rfl (by omega) k35.st hw5 hroom fun a left1 room1 μ6 a1 a2 a3 a4 a5 k6 a6 d6 => ?_
    exact nest (.turn e a) a left1 room1 μ6 rfl (one _ rfl rfl (fun _ _ _ _ z => by cases z)) rfl (by simp [Rw.dp]; omega) a1 a3 a4 a5 ((k2.trans k35.ww).trans k6) a6 (dr _ (by
        rw [if_neg (by omega), if_pos ⟨hw4, rfl⟩]
        show (match rrS hs at' first names d' (rdPl μ5 p, (left, room)) with | (a, σ1) => (Rw.turn e a, σ1)) = _
        rw [d6]))
  rw [w_seq]
  simp [e_v, e_c, e_tup, e_lst, e_dct, s_nil, s_cons, e_ix, e_sl, e_bin, e_cmp, e_eq, e_ne, e_in, e_nin, e_isN, e_notN, e_chain, e_neg, e_not, e_and, e_or, e_ite, e_call, e_bi, e_me, e_isT, e_new, e_attr, e_mth, e_mk, w_setattr, w_skip, w_ex, w_asg, w_asgT, w_setix, w_ite, w_ret, w_raise]
  have hne : (neS hs at' first names d).isSome = true → 1 ≤ d := fun z => by
    cases d with
    | zero => cases z
    | succ d => omega
  refine ⟨fun hw7 => ?_, fun hw7 => ?_⟩
  · exact fin1 (.say e) μ5 (one _ rfl rfl (fun _ _ _ _ z => by cases z)) rfl rfl rfl rfl k35 (dr _ (by rw [if_neg fun z => hn3 ⟨z.1, hne z.2⟩, if_neg fun z => hn4 ⟨z.1, hne z.2⟩, if_pos hw7]))
  · exact fin1 (.set s e) μ5 ⟨fun y hy => (by simp [Rw.exs] at hy; rw [hy]; exact he'), fun y hy => (by simp [Rw.aim] at hy; rw [hy]; exact List.mem_of_getElem? hs'), fun _ _ _ _ z => (by cases z)⟩ rfl rfl rfl rfl k35 (dr _ (by rw [if_neg fun z => hn3 ⟨z.1, hne z.2⟩, if_neg fun z => hn4 ⟨z.1, hne z.2⟩, if_neg (by omega)]))
structure RsI (p w r : Ad) (hs : Hs) (at' first : Int) (names : List Str) (d left room : Nat) (D2 : Int) (μ : Mu) (s0 : Int × Int) (k : Nat) (env' : Env) (μ' : Mu) : Prop where
  ex : ∃ (r4 : Ad) (o5 : Option Val) (l : List Rw) (left1 room1 : Nat), lpS (rwS hs at' first names (neS hs at' first names d)) k ([], (s0, (left, room))) = (l, (rdPl μ' p, (left1, room1))) ∧ env' = [some (.ref p), some (.ref w), some (.lst (names.map .str)), some (.int D2), some (.ref r4), o5] ∧ μ r4 = none ∧ μ' r4 = some (.lst (Rw.vs l)) ∧ l.length ≤ k ∧ (∀ q ∈ flats l, RwM names hs q) ∧ dps l ≤ d + 1 ∧ (flats l).length + room1 = room ∧ left1 ≤ left ∧ mks l = mlM first left left1 ∧ Sta μ' p ∧ WmAt w r hs at' first left1 room1 μ' ∧ ∀ a, a ≠ p → a ≠ w → (μ a).isSome = true → μ' a = μ a
theorem rows_stepM (h : MrP P) (F : FixM p w r hs at' first names) {d : Nat} (hd : d ≤ 2) (hrow : RowOkM P p w r hs at' first names d) : RowsOkM P p w r hs at' first names d := by
  intro n μ Q X left room hn hp hw hroom q
  obtain ⟨n, rfl⟩ : ∃ k, n = k + 1 := ⟨n - 1, by omega⟩
  have hΦ := phi_mono P n
  refine call_ok h.rows rfl ?_
  have hsw : (μ w).isSome = true := by rw [hw.w]; rfl
  have hsr : (μ r).isSome = true := by rw [hw.r]; rfl
  obtain ⟨D2, hD2⟩ : ∃ D2 : Int, D2 = 3 - (d : Int) := ⟨_, rfl⟩
  rw [← hD2]
  obtain ⟨m, m0, m1, hm, hme⟩ : ∃ m : Int, 0 < m ∧ m ≤ 8 ∧ atI [Val.int 8, .int 6, .int 4, .int 3] D2 = some (.int m) ∧ m = mrS d := by
    have : (D2 = 1 ∧ d = 2) ∨ (D2 = 2 ∧ d = 1) ∨ (D2 = 3 ∧ d = 0) := by omega
    rcases this with ⟨e, e'⟩ | ⟨e, e'⟩ | ⟨e, e'⟩ <;> rw [e, e']
    · exact ⟨6, by decide, by decide, rfl, rfl⟩
    · exact ⟨4, by decide, by decide, rfl, rfl⟩
    · exact ⟨3, by decide, by decide, rfl, rfl⟩
  unfold D._law_rows_v3
  rw [w_seq]
  simp [e_v, e_c, e_tup, e_lst, e_dct, s_nil, s_cons, e_ix, e_sl, e_bin, e_cmp, e_eq, e_ne, e_in, e_nin, e_isN, e_notN, e_chain, e_neg, e_not, e_and, e_or, e_ite, e_call, e_bi, e_me, e_isT, e_new, e_attr, e_mth, e_mk, w_setattr, w_skip, w_ex, w_asg, w_asgT, w_setix, w_ite, w_ret, w_raise]
  intro r4 hr4
  have h4p : r4 ≠ p := hp.ne hr4
  have h4w : r4 ≠ w := fun z => by rw [z] at hr4; rw [hr4] at hsw; cases hsw
  have h4r : r4 ≠ r := fun z => by rw [z] at hr4; rw [hr4] at hsr; cases hsr
  have hp1 : Sta (μ.set r4 (.lst [])) p := sta_ne hp h4p
  have hw1 : WmAt w r hs at' first left room (μ.set r4 (.lst [])) := ⟨by rw [mset_ne (Ne.symm h4w)]; exact hw.w, by rw [mset_ne (Ne.symm h4r)]; exact hw.r⟩
  rw [w_seq]
  refine for_rule hΦ (i_range.mpr ?_)
  simp [e_v, e_c, e_tup, e_lst, e_dct, s_nil, s_cons, e_ix, e_sl, e_bin, e_cmp, e_eq, e_ne, e_in, e_nin, e_isN, e_notN, e_chain, e_neg, e_not, e_and, e_or, e_ite, e_call, e_bi, e_me, e_isT, e_new, e_attr, e_mth, e_mk, w_setattr, w_skip, w_ex, w_asg, w_asgT, w_setix, w_ite, w_ret, w_raise, hm]
  refine takeM_ok h.x.t hp1 m0 (by omega) (by omega) fun i μ2 i0 i1 k2 d2 => ?_
  simp
  have hw2 := hw1.sw F k2
  rw [rdPl_ne h4p] at d2
  refine ⟨by omega, by omega, fun done env' μ' => RsI p w r hs at' first names d left room D2 μ (rdPl μ2 p) done.length env' μ', ⟨r4, none, [], left, room, rfl, rfl, hr4, by rw [k2.eq r4 h4p, mset_same] <;> rfl, by simp, by simp [flats], by simp [dps], by simp [flats], Nat.le_refl _, by rw [mlM_self]; rfl, k2.st, hw2, fun a a1 a2 a3 => by rw [k2.eq a a1, mset_ne (isSome_ne a3 hr4)]⟩, ?_, ?_⟩
  · rintro done v rest env' μ' e ⟨r4, o5, l, left1, room1, dl, rfl, hr4, e4, ll, hl, hdl, hlr, hle, hml, hst, hwm, ho⟩
    have h4p : r4 ≠ p := hp.ne hr4
    have h4w : r4 ≠ w := fun z => by rw [z] at hr4; rw [hr4] at hsw; cases hsw
    have h4r : r4 ≠ r := fun z => by rw [z] at hr4; rw [hr4] at hsr; cases hsr
    have hlen := flats_len l
    refine ⟨trivial, ?_⟩
    simp [wm_rows hwm.w]
    refine ⟨fun hr0 => ?_, fun hr0 => ⟨r4, _, l, left1, room1, by rw [lpS, dl]; dsimp only; rw [if_neg (by omega)], rfl, hr4, e4, by omega, hl, hdl, hlr, hle, hml, hst, hwm, ho⟩⟩
    obtain ⟨room2, rfl⟩ : ∃ k, room1 = k + 1 := ⟨room1 - 1, by omega⟩
    rw [ok_append e4]
    refine ⟨rfl, ?_⟩
    rw [hD2]
    refine hrow (by omega) hst hwm (by omega) fun c left2 room3 μ3 c1 c2 c3 c4 c5 k3 c6 dc => ?_
    have e5 : μ3 r4 = some (.lst (Rw.vs l)) := by rw [k3.eq r4 h4p h4w]; exact e4
    rw [me_append e5]
    refine brV_ite (by rw [vs_len, big_eq]; omega) ?_
    dsimp only
    have ev : Rw.vs l ++ [c.v] = Rw.vs (l ++ [c]) := by rw [vs_append]; rfl
    rw [ev, ← hD2]
    refine ⟨r4, _, l ++ [c], left2, room3, by rw [rdPl_ne h4p, lpS, dl]; dsimp only; rw [if_pos (by omega), show room2 + 1 - 1 = room2 from rfl, dc], rfl, hr4, mset_same, by rw [List.length_append, List.length_singleton]; omega, fun x hx => ?_, by rw [dps_append]; simp only [dps]; omega, ?_, by omega, ?_, sta_ne k3.st h4p, ⟨by rw [mset_ne (Ne.symm h4w)]; exact c6.w, by rw [mset_ne (Ne.symm h4r)]; exact c6.r⟩, fun a a1 a2 a3 => by rw [mset_ne (isSome_ne a3 hr4), k3.eq a a1 a2]; exact ho a a1 a2 a3⟩
    · rw [flats_append] at hx
      rcases List.mem_append.mp hx with z | z
      · exact hl x z
      · exact c1 x z
    · rw [flats_snoc, List.length_append, List.length_cons]
      omega
    · rw [mks_append, hml, c5, mlM_app first hle c4]
  · rintro env' μ' ⟨r4, o5, l, left1, room1, dl, rfl, hr4, e4, ll, hl, hdl, hlr, hle, hml, hst, hwm, ho⟩
    refine ⟨trivial, ?_⟩
    simp [e_v, e_c, e_tup, e_lst, e_dct, s_nil, s_cons, e_ix, e_sl, e_bin, e_cmp, e_eq, e_ne, e_in, e_nin, e_isN, e_notN, e_chain, e_neg, e_not, e_and, e_or, e_ite, e_call, e_bi, e_me, e_isT, e_new, e_attr, e_mth, e_mk, w_setattr, w_skip, w_ex, w_asg, w_asgT, w_setix, w_ite, w_ret, w_raise]
    rw [bi_tupR e4]
    simp
    show Q (reso μ _ 4 (.tup (Rw.vs l))) _
    rw [reso_nr (by show nrL _ = true; exact vs_nr _)]
    have cutS : ∀ a, (μ a).isSome = true → (μ'.cut μ) a = μ' a := fun a ha => by unfold Mu.cut; rw [if_pos ha]
    refine q l left1 room1 _ hl hdl hlr hle hml ⟨?_, fun a a1 a2 => ?_⟩ ⟨by rw [cutS w hsw]; exact hwm.w, by rw [cutS r hsr]; exact hwm.r⟩ (by
      have hcp : rdPl (μ'.cut μ) p = rdPl μ' p := by unfold rdPl; rw [cutS p hp.some]
      have hil : (intsFrom 0 i.toNat).length = i.toNat := by simp [intsFrom]
      rw [hil] at dl
      rw [hcp, rrS_eq, ← hme, d2]
      exact dl)
    · obtain ⟨a, b, e, r2⟩ := hst
      exact ⟨a, b, by rw [cutS p hp.some]; exact e, r2⟩
    · by_cases ha : (μ a).isSome = true
      · rw [cutS a ha]; exact ho a a1 a2 ha
      · unfold Mu.cut
        rw [if_neg ha]
        cases e : μ a with
        | none => rfl
        | some v => rw [e] at ha; exact (ha rfl).elim
theorem rows_okM (h : MrP P) (F : FixM p w r hs at' first names) : ∀ d : Nat, d ≤ 2 → RowsOkM P p w r hs at' first names d
  | 0, hd => rows_stepM h F hd (row_stepM h F hd fun d' e => by omega)
  | d + 1, hd => rows_stepM h F hd (row_stepM h F hd fun d' e => by
      obtain rfl : d' = d := by omega
      exact rows_okM h F _ (by omega))
end
end Mi
/-! Mc: pools, some of a menu, the drawn book of the menu family. -/
namespace Mi
open PySem (Str)
theorem erase_perm {α : Type} : ∀ {l : List α} {k : Nat} {s : α}, l[k]? = some s → (s :: l.eraseIdx k).Perm l
  | [], _, _, h => by simp at h
  | a :: t, 0, s, h => by
    cases h
    exact List.Perm.refl _
  | a :: t, k + 1, s, h => by
    have := erase_perm (l := t) (k := k) (s := s) (by simpa using h)
    exact (List.Perm.swap a s _).trans (this.cons a)
section
variable {P : Prog} {n : Nat} {μ : Mu} {Q : Val → Mu → Prop} {X : XQ} {p : Ad}
def poolC (cs : List Int) (k : Int) : Int := if 0 < cs.length then (cs[(k.fmod (cs.length : Int)).toNat]?).getD 0 + k.fdiv (cs.length : Int) else 0
def poolS (cs : List Int) (k : Int) : Int × Int := (if poolC cs k < 0 ∨ 10 ^ 18 ≤ poolC cs k then ((poolC cs k).natAbs : Int) else 0, ((poolC cs k).fmod 2147483629 * 69621 + 40009 * (k + 1) * (k + 3)).fmod 2147483629)
def someF (acc : List Str × List Str × (Int × Int)) : List Str × List Str × (Int × Int) := match tkS (acc.2.1.length : Int) acc.2.2 with
  | (u, s') => (acc.1 ++ [(acc.2.1[u.toNat]?).getD ⟨#[]⟩], acc.2.1.eraseIdx u.toNat, s')
def someI (menu : List Str) (s : Int × Int) : Nat → List Str × List Str × (Int × Int)
  | 0 => ([], menu, s)
  | k + 1 => someF (someI menu s k)
def someS (menu : List Str) (many : Nat) (s : Int × Int) : List Str × (Int × Int) := ((someI menu s many).1, (someI menu s many).2.2)
theorem pool_okM (h : P "_law_pool" = some D._law_pool) {cs : List Int} {k : Int} (k0 : 0 ≤ k) (k1 : k ≤ 1000) (hcs : cs.length ≤ 1000) (hn : 1 ≤ n) (q : ∀ p μ', μ p = none → Sw p μ μ' → rdPl μ' p = poolS cs k → Q (.ref p) μ') : phi P n "_law_pool" .obj [.lst (cs.map .int), .int k] μ Q X := by
  obtain ⟨n, rfl⟩ : ∃ k, n = k + 1 := ⟨n - 1, by omega⟩
  have hΦ := phi_mono P n
  refine call_ok h rfl ?_
  have fin : ∀ (a b : Int) (p : Ad), 0 ≤ b → b < 2147483647 → (a, b) = poolS cs k → μ p = none → finM .obj μ Q (.ref p) (μ.set p (.lst [.int a, .int b])) := fun a b p b0 b1 he hp => by
    rw [fin_obj hp]
    exact q p _ hp ⟨⟨a, b, mset_same, b0, b1⟩, fun c hc => mset_ne hc⟩ (by rw [rdPl_eq mset_same]; exact he)
  unfold D._law_pool
  rw [w_seq]
  simp [e_v, e_c, e_tup, e_lst, e_dct, s_nil, s_cons, e_ix, e_sl, e_bin, e_cmp, e_eq, e_ne, e_in, e_nin, e_isN, e_notN, e_chain, e_neg, e_not, e_and, e_or, e_ite, e_call, e_bi, e_me, e_isT, e_new, e_attr, e_mth, e_mk, w_setattr, w_skip, w_ex, w_asg, w_asgT, w_setix, w_ite, w_ret, w_raise]
  refine w_seq_inv hΦ (fun env' μ' => ∃ c : Int, env' = [some (.lst (cs.map .int)), some (.int k), some (.int c), none] ∧ μ' = μ ∧ c = poolC cs k) ?_ ?_
  · simp [e_v, e_c, e_tup, e_lst, e_dct, s_nil, s_cons, e_ix, e_sl, e_bin, e_cmp, e_eq, e_ne, e_in, e_nin, e_isN, e_notN, e_chain, e_neg, e_not, e_and, e_or, e_ite, e_call, e_bi, e_me, e_isT, e_new, e_attr, e_mth, e_mk, w_setattr, w_skip, w_ex, w_asg, w_asgT, w_setix, w_ite, w_ret, w_raise]
    refine ⟨fun h0 => ?_, fun h0 => by
      have h1 : cs.length = 0 := by first | omega | (rw [h0]; rfl)
      unfold poolC
      rw [if_neg (by omega)]⟩
    have hne : cs ≠ [] := fun z => by rw [z] at h0; simp at h0
    have f := fmod_lt (a := k) (m := (cs.length : Int)) (by omega)
    refine ⟨hne, ?_⟩
    obtain ⟨x, hx⟩ : ∃ x, cs[(k.fmod (cs.length : Int)).toNat]? = some x := ⟨_, List.getElem?_eq_getElem (by omega)⟩
    rw [at_nat f.1 (a := Val.int x) (by rw [List.getElem?_map, hx]; rfl)]
    simp
    exact ⟨⟨hne, by omega⟩, by unfold poolC; rw [if_pos (by omega), hx]; rfl⟩
  rintro env' μ' ⟨c, rfl, rfl, hcE⟩
  rw [w_seq]
  simp [e_v, e_c, e_tup, e_lst, e_dct, s_nil, s_cons, e_ix, e_sl, e_bin, e_cmp, e_eq, e_ne, e_in, e_nin, e_isN, e_notN, e_chain, e_neg, e_not, e_and, e_or, e_ite, e_call, e_bi, e_me, e_isT, e_new, e_attr, e_mth, e_mk, w_setattr, w_skip, w_ex, w_asg, w_asgT, w_setix, w_ite, w_ret, w_raise]
  refine w_seq_inv hΦ (fun env' μ2 => ∃ c2 : Int, env' = [some (.lst (cs.map .int)), some (.int k), some (.int c), some (.int c2)] ∧ μ2 = μ' ∧ c2 = (if c < 0 ∨ 10 ^ 18 ≤ c then (c.natAbs : Int) else 0)) ?_ ?_
  · simp [e_v, e_c, e_tup, e_lst, e_dct, s_nil, s_cons, e_ix, e_sl, e_bin, e_cmp, e_eq, e_ne, e_in, e_nin, e_isN, e_notN, e_chain, e_neg, e_not, e_and, e_or, e_ite, e_call, e_bi, e_me, e_isT, e_new, e_attr, e_mth, e_mk, w_setattr, w_skip, w_ex, w_asg, w_asgT, w_setix, w_ite, w_ret, w_raise]
    refine ⟨fun a b c => by omega, fun a => ⟨fun b c d => by omega, fun b c => by omega⟩⟩
  rintro env' μ2 ⟨c2, rfl, rfl, hc2⟩
  simp [e_v, e_c, e_tup, e_lst, e_dct, s_nil, s_cons, e_ix, e_sl, e_bin, e_cmp, e_eq, e_ne, e_in, e_nin, e_isN, e_notN, e_chain, e_neg, e_not, e_and, e_or, e_ite, e_call, e_bi, e_me, e_isT, e_new, e_attr, e_mth, e_mk, w_setattr, w_skip, w_ex, w_asg, w_asgT, w_setix, w_ite, w_ret, w_raise]
  have f := fmod_lt (a := c.fmod 2147483629 * 69621 + 40009 * (k + 1) * (k + 3)) (m := 2147483629) (by decide)
  have g := fmod_lt (a := c) (m := 2147483629) (by decide)
  exact ⟨cmul_l (by omega) (by omega), cmul_l (by omega) (by omega), fun p hp => fin _ _ p f.1 (by omega) (by unfold poolS; rw [← hcE, ← hc2]) hp⟩
theorem some_okM (h : P "_law_some" = some D._law_some) (ht : P "_law_take" = some D._law_take_v2) {menu : List Str} (hnd : menu.Nodup) (hml : menu.length ≤ 1000) {many : Nat} (hm : many ≤ menu.length) (hp : Sta μ p) (hn : 2 ≤ n)
    (q : ∀ (l : List Str) μ', l.length = many → l.Nodup → (∀ s ∈ l, s ∈ menu) → Sw p μ μ' → someS menu many (rdPl μ p) = (l, rdPl μ' p) → Q (.lst (l.map .str)) μ') : phi P n "_law_some" .val [.ref p, .lst (menu.map .str), .int (many : Int)] μ Q X := by
  obtain ⟨n, rfl⟩ : ∃ k, n = k + 1 := ⟨n - 1, by omega⟩
  have hΦ := phi_mono P n
  refine call_ok h rfl ?_
  unfold D._law_some
  rw [w_seq]
  simp [e_v, e_c, e_tup, e_lst, e_dct, s_nil, s_cons, e_ix, e_sl, e_bin, e_cmp, e_eq, e_ne, e_in, e_nin, e_isN, e_notN, e_chain, e_neg, e_not, e_and, e_or, e_ite, e_call, e_bi, e_me, e_isT, e_new, e_attr, e_mth, e_mk, w_setattr, w_skip, w_ex, w_asg, w_asgT, w_setix, w_ite, w_ret, w_raise]
  intro r hr
  have hrp : r ≠ p := hp.ne hr
  refine comp_T (fun (k : Nat) => Val.int (k : Int)) (List.range many) hΦ (i_range.mpr ?_)
  simp [e_v, e_c, e_tup, e_lst, e_dct, s_nil, s_cons, e_ix, e_sl, e_bin, e_cmp, e_eq, e_ne, e_in, e_nin, e_isN, e_notN, e_chain, e_neg, e_not, e_and, e_or, e_ite, e_call, e_bi, e_me, e_isT, e_new, e_attr, e_mth, e_mk, w_setattr, w_skip, w_ex, w_asg, w_asgT, w_setix, w_ite, w_ret, w_raise]
  have hp1 : Sta (μ.set r (.lst (menu.map .str))) p := sta_ne hp hrp
  refine ⟨by omega, ints0S _, fun ys acc μ' => ∃ (l rest : List Str), acc = l.map .str ∧ l.length = ys.length ∧ (l ++ rest).Perm menu ∧ μ' r = some (.lst (rest.map .str)) ∧ Sta μ' p ∧ someI menu (rdPl μ p) ys.length = (l, rest, rdPl μ' p) ∧ ∀ a, a ≠ p → a ≠ r → μ' a = μ a, ⟨[], menu, rfl, rfl, by simp, mset_same, hp1, by rw [rdPl_ne hrp]; rfl, fun a _ h2 => mset_ne h2⟩, ?_, ?_⟩
  · rintro ys x zs acc μ' e ⟨l, rest, rfl, hl, hperm, er, hst, hI, ho⟩
    refine ⟨trivial, ?_⟩
    have hyl : ys.length < many := by
      have := congrArg List.length e
      simp at this
      omega
    have hpl := hperm.length_eq
    simp at hpl
    simp [wipe, e_v, e_c, e_tup, e_lst, e_dct, s_nil, s_cons, e_ix, e_sl, e_bin, e_cmp, e_eq, e_ne, e_in, e_nin, e_isN, e_notN, e_chain, e_neg, e_not, e_and, e_or, e_ite, e_call, e_bi, e_me, e_isT, e_new, e_attr, e_mth, e_mk, w_setattr, w_skip, w_ex, w_asg, w_asgT, w_setix, w_ite, w_ret, w_raise, bi_lenR er]
    rw [ok_pop er]
    refine ⟨rfl, ?_⟩
    refine takeM_ok ht hst (by omega) (by omega) (by omega) fun u μ2 u0 u1 k2 d2 => ?_
    have er2 : μ2 r = some (.lst (rest.map .str)) := by rw [k2.eq r hrp]; exact er
    obtain ⟨s, hs⟩ : ∃ s, rest[u.toNat]? = some s := ⟨_, List.getElem?_eq_getElem (by omega)⟩
    rw [me_popI (x := .str s) (k := u.toNat) er2 (by rw [big_eq]; simp; omega) (ixN_in u0 (by simpa using u1)) (by rw [List.getElem?_map, hs]; rfl)]
    simp
    have hpe := erase_perm hs
    refine ⟨by rw [big_eq]; omega, l ++ [s], by simp, by simp [hl], rest.eraseIdx u.toNat, ?_, eraseIdx_map' _ _ _, sta_ne k2.st hrp, by rw [rdPl_ne hrp, someI, hI]; unfold someF; dsimp only; rw [d2]; dsimp only; rw [hs]; rfl, fun a a1 a2 => by rw [mset_ne a2, k2.eq a a1]; exact ho a a1 a2⟩
    rw [List.append_assoc]
    exact (List.Perm.append_left l hpe).trans hperm
  · rintro acc μ' ⟨l, rest, rfl, hl, hperm, er, hst, hI, ho⟩
    refine ⟨trivial, ?_⟩
    show Q (reso μ μ' 4 (.lst (l.map Val.str))) _
    rw [reso_nr (by show nrL _ = true; exact nrL_strs _)]
    have hnd2 := hperm.nodup_iff.mpr hnd
    refine q l _ (by simpa using hl) (List.nodup_append.mp hnd2).1 (fun s hs => hperm.mem_iff.mp (List.mem_append_left _ hs)) ⟨?_, fun a a1 => ?_⟩ (by
      have hcp : rdPl (μ'.cut μ) p = rdPl μ' p := by unfold rdPl Mu.cut; rw [if_pos hp.some]
      rw [hcp]
      unfold someS
      simp at hI
      rw [hI])
    · obtain ⟨a, b, e, r2⟩ := hst
      exact ⟨a, b, by unfold Mu.cut; rw [if_pos hp.some]; exact e, r2⟩
    · unfold Mu.cut
      by_cases ha : (μ a).isSome = true
      · rw [if_pos ha]; exact ho a a1 (isSome_ne ha hr)
      · rw [if_neg ha]
        cases e : μ a with
        | none => rfl
        | some v => rw [e] at ha; exact (ha rfl).elim
end
end Mi
/-! Md: the drawn book of the menu family. -/
namespace Mi
open PySem (Str)
abbrev menuM : List Str := [Str.ofString "a", Str.ofString "b", Str.ofString "ab", Str.ofString "x", Str.ofString "xy", Str.ofString "abc", Str.ofString "abcd", Str.ofString "set", Str.ofString "end", Str.ofString "else", Str.ofString "give", Str.ofString "z"]
abbrev deedsM : List Str := [Str.ofString "f", Str.ofString "g", Str.ofString "fold", Str.ofString "gg", Str.ofString "deed", Str.ofString "end", Str.ofString "callfold", Str.ofString "h", Str.ofString "ab", Str.ofString "main"]
theorem menuM_nd : menuM.Nodup := by decide +kernel
theorem deedsM_nd : deedsM.Nodup := by decide +kernel
structure HdM (hs : Hs) : Prop where
  nd : (hs.map Prod.fst).Nodup
  nm : ∀ h ∈ hs, h.1 ∈ deedsM
  ps : ∀ h ∈ hs, h.2.length ≤ 4 ∧ h.2.Nodup ∧ ∀ s ∈ h.2, s ∈ menuM
structure DdM (hs : Hs) (room : Nat) (d : Dd) : Prop where
  nm : ∃ names : List Str, names ≠ [] ∧ names.length ≤ 7 ∧ names.Nodup ∧ (∀ s ∈ names, s ∈ menuM) ∧ (∀ q ∈ flats d.rows, RwM names hs q) ∧ ExM names 4 d.give ∧ ∀ s ∈ d.ps, s ∈ names
  dp : dps d.rows ≤ 3
  len : (flats d.rows).length ≤ room
structure BkM (room : Nat) (b : List Dd) : Prop where
  ne : b ≠ []
  len : b.length ≤ 8
  hd : HdM (b.map Dd.head)
  dd : ∀ d ∈ b, DdM (b.map Dd.head) room d
  mks' : ∃ (f : Int) (l : Nat), l ≤ 10 ∧ bmks b = mlM f 10 l
structure MbP (P : Prog) : Prop where
  r : MrP P
  pool : P "_law_pool" = some D._law_pool
  some' : P "_law_some" = some D._law_some
theorem filter_split {α : Type} (f : α → Bool) : ∀ l : List α, l.length = (l.filter f).length + (l.filter fun x => !f x).length
  | [] => rfl
  | a :: t => by
    have := filter_split f t
    rw [List.filter_cons, List.filter_cons, List.length_cons]
    cases f a <;> simp <;> omega
/-! the book as a function of the cells -/
def hdF (acc : Hs × (Int × Int)) (x : Str) : Hs × (Int × Int) := match tkS 5 acc.2 with
  | (t, s1) => match someS menuM t.toNat s1 with
    | (l, s2) => (acc.1 ++ [(x, l)], s2)
def ddF (cs : List Int) (hs : Hs) (f : Int) (acc : List Dd × Nat) (p : Int × (Str × List Str)) : List Dd × Nat := match tkS 3 (poolS cs (1 + p.1)) with
  | (u, s1) => match someS (menuM.filter fun s => !decide (s ∈ p.2.2)) (1 + u).toNat s1 with
    | (l, s2) => match rrS hs p.1 f (p.2.2 ++ l) 2 (s2, (acc.2, 20)) with
      | (rs, σ) => match exS (p.2.2 ++ l) 3 σ.1 with
        | (ge, _) => (acc.1 ++ [⟨p.2.1, p.2.2, rs, ge⟩], σ.2.1)
def bookS (cs : List Int) : List Dd := match tkS 4 (poolS cs 0) with
  | (u, s1) => match tkS (if u = 3 then 8 else 5) s1 with
    | (v, s2) => match someS deedsM (1 + v).toNat s2 with
      | (ds, s3) => match ds.foldl hdF ([], s3) with
        | (hs, s4) => match tkS 100 s4 with
          | (f, _) => ((enumT 0 hs).foldl (ddF cs hs f) ([], 10)).1
structure DlI (r5 w r9 : Ad) (v0 v1 v3 v4 v6 : Val) (cs : List Int) (hs : Hs) (f : Int) (μ : Mu) (ys : List (Int × (Str × List Str))) (env' : Env) (μ' : Mu) : Prop where
  ex : ∃ (b : List Dd) (left : Nat) (at' rows : Int) (o2 o7 o10 o11 o12 o13 o14 : Option Val), env' = [some v0, some v1, o2, some v3, some v4, some (.ref r5), some v6, o7, some (.ref w), some (.ref r9), o10, o11, o12, o13, o14] ∧ μ' r9 = some (.lst (b.map Dd.v)) ∧ μ' r5 = some (.lst (hs.map hdM)) ∧ μ' w = some (.dct (woM r5 at' rows (left : Int) f)) ∧ left ≤ 10 ∧ b.map Dd.head = ys.map Prod.snd ∧ (∀ d ∈ b, DdM hs 20 d) ∧ bmks b = mlM f 10 left ∧ ys.foldl (ddF cs hs f) ([], 10) = (b, left) ∧ ∀ a, (μ a).isSome = true → μ' a = μ a
structure HlI (p r5 : Ad) (v0 v1 v3 v4 v6 : Val) (s0 : Int × Int) (μ : Mu) (ys : List Str) (env' : Env) (μ' : Mu) : Prop where
  ex : ∃ (hs : Hs) (o7 : Option Val), env' = [some v0, some v1, some (.ref p), some v3, some v4, some (.ref r5), some v6, o7, none, none, none, none, none, none, none] ∧ μ' r5 = some (.lst (hs.map hdM)) ∧ hs.map Prod.fst = ys ∧ (∀ h ∈ hs, h.2.length ≤ 4 ∧ h.2.Nodup ∧ ∀ s ∈ h.2, s ∈ menuM) ∧ Sta μ' p ∧ ys.foldl hdF ([], s0) = (hs, rdPl μ' p) ∧ ∀ a, (μ a).isSome = true → μ' a = μ a
section
variable {P : Prog} {n : Nat} {μ : Mu} {Q : Val → Mu → Prop} {X : XQ} {p : Ad}
theorem book_okM (h : MbP P) (hb : P "_law_book" = some D._law_book_v3) {cs : List Int} (hcs : cs.length ≤ 1000) (hn : 20 ≤ n) (q : BkM 20 (bookS cs) → Q (.tup ((bookS cs).map Dd.v)) μ) : phi P n "_law_book" .val [.lst (cs.map .int), .int 5] μ Q X := by
  obtain ⟨n, rfl⟩ : ∃ k, n = k + 1 := ⟨n - 1, by omega⟩
  have hΦ := phi_mono P n
  have ht := h.r.x.t
  refine call_ok hb rfl ?_
  unfold D._law_book_v3
  rw [w_seq]
  simp [e_v, e_c, e_tup, e_lst, e_dct, s_nil, s_cons, e_ix, e_sl, e_bin, e_cmp, e_eq, e_ne, e_in, e_nin, e_isN, e_notN, e_chain, e_neg, e_not, e_and, e_or, e_ite, e_call, e_bi, e_me, e_isT, e_new, e_attr, e_mth, e_mk, w_setattr, w_skip, w_ex, w_asg, w_asgT, w_setix, w_ite, w_ret, w_raise]
  refine pool_okM h.pool (by decide) (by decide) hcs (by omega) fun p μ1 hp0 k1 d1 => ?_
  rw [w_seq]
  simp [e_v, e_c, e_tup, e_lst, e_dct, s_nil, s_cons, e_ix, e_sl, e_bin, e_cmp, e_eq, e_ne, e_in, e_nin, e_isN, e_notN, e_chain, e_neg, e_not, e_and, e_or, e_ite, e_call, e_bi, e_me, e_isT, e_new, e_attr, e_mth, e_mk, w_setattr, w_skip, w_ex, w_asg, w_asgT, w_setix, w_ite, w_ret, w_raise]
  rw [w_seq]
  simp [e_v, e_c, e_tup, e_lst, e_dct, s_nil, s_cons, e_ix, e_sl, e_bin, e_cmp, e_eq, e_ne, e_in, e_nin, e_isN, e_notN, e_chain, e_neg, e_not, e_and, e_or, e_ite, e_call, e_bi, e_me, e_isT, e_new, e_attr, e_mth, e_mk, w_setattr, w_skip, w_ex, w_asg, w_asgT, w_setix, w_ite, w_ret, w_raise]
  rw [w_seq]
  simp [e_v, e_c, e_tup, e_lst, e_dct, s_nil, s_cons, e_ix, e_sl, e_bin, e_cmp, e_eq, e_ne, e_in, e_nin, e_isN, e_notN, e_chain, e_neg, e_not, e_and, e_or, e_ite, e_call, e_bi, e_me, e_isT, e_new, e_attr, e_mth, e_mk, w_setattr, w_skip, w_ex, w_asg, w_asgT, w_setix, w_ite, w_ret, w_raise]
  intro r5 hr5
  have h5p : r5 ≠ p := k1.st.ne hr5
  rw [w_seq]
  simp [e_v, e_c, e_tup, e_lst, e_dct, s_nil, s_cons, e_ix, e_sl, e_bin, e_cmp, e_eq, e_ne, e_in, e_nin, e_isN, e_notN, e_chain, e_neg, e_not, e_and, e_or, e_ite, e_call, e_bi, e_me, e_isT, e_new, e_attr, e_mth, e_mk, w_setattr, w_skip, w_ex, w_asg, w_asgT, w_setix, w_ite, w_ret, w_raise]
  refine takeM_ok ht (sta_ne k1.st h5p) (by decide) (by decide) (by omega) fun u μ2 u0 u1 k2 d2 => ?_
  rw [rdPl_ne h5p, d1] at d2
  obtain ⟨m, m0, m1, hm, hme⟩ : ∃ m : Int, 0 < m ∧ m ≤ 8 ∧ atI [Val.int 5, .int 5, .int 5, .int 8] u = some (.int m) ∧ m = (if u = 3 then 8 else 5) := by
    have : u = 0 ∨ u = 1 ∨ u = 2 ∨ u = 3 := by omega
    rcases this with e | e | e | e <;> rw [e]
    · exact ⟨5, by decide, by decide, rfl, rfl⟩
    · exact ⟨5, by decide, by decide, rfl, rfl⟩
    · exact ⟨5, by decide, by decide, rfl, rfl⟩
    · exact ⟨8, by decide, by decide, rfl, rfl⟩
  simp [hm]
  refine takeM_ok ht k2.st m0 (by omega) (by omega) fun v μ3 v0 v1 k3 d3 => ?_
  obtain ⟨many, hmany⟩ : ∃ many : Nat, 1 + v = (many : Int) := ⟨(1 + v).toNat, by omega⟩
  simp
  rw [hmany]
  have em : [Val.str (Str.ofString "a"), .str (Str.ofString "b"), .str (Str.ofString "ab"), .str (Str.ofString "x"), .str (Str.ofString "xy"), .str (Str.ofString "abc"), .str (Str.ofString "abcd"), .str (Str.ofString "set"), .str (Str.ofString "end"), .str (Str.ofString "else"), .str (Str.ofString "give"), .str (Str.ofString "z")] = menuM.map Val.str := rfl
  have ed : [Val.str (Str.ofString "f"), .str (Str.ofString "g"), .str (Str.ofString "fold"), .str (Str.ofString "gg"), .str (Str.ofString "deed"), .str (Str.ofString "end"), .str (Str.ofString "callfold"), .str (Str.ofString "h"), .str (Str.ofString "ab"), .str (Str.ofString "main")] = deedsM.map Val.str := rfl
  obtain ⟨M, hM⟩ : ∃ M : List Str, M = menuM := ⟨_, rfl⟩
  have hMn : M.Nodup := by rw [hM]; exact menuM_nd
  have hMl : M.length = 12 := by rw [hM]; rfl
  rw [em, ed, ← hM]
  rw [w_seq]
  refine for_rule hΦ (i_e ?_ hΦ)
  simp [e_v, e_c, e_tup, e_lst, e_dct, s_nil, s_cons, e_ix, e_sl, e_bin, e_cmp, e_eq, e_ne, e_in, e_nin, e_isN, e_notN, e_chain, e_neg, e_not, e_and, e_or, e_ite, e_call, e_bi, e_me, e_isT, e_new, e_attr, e_mth, e_mk, w_setattr, w_skip, w_ex, w_asg, w_asgT, w_setix, w_ite, w_ret, w_raise, -List.map_cons, -List.map_nil]
  refine some_okM h.some' ht deedsM_nd (by decide) (by show many ≤ 10; omega) k3.st (by omega) fun ds μ4 e1 e2 e3 k4 d4 => ?_
  have e5 : μ4 r5 = some (.lst []) := by rw [k4.eq r5 h5p, k3.eq r5 h5p, k2.eq r5 h5p, mset_same]
  have old4 : ∀ a, (μ a).isSome = true → μ4 a = μ a := fun a ha => by
    have hap : a ≠ p := isSome_ne ha hp0
    have h1 : μ1 a = μ a := k1.eq a hap
    rw [k4.eq a hap, k3.eq a hap, k2.eq a hap, mset_ne (isSome_ne (by rw [h1]; exact ha) hr5), h1]
  simp [guard, -List.map_cons, -List.map_nil]
  refine ⟨fun done env' μ' => ∃ ys zs, ds = ys ++ zs ∧ done = ys.map Val.str ∧ HlI p r5 _ _ _ _ _ (rdPl μ4 p) μ ys env' μ', ⟨[], ds, rfl, rfl, ⟨[], _, rfl, e5, rfl, by simp, k4.st, rfl, old4⟩⟩, ?_, ?_⟩
  · rintro done v rest env' μ' e ⟨ys, zs, hz, rfl, ⟨hs, o7, rfl, e5, hfst, hps, hst, hF, ho⟩⟩
    obtain ⟨x, zs', rfl, rfl⟩ := split_map e hz
    refine ⟨trivial, ?_⟩
    have hlen : hs.length = ys.length := by rw [← hfst, List.length_map]
    have hyl : ys.length < many := by
      have := congrArg List.length hz
      simp at this
      omega
    have hr50 : μ r5 = none ∨ True := .inr trivial
    simp [-List.map_cons, -List.map_nil]
    rw [ok_append e5]
    refine ⟨rfl, ?_⟩
    refine takeM_ok ht hst (by decide) (by decide) (by omega) fun t μ5 t0 t1 k5 d5 => ?_
    obtain ⟨tn, rfl⟩ : ∃ tn : Nat, t = (tn : Int) := ⟨t.toNat, by omega⟩
    refine some_okM h.some' ht hMn (by omega) (by omega) k5.st (by omega) fun l μ6 l1 l2 l3 k6 d6 => ?_
    have e6 : μ6 r5 = some (.lst (hs.map hdM)) := by rw [k6.eq r5 h5p, k5.eq r5 h5p]; exact e5
    rw [me_append e6]
    refine brV_ite (by rw [List.length_map, big_eq]; omega) ?_
    dsimp only
    refine ⟨ys ++ [x], ⟨zs', by rw [hz]; simp⟩, by simp, ⟨hs ++ [(x, l)], _, rfl, by rw [mset_same]; simp [hdM], by simp [hfst], fun y hy => ?_, sta_ne k6.st h5p, by
      rw [List.foldl_append, hF]
      show hdF (hs, rdPl μ' p) x = _
      unfold hdF
      dsimp only
      rw [d5]
      dsimp only
      rw [Int.toNat_natCast, ← hM, d6, rdPl_ne h5p], fun a ha => ?_⟩⟩
    · rcases List.mem_append.mp hy with z | z
      · exact hps y z
      · simp at z
        rw [z]
        exact ⟨by show l.length ≤ 4; omega, l2, fun s hs => by rw [← hM]; exact l3 s hs⟩
    · have hap : a ≠ p := isSome_ne ha hp0
      have h1 : μ1 a = μ a := k1.eq a hap
      rw [mset_ne (isSome_ne (by rw [h1]; exact ha) hr5), k6.eq a hap, k5.eq a hap]
      exact ho a ha
  · rintro env' μ' ⟨ys, zs, hz, hdn, ⟨hs, o7, rfl, e5, hfst, hps, hst, hF, ho⟩⟩
    have hyd : ys = ds := by
      have h1 := congrArg List.length hdn
      have h2 := congrArg List.length hz
      simp at h1 h2
      have : zs = [] := List.length_eq_zero_iff.mp (by omega)
      rw [hz, this, List.append_nil]
    refine ⟨trivial, ?_⟩
    have hH : HdM hs := ⟨by rw [hfst, hyd]; exact e2, fun y hy => e3 _ (by rw [← hyd, ← hfst]; exact List.mem_map_of_mem hy), hps⟩
    have hhl : hs.length = many := by rw [← e1, ← hyd, ← hfst, List.length_map]
    rw [w_seq]
    simp [e_v, e_c, e_tup, e_lst, e_dct, s_nil, s_cons, e_ix, e_sl, e_bin, e_cmp, e_eq, e_ne, e_in, e_nin, e_isN, e_notN, e_chain, e_neg, e_not, e_and, e_or, e_ite, e_call, e_bi, e_me, e_isT, e_new, e_attr, e_mth, e_mk, w_setattr, w_skip, w_ex, w_asg, w_asgT, w_setix, w_ite, w_ret, w_raise, -List.map_cons, -List.map_nil]
    refine takeM_ok ht hst (by decide) (by decide) (by omega) fun f μ5 f0 f1 k5 d7 => ?_
    intro w hw0
    have hwp : w ≠ p := k5.st.ne hw0
    have e5b : μ5 r5 = some (.lst (hs.map hdM)) := by rw [k5.eq r5 h5p]; exact e5
    have h5w : r5 ≠ w := fun z => by rw [z] at e5b; rw [hw0] at e5b; cases e5b
    rw [w_seq]
    simp [e_v, e_c, e_tup, e_lst, e_dct, s_nil, s_cons, e_ix, e_sl, e_bin, e_cmp, e_eq, e_ne, e_in, e_nin, e_isN, e_notN, e_chain, e_neg, e_not, e_and, e_or, e_ite, e_call, e_bi, e_me, e_isT, e_new, e_attr, e_mth, e_mk, w_setattr, w_skip, w_ex, w_asg, w_asgT, w_setix, w_ite, w_ret, w_raise, -List.map_cons, -List.map_nil]
    intro r9 hr9
    have h9w : r9 ≠ w := fun z => by rw [z, mset_same] at hr9; cases hr9
    have hr9b : μ5 r9 = none := by rw [← hr9, mset_ne h9w]
    have h95 : r9 ≠ r5 := fun z => by rw [z, e5b] at hr9b; cases hr9b
    have old5 : ∀ a, (μ a).isSome = true → μ5 a = μ a := fun a ha => by rw [k5.eq a (isSome_ne ha hp0)]; exact ho a ha
    rw [w_seq]
    refine for_T (fun p : Int × (Str × List Str) => Val.tup [.int p.1, hdM p.2]) (enumT 0 hs) hΦ (i_enum ?_ hΦ)
    simp [e_v, e_c, e_tup, e_lst, e_dct, s_nil, s_cons, e_ix, e_sl, e_bin, e_cmp, e_eq, e_ne, e_in, e_nin, e_isN, e_notN, e_chain, e_neg, e_not, e_and, e_or, e_ite, e_call, e_bi, e_me, e_isT, e_new, e_attr, e_mth, e_mk, w_setattr, w_skip, w_ex, w_asg, w_asgT, w_setix, w_ite, w_ret, w_raise, -List.map_cons, -List.map_nil]
    refine ⟨hs.map hdM, by rw [mset_ne (Ne.symm h95), mset_ne h5w]; exact e5b, enum_map _ _ _, fun ys env' μ' => DlI r5 w r9 _ _ _ _ _ cs hs f μ ys env' μ', ⟨[], 10, 0, 20, _, _, _, _, _, _, _, rfl, mset_same, by rw [mset_ne (Ne.symm h95), mset_ne h5w]; exact e5b, by rw [mset_ne (Ne.symm h9w), mset_same]; rfl, Nat.le_refl _, rfl, by simp, by rw [mlM_self]; rfl, rfl, fun a ha => ?_⟩, ?_, ?_⟩
    · have hap : a ≠ p := isSome_ne ha hp0
      have h1 := ho a ha
      have h2 : μ5 a = μ a := by rw [k5.eq a hap]; exact h1
      rw [mset_ne (isSome_ne (by rw [h2]; exact ha) hr9b), mset_ne (isSome_ne (by rw [h2]; exact ha) hw0), h2]
    · rintro ys i nm ps zs env' μ' e ⟨b, left, a0, rows, o2, o7, o10, o11, o12, o13, o14, rfl, e9, e5, ew, hleft, hbm, hdd, hmk, hG, ho⟩
      refine ⟨e5, ?_⟩
      obtain ⟨i0, l1, l2, el, ey, ely⟩ := enumT_at e
      have hi : i = (ys.length : Int) := by rw [show i = (i, nm, ps).1 from rfl, i0]; simp
      have hmem : (nm, ps) ∈ hs := by rw [el]; simp
      have hyl : ys.length < hs.length := by
        rw [el, List.length_append, List.length_cons, ely]
        omega
      obtain ⟨p1, p2, p3⟩ := hps _ hmem
      simp [-List.map_cons, -List.map_nil, hdM]
      rw [w_seq]
      simp [e_v, e_c, e_tup, e_lst, e_dct, s_nil, s_cons, e_ix, e_sl, e_bin, e_cmp, e_eq, e_ne, e_in, e_nin, e_isN, e_notN, e_chain, e_neg, e_not, e_and, e_or, e_ite, e_call, e_bi, e_me, e_isT, e_new, e_attr, e_mth, e_mk, w_setattr, w_skip, w_ex, w_asg, w_asgT, w_setix, w_ite, w_ret, w_raise, -List.map_cons, -List.map_nil]
      refine pool_okM h.pool (by omega) (by omega) hcs (by omega) fun p' μ6 hp' k6 d8 => ?_
      rw [w_seq]
      simp [e_v, e_c, e_tup, e_lst, e_dct, s_nil, s_cons, e_ix, e_sl, e_bin, e_cmp, e_eq, e_ne, e_in, e_nin, e_isN, e_notN, e_chain, e_neg, e_not, e_and, e_or, e_ite, e_call, e_bi, e_me, e_isT, e_new, e_attr, e_mth, e_mk, w_setattr, w_skip, w_ex, w_asg, w_asgT, w_setix, w_ite, w_ret, w_raise, -List.map_cons, -List.map_nil]
      refine comp_mapT Val.str M (fun s => !decide (s ∈ ps)) Val.str hΦ (i_e ?_ hΦ)
      simp [e_v, e_c, e_tup, e_lst, e_dct, s_nil, s_cons, e_ix, e_sl, e_bin, e_cmp, e_eq, e_ne, e_in, e_nin, e_isN, e_notN, e_chain, e_neg, e_not, e_and, e_or, e_ite, e_call, e_bi, e_me, e_isT, e_new, e_attr, e_mth, e_mk, w_setattr, w_skip, w_ex, w_asg, w_asgT, w_setix, w_ite, w_ret, w_raise, guard]
      refine ⟨trivial, by rw [big_eq]; omega, fun s hs => ?_, ?_⟩
      · simp [wipe, e_v, e_c, e_tup, e_lst, e_dct, s_nil, s_cons, e_ix, e_sl, e_bin, e_cmp, e_eq, e_ne, e_in, e_nin, e_isN, e_notN, e_chain, e_neg, e_not, e_and, e_or, e_ite, e_call, e_bi, e_me, e_isT, e_new, e_attr, e_mth, e_mk, w_setattr, w_skip, w_ex, w_asg, w_asgT, w_setix, w_ite, w_ret, w_raise]
        rw [in_strs (l := ps) rfl]
        simp
      have hR : (M.filter fun s => !decide (s ∈ ps)).Nodup := hMn.filter _
      have hRl : 8 ≤ (M.filter fun s => !decide (s ∈ ps)).length := by
        have h1 : M.length = (M.filter fun s => !decide (s ∈ ps)).length + (M.filter fun s => !(!decide (s ∈ ps))).length := by
          exact filter_split (fun s => !decide (s ∈ ps)) M
        have p1' : ps.length ≤ 4 := p1
        have h2 : (M.filter fun s => !(!decide (s ∈ ps))).length ≤ ps.length := nodup_subO (hMn.filter _) fun s hs => by
          have := (List.mem_filter.mp hs).2
          simpa using this
        omega
      have hRl2 : (M.filter fun s => !decide (s ∈ ps)).length ≤ 12 := by rw [← hMl]; exact List.length_filter_le _ _
      have hRm : ∀ s ∈ (M.filter fun s => !decide (s ∈ ps)), s ∈ M ∧ s ∉ ps := fun s hs => ⟨(List.mem_filter.mp hs).1, by have := (List.mem_filter.mp hs).2; simpa using this⟩
      obtain ⟨R, hRE⟩ : ∃ R, R = (M.filter fun s => !decide (s ∈ ps)) := ⟨_, rfl⟩
      rw [← hRE] at hR hRl hRl2 hRm ⊢
      refine takeM_ok ht k6.st (by decide) (by decide) (by omega) fun u μ7 u0 u1 k7 d9 => ?_
      simp
      obtain ⟨un, hun⟩ : ∃ un : Nat, 1 + u = (un : Int) := ⟨(1 + u).toNat, by omega⟩
      rw [hun]
      refine some_okM h.some' ht hR (by omega) (by omega) k7.st (by omega) fun l μ8 l1 l2 l3 k8 d10 => ?_
      simp
      have p1' : ps.length ≤ 4 := p1
      refine ⟨by rw [big_eq]; omega, ?_⟩
      have kk := (k6.trans k7).trans k8
      have ne : ∀ a, (μ' a).isSome = true → a ≠ p' := fun a ha => isSome_ne ha hp'
      have wp' := ne w (by rw [ew]; rfl)
      have rp' := ne r5 (by rw [e5]; rfl)
      have np' := ne r9 (by rw [e9]; rfl)
      have ew8 : μ8 w = some (.dct (woM r5 a0 rows (left : Int) f)) := by rw [kk.eq w wp']; exact ew
      rw [w_seq]
      simp [e_v, e_c, e_tup, e_lst, e_dct, s_nil, s_cons, e_ix, e_sl, e_bin, e_cmp, e_eq, e_ne, e_in, e_nin, e_isN, e_notN, e_chain, e_neg, e_not, e_and, e_or, e_ite, e_call, e_bi, e_me, e_isT, e_new, e_attr, e_mth, e_mk, w_setattr, w_skip, w_ex, w_asg, w_asgT, w_setix, w_ite, w_ret, w_raise]
      rw [wm_setA ew8]
      simp
      have ew9 : (μ8.set w (.dct (woM r5 i rows (left : Int) f))) w = some (.dct (woM r5 i rows (left : Int) f)) := mset_same
      rw [w_seq]
      simp [e_v, e_c, e_tup, e_lst, e_dct, s_nil, s_cons, e_ix, e_sl, e_bin, e_cmp, e_eq, e_ne, e_in, e_nin, e_isN, e_notN, e_chain, e_neg, e_not, e_and, e_or, e_ite, e_call, e_bi, e_me, e_isT, e_new, e_attr, e_mth, e_mk, w_setattr, w_skip, w_ex, w_asg, w_asgT, w_setix, w_ite, w_ret, w_raise]
      rw [wm_setR ew9, mset_set]
      simp
      obtain ⟨μ9, h9⟩ : ∃ m, m = μ8.set w (.dct (woM r5 i ((20 : Nat) : Int) (left : Int) f)) := ⟨_, rfl⟩
      have h9' : μ8.set w (.dct (woM r5 i 20 (left : Int) f)) = μ9 := h9.symm
      rw [h9', ← List.map_append]
      have F : FixM p' w r5 hs i f (ps ++ l) := ⟨wp', rp', h5w, by omega, fun y hy => (hps y hy).1, by omega, by omega, fun z => by
        have := congrArg List.length z
        rw [List.length_append] at this
        simp only [List.length_nil] at this
        omega, by rw [List.length_append]; omega⟩
      have hwm : WmAt w r5 hs i f left 20 μ9 := ⟨by rw [h9, mset_same], by rw [h9, mset_ne h5w, kk.eq r5 rp']; exact e5⟩
      have rd9 : rdPl μ9 p' = rdPl μ8 p' := by rw [h9]; exact rdPl_ne wp'
      have hst9 : Sta μ9 p' := by rw [h9]; exact sta_ne kk.st wp'
      rw [w_seq]
      simp [e_v, e_c, e_tup, e_lst, e_dct, s_nil, s_cons, e_ix, e_sl, e_bin, e_cmp, e_eq, e_ne, e_in, e_nin, e_isN, e_notN, e_chain, e_neg, e_not, e_and, e_or, e_ite, e_call, e_bi, e_me, e_isT, e_new, e_attr, e_mth, e_mk, w_setattr, w_skip, w_ex, w_asg, w_asgT, w_setix, w_ite, w_ret, w_raise, -List.map_append]
      refine rows_okM h.r F 2 (by decide) (by omega) hst9 hwm (by decide) fun rs left' room' μ10 a1 a2 a3 a4 a5 k10 a6 d11 => ?_
      have e10 : μ10 r9 = some (.lst (b.map Dd.v)) := by rw [k10.eq r9 np' h9w, h9, mset_ne h9w, kk.eq r9 np']; exact e9
      rw [ok_append e10]
      refine ⟨rfl, ?_⟩
      refine exprM_ok h.r.x F.ne F.nl 3 (by decide) k10.st (by omega) fun ge μ11 hge k11 d12 => ?_
      have e11 : μ11 r9 = some (.lst (b.map Dd.v)) := by rw [k11.eq r9 np']; exact e10
      have hblen : b.length = ys.length := by have := congrArg List.length hbm; simpa using this
      rw [me_append e11]
      refine brV_ite (by rw [List.length_map, big_eq]; omega) ?_
      dsimp only
      have hw11 := a6.sw F k11
      have hd : DdM hs 20 ⟨nm, ps, rs, ge⟩ := ⟨⟨ps ++ l, F.ne, by rw [List.length_append]; omega, ?_, fun s hs => ?_, a1, hge, fun s hs => List.mem_append_left _ hs⟩, a2, by show (flats rs).length ≤ 20; omega⟩
      · refine ⟨b ++ [⟨nm, ps, rs, ge⟩], left', i, (room' : Int), _, _, _, _, _, _, _, rfl, by rw [mset_same]; simp [Dd.v], by rw [mset_ne (Ne.symm h95)]; exact hw11.r, by rw [mset_ne (Ne.symm h9w)]; exact hw11.w, by omega, by rw [List.map_append, List.map_append, hbm]; rfl, fun d hd' => ?_, ?_, ?_, fun a ha => ?_⟩
        · rcases List.mem_append.mp hd' with z | z
          · exact hdd d z
          · simp at z; rw [z]; exact hd
        · have eb : bmks (b ++ [⟨nm, ps, rs, ge⟩]) = bmks b ++ mks rs := by simp [bmks]
          rw [eb, hmk, a5, mlM_app f hleft a4]
        · rw [List.foldl_append, hG]
          show ddF cs hs f (b, left) (i, nm, ps) = _
          have ei : 1 + i = i + 1 := by omega
          unfold ddF
          dsimp only
          rw [← d8, d9]
          dsimp only
          rw [hun, Int.toNat_natCast, ← hM, ← hRE, d10]
          dsimp only
          rw [rd9] at d11
          rw [d11]
          dsimp only
          rw [d12]
        · have h1 := ho a ha
          have h2 := old5 a ha
          have s1 : (μ' a).isSome = true := by rw [h1]; exact ha
          have s2 : (μ5 a).isSome = true := by rw [h2]; exact ha
          rw [mset_ne (isSome_ne s2 hr9b), k11.eq a (ne a s1), k10.eq a (ne a s1) (isSome_ne s2 hw0), h9, mset_ne (isSome_ne s2 hw0), kk.eq a (ne a s1)]
          exact h1
      · rw [List.nodup_append]
        exact ⟨p2, l2, fun a ha c hc e => (hRm c (l3 c hc)).2 (by rw [← e]; exact ha)⟩
      · rcases List.mem_append.mp hs with z | z
        · exact p3 s z
        · rw [← hM]; exact (hRm s (l3 s z)).1
    · rintro env' μ' ⟨b, left, a0, rows, o2, o7, o10, o11, o12, o13, o14, rfl, e9, e5, ew, hleft, hbm, hdd, hmk, hG, ho⟩
      refine ⟨e5, ?_⟩
      simp [-List.map_cons, -List.map_nil]
      rw [bi_tupR e9]
      simp only [brV_some]
      show Q (reso μ μ' 4 (.tup (b.map Dd.v))) _
      rw [reso_nr (by show nrL _ = true; exact plainL_nr (bk_plain b)), cut_keep ho]
      have hbh : b.map Dd.head = hs := by rw [hbm, enumT_snd]
      have hbl : b.length = many := by rw [← hhl, ← hbh, List.length_map]
      have hbS : bookS cs = b := by
        unfold bookS
        rw [d2]
        dsimp only
        rw [← hme, d3]
        dsimp only
        rw [hmany, Int.toNat_natCast, d4]
        dsimp only
        rw [← hyd, hF]
        dsimp only
        rw [d7]
        dsimp only
        rw [hG]
      rw [hbS] at q
      exact q ⟨fun z => by rw [z] at hbl; simp at hbl; omega, by omega, by rw [hbh]; exact hH, by rw [hbh]; exact hdd, ⟨f, left, hleft, hmk⟩⟩
end
end Mi
/-! Me: cells; expressions written, both ways. -/
namespace Mi
open PySem (Str)
theorem cut_9 {α : Type} (l : List α) : (cutL l none (some 9)).length = min 9 l.length := by
  have h1 : sIx l.length l.length (some 9) = min 9 l.length := by
    show (if (9 : Int) < 0 then (max ((9 : Int) + (l.length : Int)) 0).toNat else (min (9 : Int) (l.length : Int)).toNat) = _
    rw [if_neg (by decide)]
    omega
  show ((l.drop 0).take (sIx l.length l.length (some 9) - 0)).length = _
  rw [h1, List.length_take]
  simp
theorem cut_9b {α : Type} (l : List α) : (cutL l (some 9) (some 63)).length ≤ l.length - 9 := by
  have h1 : sIx l.length 0 (some 9) = min 9 l.length := by
    show (if (9 : Int) < 0 then (max ((9 : Int) + (l.length : Int)) 0).toNat else (min (9 : Int) (l.length : Int)).toNat) = _
    rw [if_neg (by decide)]
    omega
  unfold cutL
  rw [h1, List.length_take, List.length_drop]
  omega
section
variable {P : Prog} {n : Nat} {μ : Mu} {Q : Val → Mu → Prop} {X : XQ} {p : Ad}
theorem cells_okM (h : P "_law_cells" = some D._law_cells) {ns : List Int} (hns : ns.length ≤ 63) (hn : 1 ≤ n) (q : ∀ cs : List Int, cs.length ≤ 9 → Q (.lst (cs.map .int)) μ) : phi P n "_law_cells" .val [.lst (ns.map .int), .int 9] μ Q X := by
  obtain ⟨n, rfl⟩ : ∃ k, n = k + 1 := ⟨n - 1, by omega⟩
  have hΦ := phi_mono P n
  refine call_ok h rfl ?_
  have c1 := cut_9 ns
  have c2 := cut_9b ns
  unfold D._law_cells
  rw [w_seq]
  simp [e_v, e_c, e_tup, e_lst, e_dct, s_nil, s_cons, e_ix, e_sl, e_bin, e_cmp, e_eq, e_ne, e_in, e_nin, e_isN, e_notN, e_chain, e_neg, e_not, e_and, e_or, e_ite, e_call, e_bi, e_me, e_isT, e_new, e_attr, e_mth, e_mk, w_setattr, w_skip, w_ex, w_asg, w_asgT, w_setix, w_ite, w_ret, w_raise, cutL_mapS]
  intro r hr
  rw [w_seq]
  refine for_T (fun p : Int × Int => Val.tup [.int p.1, .int p.2]) (enumT 0 (cutL ns (some 9) (some 63))) hΦ (i_enum ?_ hΦ)
  simp [e_v, e_c, e_tup, e_lst, e_dct, s_nil, s_cons, e_ix, e_sl, e_bin, e_cmp, e_eq, e_ne, e_in, e_nin, e_isN, e_notN, e_chain, e_neg, e_not, e_and, e_or, e_ite, e_call, e_bi, e_me, e_isT, e_new, e_attr, e_mth, e_mk, w_setattr, w_skip, w_ex, w_asg, w_asgT, w_setix, w_ite, w_ret, w_raise, cutL_mapS, guard]
  refine ⟨enum_map _ _ _, fun ys env' μ' => ∃ (cs : List Int) (o3 o4 : Option Val), env' = [some (.lst (ns.map .int)), some (.int 9), some (.ref r), o3, o4] ∧ μ' = μ.set r (.lst (cs.map .int)) ∧ cs.length = min 9 ns.length, ⟨_, _, _, rfl, rfl, c1⟩, ?_, ?_⟩
  · rintro ys i c zs env' μ' e ⟨cs, o3, o4, rfl, rfl, hl⟩
    refine ⟨trivial, ?_⟩
    obtain ⟨i0, l1, l2, el, ey, ely⟩ := enumT_at e
    have hi : i = (ys.length : Int) := by rw [show i = (i, c).1 from rfl, i0]; simp
    have h9 : 9 ≤ ns.length := by
      have := congrArg List.length el
      rw [List.length_append, List.length_cons] at this
      omega
    have hcl : cs.length = 9 := by omega
    have f := fmod_lt (a := i) (m := 9) (by decide)
    have er : (μ.set r (.lst (cs.map .int))) r = some (.lst (cs.map .int)) := mset_same
    obtain ⟨x, hx⟩ : ∃ x, cs[(i.fmod 9).toNat]? = some x := ⟨_, List.getElem?_eq_getElem (by omega)⟩
    have hat : ixV (μ.set r (.lst (cs.map .int))) (.ref r) (.int (i.fmod 9)) = some (.int x) := by
      rw [ix_ref er]
      exact at_nat f.1 (by rw [List.getElem?_map, hx]; rfl)
    simp [e_v, e_c, e_tup, e_lst, e_dct, s_nil, s_cons, e_ix, e_sl, e_bin, e_cmp, e_eq, e_ne, e_in, e_nin, e_isN, e_notN, e_chain, e_neg, e_not, e_and, e_or, e_ite, e_call, e_bi, e_me, e_isT, e_new, e_attr, e_mth, e_mk, w_setattr, w_skip, w_ex, w_asg, w_asgT, w_setix, w_ite, w_ret, w_raise]
    rw [hat]
    simp
    have hbig : CMul x 31 := cmul_r (by decide) (by decide)
    refine ⟨hbig, ?_⟩
    have hix : ixN (cs.map Val.int).length (i.fmod 9) = some (i.fmod 9).toNat := ixN_in f.1 (by rw [List.length_map, hcl]; exact f.2)
    rw [set_lst er hix]
    simp
    exact ⟨cs.set (i.fmod 9).toNat (x * 31 + c), by rw [List.map_set], by simp [hl]⟩
  · rintro env' μ' ⟨cs, o3, o4, rfl, rfl, hl⟩
    refine ⟨trivial, ?_⟩
    simp [e_v, e_c, e_tup, e_lst, e_dct, s_nil, s_cons, e_ix, e_sl, e_bin, e_cmp, e_eq, e_ne, e_in, e_nin, e_isN, e_notN, e_chain, e_neg, e_not, e_and, e_or, e_ite, e_call, e_bi, e_me, e_isT, e_new, e_attr, e_mth, e_mk, w_setattr, w_skip, w_ex, w_asg, w_asgT, w_setix, w_ite, w_ret, w_raise]
    refine (fin_new hr (by show nrL _ = true; exact nrL_ints _)).mpr ?_
    exact q cs (by omega)
/-! expressions -/
def sgW : Wd → Str
  | .plus => Str.ofString "+"
  | .less => Str.ofString "-"
  | .times => Str.ofString "*"
  | .over => Str.ofString "/"
  | .rest => Str.ofString ":"
  | .under => Str.ofString "<"
  | .same => Str.ofString "="
def exT : Ex → Str
  | .num i => strI i
  | .nam s => s
  | .op w a b => Str.ofString "(" ++ exT a ++ sgW w ++ exT b ++ Str.ofString ")"
structure ExL (e : Ex) : Prop where
  small : e.small
  names : ∀ s ∈ e.names, s.length ≤ 4
theorem sg_len (w : Wd) : (sgW w).length = 1 := by cases w <;> rfl
theorem exT_len : ∀ {e : Ex}, ExL e → (exT e).length + 3 ≤ 12 * 2 ^ e.deep
  | .num i, h => by
    have h1 : 0 ≤ i ∧ i < 1000000 := h.small
    have := strI_len (i := i) (by omega) (by omega)
    simp [exT, Ex.deep]
    omega
  | .nam s, h => by
    have := h.names s (by simp [Ex.names])
    simp [exT, Ex.deep]
    omega
  | .op w a b, h => by
    have ha := exT_len (e := a) ⟨h.small.1, fun s hs => h.names s (by simp [Ex.names, hs])⟩
    have hb := exT_len (e := b) ⟨h.small.2, fun s hs => h.names s (by simp [Ex.names, hs])⟩
    have h3 : 2 ^ a.deep ≤ 2 ^ (max a.deep b.deep) := Nat.pow_le_pow_right (by decide) (by omega)
    have h4 : 2 ^ b.deep ≤ 2 ^ (max a.deep b.deep) := Nat.pow_le_pow_right (by decide) (by omega)
    have h5 : 2 ^ (max a.deep b.deep + 1) = 2 ^ (max a.deep b.deep) * 2 := Nat.pow_succ ..
    have e1 : (Str.ofString "(").length = 1 := rfl
    have e2 : (Str.ofString ")").length = 1 := rfl
    have e3 := sg_len w
    rw [exT, str_len_append, str_len_append, str_len_append, str_len_append, Ex.deep]
    omega
theorem exT_400 {e : Ex} (h : ExL e) (hd : e.deep ≤ 5) : (exT e).length ≤ 400 := by
  have h1 := exT_len h
  have h2 : 2 ^ e.deep ≤ 2 ^ 5 := Nat.pow_le_pow_right (by decide) hd
  omega
theorem addS {s t : Str} (h : s.length + t.length ≤ 1000000) : binV μ .add (.str s) (.str t) = some (.str (s ++ t)) := by
  rw [bn_addS, if_pos (by rw [big_eq]; omega)]
theorem ex_text_ok (h : P "expression_text" = some D.expression_text) : ∀ (e : Ex) (n : Nat) (Q : Val → Mu → Prop) (X : XQ), ExL e → e.deep ≤ 5 → e.deep ≤ n → Q (.str (exT e)) μ → phi P n "expression_text" .val [e.v] μ Q X
  | .num i, n, Q, X, he, hd, hn, q => by
    obtain ⟨n, rfl⟩ : ∃ k, n = k + 1 := ⟨n - 1, by simp [Ex.deep] at hn; omega⟩
    refine call_ok h rfl ?_
    have h1 : 0 ≤ i ∧ i < 1000000 := he.small
    have hl := log_small h1.1 (by omega)
    unfold D.expression_text
    rw [w_seq]
    simp [e_v, e_c, e_tup, e_lst, e_dct, s_nil, s_cons, e_ix, e_sl, e_bin, e_cmp, e_eq, e_ne, e_in, e_nin, e_isN, e_notN, e_chain, e_neg, e_not, e_and, e_or, e_ite, e_call, e_bi, e_me, e_isT, e_new, e_attr, e_mth, e_mk, w_setattr, w_skip, w_ex, w_asg, w_asgT, w_setix, w_ite, w_ret, w_raise, Ex.v]
    rw [w_seq]
    simp [e_v, e_c, e_tup, e_lst, e_dct, s_nil, s_cons, e_ix, e_sl, e_bin, e_cmp, e_eq, e_ne, e_in, e_nin, e_isN, e_notN, e_chain, e_neg, e_not, e_and, e_or, e_ite, e_call, e_bi, e_me, e_isT, e_new, e_attr, e_mth, e_mk, w_setattr, w_skip, w_ex, w_asg, w_asgT, w_setix, w_ite, w_ret, w_raise, hl]
    exact q
  | .nam s, n, Q, X, he, hd, hn, q => by
    obtain ⟨n, rfl⟩ : ∃ k, n = k + 1 := ⟨n - 1, by simp [Ex.deep] at hn; omega⟩
    refine call_ok h rfl ?_
    unfold D.expression_text
    rw [w_seq]
    simp [e_v, e_c, e_tup, e_lst, e_dct, s_nil, s_cons, e_ix, e_sl, e_bin, e_cmp, e_eq, e_ne, e_in, e_nin, e_isN, e_notN, e_chain, e_neg, e_not, e_and, e_or, e_ite, e_call, e_bi, e_me, e_isT, e_new, e_attr, e_mth, e_mk, w_setattr, w_skip, w_ex, w_asg, w_asgT, w_setix, w_ite, w_ret, w_raise, Ex.v]
    rw [w_seq]
    simp [e_v, e_c, e_tup, e_lst, e_dct, s_nil, s_cons, e_ix, e_sl, e_bin, e_cmp, e_eq, e_ne, e_in, e_nin, e_isN, e_notN, e_chain, e_neg, e_not, e_and, e_or, e_ite, e_call, e_bi, e_me, e_isT, e_new, e_attr, e_mth, e_mk, w_setattr, w_skip, w_ex, w_asg, w_asgT, w_setix, w_ite, w_ret, w_raise]
    rw [w_seq]
    simp [e_v, e_c, e_tup, e_lst, e_dct, s_nil, s_cons, e_ix, e_sl, e_bin, e_cmp, e_eq, e_ne, e_in, e_nin, e_isN, e_notN, e_chain, e_neg, e_not, e_and, e_or, e_ite, e_call, e_bi, e_me, e_isT, e_new, e_attr, e_mth, e_mk, w_setattr, w_skip, w_ex, w_asg, w_asgT, w_setix, w_ite, w_ret, w_raise]
    exact q
  | .op w a b, n, Q, X, he, hd, hn, q => by
    have hda : a.deep ≤ 5 ∧ b.deep ≤ 5 := by simp only [Ex.deep] at hd; omega
    obtain ⟨n, rfl⟩ : ∃ k, n = k + 1 := ⟨n - 1, by simp only [Ex.deep] at hn; omega⟩
    have hna : a.deep ≤ n ∧ b.deep ≤ n := by simp only [Ex.deep] at hn; omega
    have la : ExL a := ⟨he.small.1, fun s hs => he.names s (by simp [Ex.names, hs])⟩
    have lb : ExL b := ⟨he.small.2, fun s hs => he.names s (by simp [Ex.names, hs])⟩
    have ka := exT_400 la hda.1
    have kb := exT_400 lb hda.2
    have h1 : (w.s == Str.ofString "number") = false := by cases w <;> decide +kernel
    have h2 : (w.s == Str.ofString "name") = false := by cases w <;> decide +kernel
    have e1 : (Str.ofString "(").length = 1 := rfl
    have e2 : (Str.ofString ")").length = 1 := rfl
    have e3 := sg_len w
    refine call_ok h rfl ?_
    unfold D.expression_text
    rw [w_seq]
    simp [e_v, e_c, e_tup, e_lst, e_dct, s_nil, s_cons, e_ix, e_sl, e_bin, e_cmp, e_eq, e_ne, e_in, e_nin, e_isN, e_notN, e_chain, e_neg, e_not, e_and, e_or, e_ite, e_call, e_bi, e_me, e_isT, e_new, e_attr, e_mth, e_mk, w_setattr, w_skip, w_ex, w_asg, w_asgT, w_setix, w_ite, w_ret, w_raise, Ex.v]
    rw [w_seq]
    simp [e_v, e_c, e_tup, e_lst, e_dct, s_nil, s_cons, e_ix, e_sl, e_bin, e_cmp, e_eq, e_ne, e_in, e_nin, e_isN, e_notN, e_chain, e_neg, e_not, e_and, e_or, e_ite, e_call, e_bi, e_me, e_isT, e_new, e_attr, e_mth, e_mk, w_setattr, w_skip, w_ex, w_asg, w_asgT, w_setix, w_ite, w_ret, w_raise, h1]
    rw [w_seq]
    simp [e_v, e_c, e_tup, e_lst, e_dct, s_nil, s_cons, e_ix, e_sl, e_bin, e_cmp, e_eq, e_ne, e_in, e_nin, e_isN, e_notN, e_chain, e_neg, e_not, e_and, e_or, e_ite, e_call, e_bi, e_me, e_isT, e_new, e_attr, e_mth, e_mk, w_setattr, w_skip, w_ex, w_asg, w_asgT, w_setix, w_ite, w_ret, w_raise, h2, -bn_addS]
    refine ex_text_ok h a n _ _ la hda.1 hna.1 ?_
    rw [addS (by omega)]
    simp only [brV_some]
    have hsg : ixV μ (.dct [.tup [.str (Str.ofString "plus"), .str (Str.ofString "+")], .tup [.str (Str.ofString "less"), .str (Str.ofString "-")], .tup [.str (Str.ofString "times"), .str (Str.ofString "*")], .tup [.str (Str.ofString "over"), .str (Str.ofString "/")], .tup [.str (Str.ofString "rest"), .str (Str.ofString ":")], .tup [.str (Str.ofString "under"), .str (Str.ofString "<")], .tup [.str (Str.ofString "same"), .str (Str.ofString "=")]]) (.str w.s) = some (.str (sgW w)) := by cases w <;> rfl
    rw [hsg]
    simp only [brV_some]
    rw [addS (by rw [str_len_append]; omega)]
    simp only [brV_some]
    refine ex_text_ok h b n _ _ lb hda.2 hna.2 ?_
    rw [addS (by rw [str_len_append, str_len_append]; omega)]
    simp only [brV_some]
    rw [addS (by rw [str_len_append, str_len_append, str_len_append]; omega)]
    simp only [brV_some]
    exact fin_val rfl cut_self q
theorem l_written_ok (h : P "_law_written" = some D._law_written) : ∀ (e : Ex) (n : Nat) (Q : Val → Mu → Prop) (X : XQ), ExL e → e.deep ≤ 5 → e.deep ≤ n → Q (.str (exT e)) μ → phi P n "_law_written" .val [e.v] μ Q X
  | .num i, n, Q, X, he, hd, hn, q => by
    obtain ⟨n, rfl⟩ : ∃ k, n = k + 1 := ⟨n - 1, by simp [Ex.deep] at hn; omega⟩
    refine call_ok h rfl ?_
    have h1 : 0 ≤ i ∧ i < 1000000 := he.small
    have hl := log_small h1.1 (by omega)
    unfold D._law_written
    rw [w_seq]
    simp [e_v, e_c, e_tup, e_lst, e_dct, s_nil, s_cons, e_ix, e_sl, e_bin, e_cmp, e_eq, e_ne, e_in, e_nin, e_isN, e_notN, e_chain, e_neg, e_not, e_and, e_or, e_ite, e_call, e_bi, e_me, e_isT, e_new, e_attr, e_mth, e_mk, w_setattr, w_skip, w_ex, w_asg, w_asgT, w_setix, w_ite, w_ret, w_raise, Ex.v]
    rw [w_seq]
    simp [e_v, e_c, e_tup, e_lst, e_dct, s_nil, s_cons, e_ix, e_sl, e_bin, e_cmp, e_eq, e_ne, e_in, e_nin, e_isN, e_notN, e_chain, e_neg, e_not, e_and, e_or, e_ite, e_call, e_bi, e_me, e_isT, e_new, e_attr, e_mth, e_mk, w_setattr, w_skip, w_ex, w_asg, w_asgT, w_setix, w_ite, w_ret, w_raise, hl]
    exact q
  | .nam s, n, Q, X, he, hd, hn, q => by
    obtain ⟨n, rfl⟩ : ∃ k, n = k + 1 := ⟨n - 1, by simp [Ex.deep] at hn; omega⟩
    refine call_ok h rfl ?_
    unfold D._law_written
    rw [w_seq]
    simp [e_v, e_c, e_tup, e_lst, e_dct, s_nil, s_cons, e_ix, e_sl, e_bin, e_cmp, e_eq, e_ne, e_in, e_nin, e_isN, e_notN, e_chain, e_neg, e_not, e_and, e_or, e_ite, e_call, e_bi, e_me, e_isT, e_new, e_attr, e_mth, e_mk, w_setattr, w_skip, w_ex, w_asg, w_asgT, w_setix, w_ite, w_ret, w_raise, Ex.v]
    rw [w_seq]
    simp [e_v, e_c, e_tup, e_lst, e_dct, s_nil, s_cons, e_ix, e_sl, e_bin, e_cmp, e_eq, e_ne, e_in, e_nin, e_isN, e_notN, e_chain, e_neg, e_not, e_and, e_or, e_ite, e_call, e_bi, e_me, e_isT, e_new, e_attr, e_mth, e_mk, w_setattr, w_skip, w_ex, w_asg, w_asgT, w_setix, w_ite, w_ret, w_raise]
    rw [w_seq]
    simp [e_v, e_c, e_tup, e_lst, e_dct, s_nil, s_cons, e_ix, e_sl, e_bin, e_cmp, e_eq, e_ne, e_in, e_nin, e_isN, e_notN, e_chain, e_neg, e_not, e_and, e_or, e_ite, e_call, e_bi, e_me, e_isT, e_new, e_attr, e_mth, e_mk, w_setattr, w_skip, w_ex, w_asg, w_asgT, w_setix, w_ite, w_ret, w_raise]
    exact q
  | .op w a b, n, Q, X, he, hd, hn, q => by
    have hda : a.deep ≤ 5 ∧ b.deep ≤ 5 := by simp only [Ex.deep] at hd; omega
    obtain ⟨n, rfl⟩ : ∃ k, n = k + 1 := ⟨n - 1, by simp only [Ex.deep] at hn; omega⟩
    have hna : a.deep ≤ n ∧ b.deep ≤ n := by simp only [Ex.deep] at hn; omega
    have la : ExL a := ⟨he.small.1, fun s hs => he.names s (by simp [Ex.names, hs])⟩
    have lb : ExL b := ⟨he.small.2, fun s hs => he.names s (by simp [Ex.names, hs])⟩
    have ka := exT_400 la hda.1
    have kb := exT_400 lb hda.2
    have h1 : (w.s == Str.ofString "number") = false := by cases w <;> decide +kernel
    have h2 : (w.s == Str.ofString "name") = false := by cases w <;> decide +kernel
    have e1 : (Str.ofString "(").length = 1 := rfl
    have e2 : (Str.ofString ")").length = 1 := rfl
    have e3 := sg_len w
    refine call_ok h rfl ?_
    unfold D._law_written
    rw [w_seq]
    simp [e_v, e_c, e_tup, e_lst, e_dct, s_nil, s_cons, e_ix, e_sl, e_bin, e_cmp, e_eq, e_ne, e_in, e_nin, e_isN, e_notN, e_chain, e_neg, e_not, e_and, e_or, e_ite, e_call, e_bi, e_me, e_isT, e_new, e_attr, e_mth, e_mk, w_setattr, w_skip, w_ex, w_asg, w_asgT, w_setix, w_ite, w_ret, w_raise, Ex.v]
    rw [w_seq]
    simp [e_v, e_c, e_tup, e_lst, e_dct, s_nil, s_cons, e_ix, e_sl, e_bin, e_cmp, e_eq, e_ne, e_in, e_nin, e_isN, e_notN, e_chain, e_neg, e_not, e_and, e_or, e_ite, e_call, e_bi, e_me, e_isT, e_new, e_attr, e_mth, e_mk, w_setattr, w_skip, w_ex, w_asg, w_asgT, w_setix, w_ite, w_ret, w_raise, h1]
    rw [w_seq]
    simp [e_v, e_c, e_tup, e_lst, e_dct, s_nil, s_cons, e_ix, e_sl, e_bin, e_cmp, e_eq, e_ne, e_in, e_nin, e_isN, e_notN, e_chain, e_neg, e_not, e_and, e_or, e_ite, e_call, e_bi, e_me, e_isT, e_new, e_attr, e_mth, e_mk, w_setattr, w_skip, w_ex, w_asg, w_asgT, w_setix, w_ite, w_ret, w_raise, h2, -bn_addS]
    rw [w_seq]
    obtain ⟨k, hk1, hk2⟩ : ∃ k : Int, (∀ m : Mu, meV m .indexV (.lst [.str (Str.ofString "plus"), .str (Str.ofString "less"), .str (Str.ofString "times"), .str (Str.ofString "over"), .str (Str.ofString "rest"), .str (Str.ofString "under"), .str (Str.ofString "same")]) [.str w.s] = some (.int k, m)) ∧ ∀ m : Mu, ixV m (.str (Str.ofString "+-*/:<=")) (.int k) = some (.str (sgW w)) := by
      cases w
      · exact ⟨0, fun _ => rfl, fun _ => rfl⟩
      · exact ⟨1, fun _ => rfl, fun _ => rfl⟩
      · exact ⟨2, fun _ => rfl, fun _ => rfl⟩
      · exact ⟨3, fun _ => rfl, fun _ => rfl⟩
      · exact ⟨4, fun _ => rfl, fun _ => rfl⟩
      · exact ⟨5, fun _ => rfl, fun _ => rfl⟩
      · exact ⟨6, fun _ => rfl, fun _ => rfl⟩
    have hok : ∀ (m : Mu) (l : List Val), meOk m .indexV (.lst l) = true := fun _ _ => rfl
    simp [e_v, e_c, e_tup, e_lst, e_dct, s_nil, s_cons, e_ix, e_sl, e_bin, e_cmp, e_eq, e_ne, e_in, e_nin, e_isN, e_notN, e_chain, e_neg, e_not, e_and, e_or, e_ite, e_call, e_bi, e_me, e_isT, e_new, e_attr, e_mth, e_mk, w_setattr, w_skip, w_ex, w_asg, w_asgT, w_setix, w_ite, w_ret, w_raise, hok, hk1, -ix_str, hk2, -bn_addS]
    refine l_written_ok h a n _ _ la hda.1 hna.1 ?_
    rw [addS (by omega)]
    simp only [brV_some]
    rw [addS (by rw [str_len_append]; omega)]
    simp only [brV_some]
    refine l_written_ok h b n _ _ lb hda.2 hna.2 ?_
    rw [addS (by rw [str_len_append, str_len_append]; omega)]
    simp only [brV_some]
    rw [addS (by rw [str_len_append, str_len_append, str_len_append]; omega)]
    simp only [brV_some]
    exact fin_val rfl cut_self q
end
end Mi
/-! Mf: rows and books written, both ways. -/
namespace Mi
open PySem (Str)
def spS : Str := Str.ofString " "
mutual
def rwT : Rw → List Str
  | .set n e => [Str.ofString "set " ++ n ++ spS ++ exT e]
  | .say e => [Str.ofString "say " ++ exT e]
  | .call n w as m => [PySem.Str.join spS ([Str.ofString "call", n, w, strI m] ++ as.map exT)]
  | .when e a b => [Str.ofString "when " ++ exT e] ++ rsT a ++ [Str.ofString "else"] ++ rsT b ++ [Str.ofString "end"]
  | .turn e b => [Str.ofString "turn " ++ exT e] ++ rsT b ++ [Str.ofString "end"]
def rsT : List Rw → List Str
  | [] => []
  | r :: t => rwT r ++ rsT t
end
theorem rsT_app : ∀ (a b : List Rw), rsT (a ++ b) = rsT a ++ rsT b
  | [], b => by simp [rsT]
  | r :: t, b => by
    show rsT (r :: (t ++ b)) = _
    rw [rsT, rsT_app t b, rsT, List.append_assoc]
structure RwL (r : Rw) : Prop where
  ex : ∀ e ∈ r.exs, ExL e ∧ e.deep ≤ 5
  aim : ∀ s ∈ r.aim, s.length ≤ 4
  cl : ∀ x w as m, r = .call x w as m → w.length ≤ 8 ∧ as.length ≤ 4 ∧ 0 ≤ m ∧ m < 100
theorem join_len (a : Str) : ∀ l : List Str, (PySem.Str.join a l).length ≤ (l.map (·.length)).sum + l.length * a.length
  | [] => Nat.zero_le _
  | [x] => by
    show x.length ≤ _
    simp
  | x :: y :: t => by
    have h := join_len a (y :: t)
    show (x ++ a ++ PySem.Str.join a (y :: t)).length ≤ _
    rw [str_len_append, str_len_append, List.map_cons, List.sum_cons, List.length_cons, Nat.succ_mul]
    omega
theorem sum_le {l : List Str} {B : Nat} (h : ∀ s ∈ l, s.length ≤ B) : (l.map (·.length)).sum ≤ B * l.length := by
  induction l with
  | nil => simp
  | cons a t ih =>
    have h1 := h a List.mem_cons_self
    have h2 := ih fun s hs => h s (List.mem_cons_of_mem _ hs)
    rw [List.map_cons, List.sum_cons, List.length_cons, Nat.mul_succ]
    omega
theorem bi_join {μ : Mu} {a : Str} {l : List Str} {v : Val} (hv : content μ v = some (.lst (l.map .str))) (h : (l.map (·.length)).sum + l.length * a.length ≤ 16000000) : biV μ .join [.str a, v] = some (.str (PySem.Str.join a l)) := by
  show joinF μ [.str a, v] = _
  have e : ∀ l : List Str, strsOf (l.map Val.str) = some l := fun l => strsOf_map l
  simp only [joinF, lstOf, hv, Option.bind_some, e]
  rw [if_pos (by rw [big_eq]; omega)]
theorem addL {μ : Mu} {l r : List Val} (h : l.length + r.length ≤ 1000000) : binV μ .add (.lst l) (.lst r) = some (.lst (l ++ r)) := by
  rw [bn_addL, if_pos (by rw [big_eq]; omega)]
theorem mk_len {m : Int} (h0 : 0 ≤ m) (h1 : m < 100) : (strI m).length ≤ 12 := strI_len h0 (by omega)
theorem call_sum {n w : Str} {as : List Ex} {m : Int} (h : RwL (.call n w as m)) : (([Str.ofString "call", n, w, strI m] ++ as.map exT).map (·.length)).sum + ([Str.ofString "call", n, w, strI m] ++ as.map exT).length * spS.length ≤ 1700 := by
  obtain ⟨c1, c2, c3, c4⟩ := h.cl n w as m rfl
  have hn : n.length ≤ 4 := h.aim n (by simp [Rw.aim])
  have hm := mk_len c3 c4
  have ha : ((as.map exT).map (·.length)).sum ≤ 400 * (as.map exT).length := sum_le fun s hs => by
    obtain ⟨e, he, rfl⟩ := List.mem_map.mp hs
    obtain ⟨h1, h2⟩ := h.ex e (by simpa [Rw.exs] using he)
    exact exT_400 h1 h2
  have e1 : (Str.ofString "call").length = 4 := rfl
  have e2 : spS.length = 1 := rfl
  rw [List.length_map] at ha
  rw [List.map_append, List.sum_append, List.length_append, List.length_map, e2]
  simp only [List.map_cons, List.map_nil, List.sum_cons, List.sum_nil, List.length_cons, List.length_nil, e1]
  omega
mutual
theorem rwT_len : ∀ (r : Rw), (∀ x ∈ r.flat, RwL x) → (∀ s ∈ rwT r, s.length ≤ 2000) ∧ (rwT r).length ≤ 3 * r.flat.length
  | .set n e, h => by
    have h0 := h (.set n e) (by simp [Rw.flat])
    obtain ⟨h1, h2⟩ := h0.ex e (by simp [Rw.exs])
    have := exT_400 h1 h2
    have hn : n.length ≤ 4 := h0.aim n (by simp [Rw.aim])
    have e1 : (Str.ofString "set ").length = 4 := rfl
    have e2 : spS.length = 1 := rfl
    refine ⟨fun s hs => ?_, by simp [rwT, Rw.flat]⟩
    have hs' := List.mem_singleton.mp (show s ∈ [_] from by rw [rwT] at hs; exact hs)
    rw [hs', str_len_append, str_len_append, str_len_append]
    omega
  | .say e, h => by
    have h0 := h (.say e) (by simp [Rw.flat])
    obtain ⟨h1, h2⟩ := h0.ex e (by simp [Rw.exs])
    have := exT_400 h1 h2
    have e1 : (Str.ofString "say ").length = 4 := rfl
    refine ⟨fun s hs => ?_, by simp [rwT, Rw.flat]⟩
    have hs' := List.mem_singleton.mp (show s ∈ [_] from by rw [rwT] at hs; exact hs)
    rw [hs', str_len_append]
    omega
  | .call n w as m, h => by
    have h0 := h (.call n w as m) (by simp [Rw.flat])
    have h1 := call_sum h0
    have h2 := join_len spS ([Str.ofString "call", n, w, strI m] ++ as.map exT)
    refine ⟨fun s hs => ?_, by simp [rwT, Rw.flat]⟩
    have hs' := List.mem_singleton.mp (show s ∈ [_] from by rw [rwT] at hs; exact hs)
    rw [hs']
    omega
  | .when e a b, h => by
    have h0 := h (.when e a b) (by simp [Rw.flat])
    obtain ⟨h1, h2⟩ := h0.ex e (by simp [Rw.exs])
    have := exT_400 h1 h2
    have e1 : (Str.ofString "when ").length = 5 := rfl
    have e2 : (Str.ofString "else").length = 4 := rfl
    have e3 : (Str.ofString "end").length = 3 := rfl
    obtain ⟨a1, a2⟩ := rsT_len a fun x hx => h x (by simp [Rw.flat, hx])
    obtain ⟨b1, b2⟩ := rsT_len b fun x hx => h x (by simp [Rw.flat, hx])
    rw [rwT]
    refine ⟨fun s hs => ?_, ?_⟩
    · simp only [List.mem_append, List.mem_singleton] at hs
      rcases hs with (((rfl | hs) | rfl) | hs) | rfl
      · rw [str_len_append]; omega
      · exact a1 s hs
      · omega
      · exact b1 s hs
      · omega
    · simp only [List.length_append, Rw.flat, List.length_cons, List.length_nil]
      omega
  | .turn e b, h => by
    have h0 := h (.turn e b) (by simp [Rw.flat])
    obtain ⟨h1, h2⟩ := h0.ex e (by simp [Rw.exs])
    have := exT_400 h1 h2
    have e1 : (Str.ofString "turn ").length = 5 := rfl
    have e3 : (Str.ofString "end").length = 3 := rfl
    obtain ⟨b1, b2⟩ := rsT_len b fun x hx => h x (by simp [Rw.flat, hx])
    rw [rwT]
    refine ⟨fun s hs => ?_, ?_⟩
    · simp only [List.mem_append, List.mem_singleton] at hs
      rcases hs with (rfl | hs) | rfl
      · rw [str_len_append]; omega
      · exact b1 s hs
      · omega
    · simp only [List.length_append, Rw.flat, List.length_cons, List.length_nil]
      omega
theorem rsT_len : ∀ (l : List Rw), (∀ x ∈ flats l, RwL x) → (∀ s ∈ rsT l, s.length ≤ 2000) ∧ (rsT l).length ≤ 3 * (flats l).length
  | [], h => ⟨by simp [rsT], by simp [rsT]⟩
  | r :: t, h => by
    obtain ⟨a1, a2⟩ := rwT_len r fun x hx => h x (by simp [flats, hx])
    obtain ⟨b1, b2⟩ := rsT_len t fun x hx => h x (by simp [flats, hx])
    rw [rsT, flats]
    refine ⟨fun s hs => ?_, ?_⟩
    · rcases List.mem_append.mp hs with z | z
      · exact a1 s z
      · exact b1 s z
    · rw [List.length_append, List.length_append]
      omega
end
def tF (g : String) : Fn := ⟨1, 3, (.seq (.asg 1 (.new (.lst .nil)))
  (.seq (.forS (.n 2) (.e (.v 0))
  (.ex (.me .extend (.v 1) (.cons (.call g .val (.cons (.v 2) .nil)) .nil))))
  (.ret (.v 1))))⟩
theorem tF_1 : D.all_texts = tF "row_texts" := rfl
theorem tF_2 : D._law_texts_v2 = tF "_law_row_texts" := rfl
section
variable {P : Prog} {n : Nat} {μ : Mu} {Q : Val → Mu → Prop} {X : XQ} {p : Ad}
def RtOk (P : Prog) (g : String) (dd : Nat) : Prop := ∀ (x : Rw) (n : Nat) (μ : Mu) (Q : Val → Mu → Prop) (X : XQ), dps x.within ≤ dd → (x.flat).length ≤ 100 → (∀ r ∈ x.flat, RwL r) → 2 * dd + 9 ≤ n → Q (.lst ((rwT x).map .str)) μ → phi P n g .val [x.v] μ Q X
def AtOk (P : Prog) (f : String) (dd : Nat) : Prop := ∀ (rows : List Rw) (n : Nat) (μ : Mu) (Q : Val → Mu → Prop) (X : XQ), dps rows ≤ dd → (flats rows).length ≤ 100 → (∀ r ∈ flats rows, RwL r) → 2 * dd + 8 ≤ n → Q (.lst ((rsT rows).map .str)) μ → phi P n f .val [.tup (Rw.vs rows)] μ Q X
theorem all_gen {f g : String} (h : P f = some (tF g)) {rows : List Rw} (hl : (flats rows).length ≤ 100) (hr : ∀ r ∈ flats rows, RwL r) (hrow : ∀ x ∈ rows, ∀ (μ : Mu) (Q : Val → Mu → Prop) (X : XQ), Q (.lst ((rwT x).map .str)) μ → phi P n g .val [x.v] μ Q X) (q : Q (.lst ((rsT rows).map .str)) μ) : phi P (n + 1) f .val [.tup (Rw.vs rows)] μ Q X := by
  have hΦ := phi_mono P n
  refine call_ok h rfl ?_
  unfold tF
  rw [w_seq]
  simp [e_v, e_c, e_tup, e_lst, e_dct, s_nil, s_cons, e_ix, e_sl, e_bin, e_cmp, e_eq, e_ne, e_in, e_nin, e_isN, e_notN, e_chain, e_neg, e_not, e_and, e_or, e_ite, e_call, e_bi, e_me, e_isT, e_new, e_attr, e_mth, e_mk, w_setattr, w_skip, w_ex, w_asg, w_asgT, w_setix, w_ite, w_ret, w_raise]
  intro r hr0
  rw [w_seq]
  refine for_T Rw.v rows hΦ (i_e ?_ hΦ)
  simp [e_v, e_c, e_tup, e_lst, e_dct, s_nil, s_cons, e_ix, e_sl, e_bin, e_cmp, e_eq, e_ne, e_in, e_nin, e_isN, e_notN, e_chain, e_neg, e_not, e_and, e_or, e_ite, e_call, e_bi, e_me, e_isT, e_new, e_attr, e_mth, e_mk, w_setattr, w_skip, w_ex, w_asg, w_asgT, w_setix, w_ite, w_ret, w_raise]
  refine ⟨vs_map _, fun ys env' μ' => ∃ o : Option Val, env' = [some (.tup (Rw.vs rows)), some (.ref r), o] ∧ μ' = μ.set r (.lst ((rsT ys).map .str)), ⟨_, rfl, rfl⟩, ?_, ?_⟩
  · rintro ys x zs env' μ' e ⟨o, rfl, rfl⟩
    refine ⟨trivial, ?_⟩
    have er : (μ.set r (.lst ((rsT ys).map .str))) r = some (.lst ((rsT ys).map .str)) := mset_same
    have ef : flats rows = flats ys ++ (x.flat ++ flats zs) := by rw [e, flats_append, flats]
    have hfl := congrArg List.length ef
    rw [List.length_append, List.length_append] at hfl
    have hy := (rsT_len ys fun q hq => hr q (by rw [ef]; simp [hq])).2
    have hx := (rwT_len x fun q hq => hr q (by rw [ef]; simp [hq])).2
    simp [e_v, e_c, e_tup, e_lst, e_dct, s_nil, s_cons, e_ix, e_sl, e_bin, e_cmp, e_eq, e_ne, e_in, e_nin, e_isN, e_notN, e_chain, e_neg, e_not, e_and, e_or, e_ite, e_call, e_bi, e_me, e_isT, e_new, e_attr, e_mth, e_mk, w_setattr, w_skip, w_ex, w_asg, w_asgT, w_setix, w_ite, w_ret, w_raise]
    rw [ok_extend er]
    refine ⟨rfl, ?_⟩
    refine hrow x (by rw [e]; simp) _ _ _ ?_
    rw [me_extend er rfl]
    refine brV_ite (by rw [List.length_map, List.length_map, big_eq]; omega) ?_
    dsimp only
    rw [mset_set, ← List.map_append]
    have e2 : rsT (ys ++ [x]) = rsT ys ++ rwT x := by rw [rsT_app]; simp [rsT]
    rw [e2]
  · rintro env' μ' ⟨o, rfl, rfl⟩
    refine ⟨trivial, ?_⟩
    simp [e_v, e_c, e_tup, e_lst, e_dct, s_nil, s_cons, e_ix, e_sl, e_bin, e_cmp, e_eq, e_ne, e_in, e_nin, e_isN, e_notN, e_chain, e_neg, e_not, e_and, e_or, e_ite, e_call, e_bi, e_me, e_isT, e_new, e_attr, e_mth, e_mk, w_setattr, w_skip, w_ex, w_asg, w_asgT, w_setix, w_ite, w_ret, w_raise]
    exact (fin_new hr0 (by show nrL _ = true; exact nrL_strs _)).mpr q
theorem all_ok {f g : String} (h : P f = some (tF g)) : ∀ dd : Nat, (∀ k, k < dd → RtOk P g k) → AtOk P f dd
  | 0, _ => fun rows n μ Q X hd hl hr hn q => by
    obtain ⟨n, rfl⟩ : ∃ k, n = k + 1 := ⟨n - 1, by omega⟩
    refine all_gen h hl hr (fun x hx => ?_) q
    exfalso
    obtain ⟨a, b, e⟩ := List.append_of_mem hx
    have : dps rows = max (dps a) (max x.dp (dps b)) := by rw [e, dps_append, dps]
    have := x.dp_eq
    omega
  | dd + 1, hk => fun rows n μ Q X hd hl hr hn q => by
    obtain ⟨n, rfl⟩ : ∃ k, n = k + 1 := ⟨n - 1, by omega⟩
    refine all_gen h hl hr (fun x hx μ Q X q => ?_) q
    obtain ⟨a, b, e⟩ := List.append_of_mem hx
    have e1 : dps rows = max (dps a) (max x.dp (dps b)) := by rw [e, dps_append, dps]
    have e2 := x.dp_eq
    have ef : flats rows = flats a ++ (x.flat ++ flats b) := by rw [e, flats_append, flats]
    have hfl := congrArg List.length ef
    rw [List.length_append, List.length_append] at hfl
    exact hk dd (by omega) x n μ Q X (by omega) (by omega) (fun r hr' => hr r (by rw [ef]; simp [hr'])) (by omega) q
theorem row_texts_ok (h : P "row_texts" = some D.row_texts) (he : P "expression_text" = some D.expression_text) {dd : Nat} (ha : AtOk P "all_texts" dd) : RtOk P "row_texts" dd := by
  intro x n μ Q X hd hl hr hn q
  obtain ⟨n, rfl⟩ : ∃ k, n = k + 1 := ⟨n - 1, by omega⟩
  have hΦ := phi_mono P n
  refine call_ok h rfl ?_
  unfold D.row_texts
  have fin : ∀ v : Val, v = .lst ((rwT x).map .str) → finM .val μ Q v μ := fun v hv => by
    rw [hv]
    exact fin_val (by show nrL _ = true; exact nrL_strs _) cut_self q
  cases x with
  | set m e =>
    have h0 := hr (.set m e) (by simp [Rw.flat])
    obtain ⟨l1, l2⟩ := h0.ex e (by simp [Rw.exs])
    have := exT_400 l1 l2
    have hn4 : m.length ≤ 4 := h0.aim m (by simp [Rw.aim])
    have e1 : (Str.ofString "set ").length = 4 := rfl
    have e2 : (Str.ofString " ").length = 1 := rfl
    rw [w_seq]
    simp [e_v, e_c, e_tup, e_lst, e_dct, s_nil, s_cons, e_ix, e_sl, e_bin, e_cmp, e_eq, e_ne, e_in, e_nin, e_isN, e_notN, e_chain, e_neg, e_not, e_and, e_or, e_ite, e_call, e_bi, e_me, e_isT, e_new, e_attr, e_mth, e_mk, w_setattr, w_skip, w_ex, w_asg, w_asgT, w_setix, w_ite, w_ret, w_raise, Rw.v]
    rw [w_seq]
    simp [e_v, e_c, e_tup, e_lst, e_dct, s_nil, s_cons, e_ix, e_sl, e_bin, e_cmp, e_eq, e_ne, e_in, e_nin, e_isN, e_notN, e_chain, e_neg, e_not, e_and, e_or, e_ite, e_call, e_bi, e_me, e_isT, e_new, e_attr, e_mth, e_mk, w_setattr, w_skip, w_ex, w_asg, w_asgT, w_setix, w_ite, w_ret, w_raise, -bn_addS]
    rw [addS (by omega)]
    simp only [brV_some]
    rw [addS (by rw [str_len_append]; omega)]
    simp only [brV_some]
    refine ex_text_ok he e n _ _ l1 l2 (by omega) ?_
    rw [addS (by rw [str_len_append, str_len_append]; omega)]
    simp only [brV_some]
    exact fin _ rfl
  | say e =>
    have h0 := hr (.say e) (by simp [Rw.flat])
    obtain ⟨l1, l2⟩ := h0.ex e (by simp [Rw.exs])
    have := exT_400 l1 l2
    have e1 : (Str.ofString "say").length = 3 := rfl
    have e2 : (Str.ofString " ").length = 1 := rfl
    rw [w_seq]
    simp [e_v, e_c, e_tup, e_lst, e_dct, s_nil, s_cons, e_ix, e_sl, e_bin, e_cmp, e_eq, e_ne, e_in, e_nin, e_isN, e_notN, e_chain, e_neg, e_not, e_and, e_or, e_ite, e_call, e_bi, e_me, e_isT, e_new, e_attr, e_mth, e_mk, w_setattr, w_skip, w_ex, w_asg, w_asgT, w_setix, w_ite, w_ret, w_raise, Rw.v]
    rw [w_seq]
    simp [e_v, e_c, e_tup, e_lst, e_dct, s_nil, s_cons, e_ix, e_sl, e_bin, e_cmp, e_eq, e_ne, e_in, e_nin, e_isN, e_notN, e_chain, e_neg, e_not, e_and, e_or, e_ite, e_call, e_bi, e_me, e_isT, e_new, e_attr, e_mth, e_mk, w_setattr, w_skip, w_ex, w_asg, w_asgT, w_setix, w_ite, w_ret, w_raise]
    rw [w_seq]
    simp [e_v, e_c, e_tup, e_lst, e_dct, s_nil, s_cons, e_ix, e_sl, e_bin, e_cmp, e_eq, e_ne, e_in, e_nin, e_isN, e_notN, e_chain, e_neg, e_not, e_and, e_or, e_ite, e_call, e_bi, e_me, e_isT, e_new, e_attr, e_mth, e_mk, w_setattr, w_skip, w_ex, w_asg, w_asgT, w_setix, w_ite, w_ret, w_raise]
    rw [w_seq]
    simp [e_v, e_c, e_tup, e_lst, e_dct, s_nil, s_cons, e_ix, e_sl, e_bin, e_cmp, e_eq, e_ne, e_in, e_nin, e_isN, e_notN, e_chain, e_neg, e_not, e_and, e_or, e_ite, e_call, e_bi, e_me, e_isT, e_new, e_attr, e_mth, e_mk, w_setattr, w_skip, w_ex, w_asg, w_asgT, w_setix, w_ite, w_ret, w_raise, -bn_addS]
    rw [addS (by omega)]
    simp only [brV_some]
    refine ex_text_ok he e n _ _ l1 l2 (by omega) ?_
    rw [addS (by rw [str_len_append]; omega)]
    simp only [brV_some]
    rw [w_seq]
    simp [e_v, e_c, e_tup, e_lst, e_dct, s_nil, s_cons, e_ix, e_sl, e_bin, e_cmp, e_eq, e_ne, e_in, e_nin, e_isN, e_notN, e_chain, e_neg, e_not, e_and, e_or, e_ite, e_call, e_bi, e_me, e_isT, e_new, e_attr, e_mth, e_mk, w_setattr, w_skip, w_ex, w_asg, w_asgT, w_setix, w_ite, w_ret, w_raise]
    rw [rwT] at q
    exact q
  | turn e b =>
    have h0 := hr (.turn e b) (by simp [Rw.flat])
    obtain ⟨l1, l2⟩ := h0.ex e (by simp [Rw.exs])
    have := exT_400 l1 l2
    have e1 : (Str.ofString "turn").length = 4 := rfl
    have e2 : (Str.ofString " ").length = 1 := rfl
    have hrb : ∀ x ∈ flats b, RwL x := fun x hx => hr x (by simp [Rw.flat, hx])
    have hlb : (flats b).length ≤ 100 := by simp [Rw.flat] at hl; omega
    have hb := (rsT_len b hrb).2
    rw [w_seq]
    simp [e_v, e_c, e_tup, e_lst, e_dct, s_nil, s_cons, e_ix, e_sl, e_bin, e_cmp, e_eq, e_ne, e_in, e_nin, e_isN, e_notN, e_chain, e_neg, e_not, e_and, e_or, e_ite, e_call, e_bi, e_me, e_isT, e_new, e_attr, e_mth, e_mk, w_setattr, w_skip, w_ex, w_asg, w_asgT, w_setix, w_ite, w_ret, w_raise, Rw.v]
    rw [w_seq]
    simp [e_v, e_c, e_tup, e_lst, e_dct, s_nil, s_cons, e_ix, e_sl, e_bin, e_cmp, e_eq, e_ne, e_in, e_nin, e_isN, e_notN, e_chain, e_neg, e_not, e_and, e_or, e_ite, e_call, e_bi, e_me, e_isT, e_new, e_attr, e_mth, e_mk, w_setattr, w_skip, w_ex, w_asg, w_asgT, w_setix, w_ite, w_ret, w_raise]
    rw [w_seq]
    simp [e_v, e_c, e_tup, e_lst, e_dct, s_nil, s_cons, e_ix, e_sl, e_bin, e_cmp, e_eq, e_ne, e_in, e_nin, e_isN, e_notN, e_chain, e_neg, e_not, e_and, e_or, e_ite, e_call, e_bi, e_me, e_isT, e_new, e_attr, e_mth, e_mk, w_setattr, w_skip, w_ex, w_asg, w_asgT, w_setix, w_ite, w_ret, w_raise]
    rw [w_seq]
    simp [e_v, e_c, e_tup, e_lst, e_dct, s_nil, s_cons, e_ix, e_sl, e_bin, e_cmp, e_eq, e_ne, e_in, e_nin, e_isN, e_notN, e_chain, e_neg, e_not, e_and, e_or, e_ite, e_call, e_bi, e_me, e_isT, e_new, e_attr, e_mth, e_mk, w_setattr, w_skip, w_ex, w_asg, w_asgT, w_setix, w_ite, w_ret, w_raise, -bn_addS]
    rw [addS (by omega)]
    simp only [brV_some]
    refine ex_text_ok he e n _ _ l1 l2 (by omega) ?_
    rw [addS (by rw [str_len_append]; omega)]
    simp only [brV_some]
    rw [w_seq]
    simp [e_v, e_c, e_tup, e_lst, e_dct, s_nil, s_cons, e_ix, e_sl, e_bin, e_cmp, e_eq, e_ne, e_in, e_nin, e_isN, e_notN, e_chain, e_neg, e_not, e_and, e_or, e_ite, e_call, e_bi, e_me, e_isT, e_new, e_attr, e_mth, e_mk, w_setattr, w_skip, w_ex, w_asg, w_asgT, w_setix, w_ite, w_ret, w_raise]
    rw [w_seq]
    simp [e_v, e_c, e_tup, e_lst, e_dct, s_nil, s_cons, e_ix, e_sl, e_bin, e_cmp, e_eq, e_ne, e_in, e_nin, e_isN, e_notN, e_chain, e_neg, e_not, e_and, e_or, e_ite, e_call, e_bi, e_me, e_isT, e_new, e_attr, e_mth, e_mk, w_setattr, w_skip, w_ex, w_asg, w_asgT, w_setix, w_ite, w_ret, w_raise, -bn_addL]
    refine ha b n _ _ _ hd hlb hrb (by omega) ?_
    rw [addL (by simp; omega)]
    simp only [brV_some]
    rw [addL (by simp; omega)]
    simp only [brV_some]
    have ht : Str.ofString "turn" ++ Str.ofString " " = Str.ofString "turn " := rfl
    rw [ht]
    rw [rwT] at q
    simpa using q
  | when e a b =>
    have h0 := hr (.when e a b) (by simp [Rw.flat])
    obtain ⟨l1, l2⟩ := h0.ex e (by simp [Rw.exs])
    have := exT_400 l1 l2
    have e1 : (Str.ofString "when").length = 4 := rfl
    have e2 : (Str.ofString " ").length = 1 := rfl
    have hra : ∀ x ∈ flats a, RwL x := fun x hx => hr x (by simp [Rw.flat, hx])
    have hrb : ∀ x ∈ flats b, RwL x := fun x hx => hr x (by simp [Rw.flat, hx])
    have hlab : (flats a).length + (flats b).length ≤ 100 := by simp [Rw.flat] at hl; omega
    have hA := (rsT_len a hra).2
    have hb := (rsT_len b hrb).2
    have hdw : dps (Rw.when e a b).within = max (dps a) (dps b) := by rw [Rw.within, dps_append]
    rw [w_seq]
    simp [e_v, e_c, e_tup, e_lst, e_dct, s_nil, s_cons, e_ix, e_sl, e_bin, e_cmp, e_eq, e_ne, e_in, e_nin, e_isN, e_notN, e_chain, e_neg, e_not, e_and, e_or, e_ite, e_call, e_bi, e_me, e_isT, e_new, e_attr, e_mth, e_mk, w_setattr, w_skip, w_ex, w_asg, w_asgT, w_setix, w_ite, w_ret, w_raise, Rw.v]
    rw [w_seq]
    simp [e_v, e_c, e_tup, e_lst, e_dct, s_nil, s_cons, e_ix, e_sl, e_bin, e_cmp, e_eq, e_ne, e_in, e_nin, e_isN, e_notN, e_chain, e_neg, e_not, e_and, e_or, e_ite, e_call, e_bi, e_me, e_isT, e_new, e_attr, e_mth, e_mk, w_setattr, w_skip, w_ex, w_asg, w_asgT, w_setix, w_ite, w_ret, w_raise]
    rw [w_seq]
    simp [e_v, e_c, e_tup, e_lst, e_dct, s_nil, s_cons, e_ix, e_sl, e_bin, e_cmp, e_eq, e_ne, e_in, e_nin, e_isN, e_notN, e_chain, e_neg, e_not, e_and, e_or, e_ite, e_call, e_bi, e_me, e_isT, e_new, e_attr, e_mth, e_mk, w_setattr, w_skip, w_ex, w_asg, w_asgT, w_setix, w_ite, w_ret, w_raise]
    rw [w_seq]
    simp [e_v, e_c, e_tup, e_lst, e_dct, s_nil, s_cons, e_ix, e_sl, e_bin, e_cmp, e_eq, e_ne, e_in, e_nin, e_isN, e_notN, e_chain, e_neg, e_not, e_and, e_or, e_ite, e_call, e_bi, e_me, e_isT, e_new, e_attr, e_mth, e_mk, w_setattr, w_skip, w_ex, w_asg, w_asgT, w_setix, w_ite, w_ret, w_raise, -bn_addS]
    rw [addS (by omega)]
    simp only [brV_some]
    refine ex_text_ok he e n _ _ l1 l2 (by omega) ?_
    rw [addS (by rw [str_len_append]; omega)]
    simp only [brV_some]
    rw [w_seq]
    simp [e_v, e_c, e_tup, e_lst, e_dct, s_nil, s_cons, e_ix, e_sl, e_bin, e_cmp, e_eq, e_ne, e_in, e_nin, e_isN, e_notN, e_chain, e_neg, e_not, e_and, e_or, e_ite, e_call, e_bi, e_me, e_isT, e_new, e_attr, e_mth, e_mk, w_setattr, w_skip, w_ex, w_asg, w_asgT, w_setix, w_ite, w_ret, w_raise]
    rw [w_seq]
    simp [e_v, e_c, e_tup, e_lst, e_dct, s_nil, s_cons, e_ix, e_sl, e_bin, e_cmp, e_eq, e_ne, e_in, e_nin, e_isN, e_notN, e_chain, e_neg, e_not, e_and, e_or, e_ite, e_call, e_bi, e_me, e_isT, e_new, e_attr, e_mth, e_mk, w_setattr, w_skip, w_ex, w_asg, w_asgT, w_setix, w_ite, w_ret, w_raise, -bn_addL]
    refine ha a n _ _ _ (by omega) (by omega) hra (by omega) ?_
    rw [addL (by simp; omega)]
    simp only [brV_some]
    rw [addL (by simp; omega)]
    simp only [brV_some]
    refine ha b n _ _ _ (by omega) (by omega) hrb (by omega) ?_
    rw [addL (by simp; omega)]
    simp only [brV_some]
    rw [addL (by simp; omega)]
    simp only [brV_some]
    have ht : Str.ofString "when" ++ Str.ofString " " = Str.ofString "when " := rfl
    rw [ht]
    rw [rwT] at q
    simpa using q
  | call m w as k =>
    have h0 := hr (.call m w as k) (by simp [Rw.flat])
    obtain ⟨c1, c2, c3, c4⟩ := h0.cl m w as k rfl
    have hsum := call_sum h0
    have hlog := log_small c3 (by omega)
    rw [w_seq]
    simp [e_v, e_c, e_tup, e_lst, e_dct, s_nil, s_cons, e_ix, e_sl, e_bin, e_cmp, e_eq, e_ne, e_in, e_nin, e_isN, e_notN, e_chain, e_neg, e_not, e_and, e_or, e_ite, e_call, e_bi, e_me, e_isT, e_new, e_attr, e_mth, e_mk, w_setattr, w_skip, w_ex, w_asg, w_asgT, w_setix, w_ite, w_ret, w_raise, Rw.v]
    rw [w_seq]
    simp [e_v, e_c, e_tup, e_lst, e_dct, s_nil, s_cons, e_ix, e_sl, e_bin, e_cmp, e_eq, e_ne, e_in, e_nin, e_isN, e_notN, e_chain, e_neg, e_not, e_and, e_or, e_ite, e_call, e_bi, e_me, e_isT, e_new, e_attr, e_mth, e_mk, w_setattr, w_skip, w_ex, w_asg, w_asgT, w_setix, w_ite, w_ret, w_raise]
    rw [w_seq]
    simp [e_v, e_c, e_tup, e_lst, e_dct, s_nil, s_cons, e_ix, e_sl, e_bin, e_cmp, e_eq, e_ne, e_in, e_nin, e_isN, e_notN, e_chain, e_neg, e_not, e_and, e_or, e_ite, e_call, e_bi, e_me, e_isT, e_new, e_attr, e_mth, e_mk, w_setattr, w_skip, w_ex, w_asg, w_asgT, w_setix, w_ite, w_ret, w_raise, hlog, -bn_addL]
    refine comp_all Ex.v as (fun e => .str (exT e)) hΦ (i_e ?_ hΦ)
    simp [e_v, e_c, e_tup, e_lst, e_dct, s_nil, s_cons, e_ix, e_sl, e_bin, e_cmp, e_eq, e_ne, e_in, e_nin, e_isN, e_notN, e_chain, e_neg, e_not, e_and, e_or, e_ite, e_call, e_bi, e_me, e_isT, e_new, e_attr, e_mth, e_mk, w_setattr, w_skip, w_ex, w_asg, w_asgT, w_setix, w_ite, w_ret, w_raise, guard, -bn_addL]
    refine ⟨trivial, by rw [big_eq]; omega, fun e he2 => ?_, ?_⟩
    · obtain ⟨l1, l2⟩ := h0.ex e (by simpa [Rw.exs] using he2)
      simp [wipe]
      exact ex_text_ok he e n _ _ l1 l2 (by omega) ⟨rfl, rfl⟩
    · rw [addL (by simp; omega)]
      simp only [brV_some]
      have ev : [Val.str (Str.ofString "call"), .str m, .str w, .str (strI k)] ++ as.map (fun e => Val.str (exT e)) = ([Str.ofString "call", m, w, strI k] ++ as.map exT).map .str := by simp
      rw [ev, bi_join (a := Str.ofString " ") rfl (by have e3 : spS = Str.ofString " " := rfl; rw [← e3]; omega)]
      simp only [brV_some]
      rw [rwT] at q
      exact q
theorem l_row_texts_ok (h : P "_law_row_texts" = some D._law_row_texts) (he : P "_law_written" = some D._law_written) {dd : Nat} (ha : AtOk P "_law_texts" dd) : RtOk P "_law_row_texts" dd := by
  intro x n μ Q X hd hl hr hn q
  obtain ⟨n, rfl⟩ : ∃ k, n = k + 1 := ⟨n - 1, by omega⟩
  have hΦ := phi_mono P n
  refine call_ok h rfl ?_
  unfold D._law_row_texts
  cases x with
  | set m e =>
    have h0 := hr (.set m e) (by simp [Rw.flat])
    obtain ⟨l1, l2⟩ := h0.ex e (by simp [Rw.exs])
    have := exT_400 l1 l2
    have hn4 : m.length ≤ 4 := h0.aim m (by simp [Rw.aim])
    have e1 : (Str.ofString "set ").length = 4 := rfl
    have e2 : (Str.ofString " ").length = 1 := rfl
    rw [w_seq]
    simp [e_v, e_c, e_tup, e_lst, e_dct, s_nil, s_cons, e_ix, e_sl, e_bin, e_cmp, e_eq, e_ne, e_in, e_nin, e_isN, e_notN, e_chain, e_neg, e_not, e_and, e_or, e_ite, e_call, e_bi, e_me, e_isT, e_new, e_attr, e_mth, e_mk, w_setattr, w_skip, w_ex, w_asg, w_asgT, w_setix, w_ite, w_ret, w_raise, Rw.v, -bn_addS]
    rw [addS (by omega)]
    simp only [brV_some]
    rw [addS (by rw [str_len_append]; omega)]
    simp only [brV_some]
    refine l_written_ok he e n _ _ l1 l2 (by omega) ?_
    rw [addS (by rw [str_len_append, str_len_append]; omega)]
    simp only [brV_some]
    rw [rwT] at q
    exact fin_val rfl cut_self q
  | say e =>
    have h0 := hr (.say e) (by simp [Rw.flat])
    obtain ⟨l1, l2⟩ := h0.ex e (by simp [Rw.exs])
    have := exT_400 l1 l2
    have e1 : (Str.ofString "say ").length = 4 := rfl
    rw [w_seq]
    simp [e_v, e_c, e_tup, e_lst, e_dct, s_nil, s_cons, e_ix, e_sl, e_bin, e_cmp, e_eq, e_ne, e_in, e_nin, e_isN, e_notN, e_chain, e_neg, e_not, e_and, e_or, e_ite, e_call, e_bi, e_me, e_isT, e_new, e_attr, e_mth, e_mk, w_setattr, w_skip, w_ex, w_asg, w_asgT, w_setix, w_ite, w_ret, w_raise, Rw.v]
    rw [w_seq]
    simp [e_v, e_c, e_tup, e_lst, e_dct, s_nil, s_cons, e_ix, e_sl, e_bin, e_cmp, e_eq, e_ne, e_in, e_nin, e_isN, e_notN, e_chain, e_neg, e_not, e_and, e_or, e_ite, e_call, e_bi, e_me, e_isT, e_new, e_attr, e_mth, e_mk, w_setattr, w_skip, w_ex, w_asg, w_asgT, w_setix, w_ite, w_ret, w_raise, -bn_addS]
    refine l_written_ok he e n _ _ l1 l2 (by omega) ?_
    rw [addS (by omega)]
    simp only [brV_some]
    rw [rwT] at q
    exact fin_val rfl cut_self q
  | turn e b =>
    have h0 := hr (.turn e b) (by simp [Rw.flat])
    obtain ⟨l1, l2⟩ := h0.ex e (by simp [Rw.exs])
    have := exT_400 l1 l2
    have e1 : (Str.ofString "turn").length = 4 := rfl
    have e2 : (Str.ofString " ").length = 1 := rfl
    have hrb : ∀ x ∈ flats b, RwL x := fun x hx => hr x (by simp [Rw.flat, hx])
    have hlb : (flats b).length ≤ 100 := by simp [Rw.flat] at hl; omega
    have hb := (rsT_len b hrb).2
    rw [w_seq]
    simp [e_v, e_c, e_tup, e_lst, e_dct, s_nil, s_cons, e_ix, e_sl, e_bin, e_cmp, e_eq, e_ne, e_in, e_nin, e_isN, e_notN, e_chain, e_neg, e_not, e_and, e_or, e_ite, e_call, e_bi, e_me, e_isT, e_new, e_attr, e_mth, e_mk, w_setattr, w_skip, w_ex, w_asg, w_asgT, w_setix, w_ite, w_ret, w_raise, Rw.v]
    rw [w_seq]
    simp [e_v, e_c, e_tup, e_lst, e_dct, s_nil, s_cons, e_ix, e_sl, e_bin, e_cmp, e_eq, e_ne, e_in, e_nin, e_isN, e_notN, e_chain, e_neg, e_not, e_and, e_or, e_ite, e_call, e_bi, e_me, e_isT, e_new, e_attr, e_mth, e_mk, w_setattr, w_skip, w_ex, w_asg, w_asgT, w_setix, w_ite, w_ret, w_raise]
    rw [w_seq]
    simp [e_v, e_c, e_tup, e_lst, e_dct, s_nil, s_cons, e_ix, e_sl, e_bin, e_cmp, e_eq, e_ne, e_in, e_nin, e_isN, e_notN, e_chain, e_neg, e_not, e_and, e_or, e_ite, e_call, e_bi, e_me, e_isT, e_new, e_attr, e_mth, e_mk, w_setattr, w_skip, w_ex, w_asg, w_asgT, w_setix, w_ite, w_ret, w_raise]
    rw [w_seq]
    simp [e_v, e_c, e_tup, e_lst, e_dct, s_nil, s_cons, e_ix, e_sl, e_bin, e_cmp, e_eq, e_ne, e_in, e_nin, e_isN, e_notN, e_chain, e_neg, e_not, e_and, e_or, e_ite, e_call, e_bi, e_me, e_isT, e_new, e_attr, e_mth, e_mk, w_setattr, w_skip, w_ex, w_asg, w_asgT, w_setix, w_ite, w_ret, w_raise, -bn_addS, -bn_addL]
    rw [addS (by omega)]
    simp only [brV_some]
    refine l_written_ok he e n _ _ l1 l2 (by omega) ?_
    rw [addS (by rw [str_len_append]; omega)]
    simp only [brV_some]
    refine ha b n _ _ _ hd hlb hrb (by omega) ?_
    rw [addL (by simp; omega)]
    simp only [brV_some]
    refine w_seq_id hΦ ?_ ?_
    · simp [e_v, e_c, e_tup, e_lst, e_dct, s_nil, s_cons, e_ix, e_sl, e_bin, e_cmp, e_eq, e_ne, e_in, e_nin, e_isN, e_notN, e_chain, e_neg, e_not, e_and, e_or, e_ite, e_call, e_bi, e_me, e_isT, e_new, e_attr, e_mth, e_mk, w_setattr, w_skip, w_ex, w_asg, w_asgT, w_setix, w_ite, w_ret, w_raise]
    simp [e_v, e_c, e_tup, e_lst, e_dct, s_nil, s_cons, e_ix, e_sl, e_bin, e_cmp, e_eq, e_ne, e_in, e_nin, e_isN, e_notN, e_chain, e_neg, e_not, e_and, e_or, e_ite, e_call, e_bi, e_me, e_isT, e_new, e_attr, e_mth, e_mk, w_setattr, w_skip, w_ex, w_asg, w_asgT, w_setix, w_ite, w_ret, w_raise, -bn_addL]
    rw [addL (by simp; omega)]
    simp only [brV_some]
    have ht : Str.ofString "turn" ++ Str.ofString " " = Str.ofString "turn " := rfl
    rw [ht]
    rw [rwT] at q
    simpa using q
  | when e a b =>
    have h0 := hr (.when e a b) (by simp [Rw.flat])
    obtain ⟨l1, l2⟩ := h0.ex e (by simp [Rw.exs])
    have := exT_400 l1 l2
    have e1 : (Str.ofString "when").length = 4 := rfl
    have e2 : (Str.ofString " ").length = 1 := rfl
    have hra : ∀ x ∈ flats a, RwL x := fun x hx => hr x (by simp [Rw.flat, hx])
    have hrb : ∀ x ∈ flats b, RwL x := fun x hx => hr x (by simp [Rw.flat, hx])
    have hlab : (flats a).length + (flats b).length ≤ 100 := by simp [Rw.flat] at hl; omega
    have hA := (rsT_len a hra).2
    have hb := (rsT_len b hrb).2
    have hdw : dps (Rw.when e a b).within = max (dps a) (dps b) := by rw [Rw.within, dps_append]
    rw [w_seq]
    simp [e_v, e_c, e_tup, e_lst, e_dct, s_nil, s_cons, e_ix, e_sl, e_bin, e_cmp, e_eq, e_ne, e_in, e_nin, e_isN, e_notN, e_chain, e_neg, e_not, e_and, e_or, e_ite, e_call, e_bi, e_me, e_isT, e_new, e_attr, e_mth, e_mk, w_setattr, w_skip, w_ex, w_asg, w_asgT, w_setix, w_ite, w_ret, w_raise, Rw.v]
    rw [w_seq]
    simp [e_v, e_c, e_tup, e_lst, e_dct, s_nil, s_cons, e_ix, e_sl, e_bin, e_cmp, e_eq, e_ne, e_in, e_nin, e_isN, e_notN, e_chain, e_neg, e_not, e_and, e_or, e_ite, e_call, e_bi, e_me, e_isT, e_new, e_attr, e_mth, e_mk, w_setattr, w_skip, w_ex, w_asg, w_asgT, w_setix, w_ite, w_ret, w_raise]
    rw [w_seq]
    simp [e_v, e_c, e_tup, e_lst, e_dct, s_nil, s_cons, e_ix, e_sl, e_bin, e_cmp, e_eq, e_ne, e_in, e_nin, e_isN, e_notN, e_chain, e_neg, e_not, e_and, e_or, e_ite, e_call, e_bi, e_me, e_isT, e_new, e_attr, e_mth, e_mk, w_setattr, w_skip, w_ex, w_asg, w_asgT, w_setix, w_ite, w_ret, w_raise]
    rw [w_seq]
    simp [e_v, e_c, e_tup, e_lst, e_dct, s_nil, s_cons, e_ix, e_sl, e_bin, e_cmp, e_eq, e_ne, e_in, e_nin, e_isN, e_notN, e_chain, e_neg, e_not, e_and, e_or, e_ite, e_call, e_bi, e_me, e_isT, e_new, e_attr, e_mth, e_mk, w_setattr, w_skip, w_ex, w_asg, w_asgT, w_setix, w_ite, w_ret, w_raise, -bn_addS, -bn_addL]
    rw [addS (by omega)]
    simp only [brV_some]
    refine l_written_ok he e n _ _ l1 l2 (by omega) ?_
    rw [addS (by rw [str_len_append]; omega)]
    simp only [brV_some]
    refine ha a n _ _ _ (by omega) (by omega) hra (by omega) ?_
    rw [addL (by simp; omega)]
    simp only [brV_some]
    rw [w_seq]
    simp [e_v, e_c, e_tup, e_lst, e_dct, s_nil, s_cons, e_ix, e_sl, e_bin, e_cmp, e_eq, e_ne, e_in, e_nin, e_isN, e_notN, e_chain, e_neg, e_not, e_and, e_or, e_ite, e_call, e_bi, e_me, e_isT, e_new, e_attr, e_mth, e_mk, w_setattr, w_skip, w_ex, w_asg, w_asgT, w_setix, w_ite, w_ret, w_raise, -bn_addL]
    rw [addL (by simp; omega)]
    simp only [brV_some]
    refine ha b n _ _ _ (by omega) (by omega) hrb (by omega) ?_
    rw [addL (by simp; omega)]
    simp only [brV_some]
    simp [e_v, e_c, e_tup, e_lst, e_dct, s_nil, s_cons, e_ix, e_sl, e_bin, e_cmp, e_eq, e_ne, e_in, e_nin, e_isN, e_notN, e_chain, e_neg, e_not, e_and, e_or, e_ite, e_call, e_bi, e_me, e_isT, e_new, e_attr, e_mth, e_mk, w_setattr, w_skip, w_ex, w_asg, w_asgT, w_setix, w_ite, w_ret, w_raise, -bn_addL]
    rw [addL (by simp; omega)]
    simp only [brV_some]
    have ht : Str.ofString "when" ++ Str.ofString " " = Str.ofString "when " := rfl
    rw [ht]
    rw [rwT] at q
    simpa using q
  | call m w as k =>
    have h0 := hr (.call m w as k) (by simp [Rw.flat])
    obtain ⟨c1, c2, c3, c4⟩ := h0.cl m w as k rfl
    have hsum := call_sum h0
    have hlog := log_small c3 (by omega)
    rw [w_seq]
    simp [e_v, e_c, e_tup, e_lst, e_dct, s_nil, s_cons, e_ix, e_sl, e_bin, e_cmp, e_eq, e_ne, e_in, e_nin, e_isN, e_notN, e_chain, e_neg, e_not, e_and, e_or, e_ite, e_call, e_bi, e_me, e_isT, e_new, e_attr, e_mth, e_mk, w_setattr, w_skip, w_ex, w_asg, w_asgT, w_setix, w_ite, w_ret, w_raise, Rw.v]
    rw [w_seq]
    simp [e_v, e_c, e_tup, e_lst, e_dct, s_nil, s_cons, e_ix, e_sl, e_bin, e_cmp, e_eq, e_ne, e_in, e_nin, e_isN, e_notN, e_chain, e_neg, e_not, e_and, e_or, e_ite, e_call, e_bi, e_me, e_isT, e_new, e_attr, e_mth, e_mk, w_setattr, w_skip, w_ex, w_asg, w_asgT, w_setix, w_ite, w_ret, w_raise]
    rw [w_seq]
    simp [e_v, e_c, e_tup, e_lst, e_dct, s_nil, s_cons, e_ix, e_sl, e_bin, e_cmp, e_eq, e_ne, e_in, e_nin, e_isN, e_notN, e_chain, e_neg, e_not, e_and, e_or, e_ite, e_call, e_bi, e_me, e_isT, e_new, e_attr, e_mth, e_mk, w_setattr, w_skip, w_ex, w_asg, w_asgT, w_setix, w_ite, w_ret, w_raise]
    rw [w_seq]
    simp [e_v, e_c, e_tup, e_lst, e_dct, s_nil, s_cons, e_ix, e_sl, e_bin, e_cmp, e_eq, e_ne, e_in, e_nin, e_isN, e_notN, e_chain, e_neg, e_not, e_and, e_or, e_ite, e_call, e_bi, e_me, e_isT, e_new, e_attr, e_mth, e_mk, w_setattr, w_skip, w_ex, w_asg, w_asgT, w_setix, w_ite, w_ret, w_raise, hlog, -bn_addL]
    refine comp_all Ex.v as (fun e => .str (exT e)) hΦ (i_e ?_ hΦ)
    simp [e_v, e_c, e_tup, e_lst, e_dct, s_nil, s_cons, e_ix, e_sl, e_bin, e_cmp, e_eq, e_ne, e_in, e_nin, e_isN, e_notN, e_chain, e_neg, e_not, e_and, e_or, e_ite, e_call, e_bi, e_me, e_isT, e_new, e_attr, e_mth, e_mk, w_setattr, w_skip, w_ex, w_asg, w_asgT, w_setix, w_ite, w_ret, w_raise, guard, -bn_addL]
    refine ⟨trivial, by rw [big_eq]; omega, fun e he2 => ?_, ?_⟩
    · obtain ⟨l1, l2⟩ := h0.ex e (by simpa [Rw.exs] using he2)
      simp [wipe]
      exact l_written_ok he e n _ _ l1 l2 (by omega) ⟨rfl, rfl⟩
    · rw [addL (by simp; omega)]
      simp only [brV_some]
      have ev : [Val.str (Str.ofString "call"), .str m, .str w, .str (strI k)] ++ as.map (fun e => Val.str (exT e)) = ([Str.ofString "call", m, w, strI k] ++ as.map exT).map .str := by simp
      rw [ev]
      simp [e_v, e_c, e_tup, e_lst, e_dct, s_nil, s_cons, e_ix, e_sl, e_bin, e_cmp, e_eq, e_ne, e_in, e_nin, e_isN, e_notN, e_chain, e_neg, e_not, e_and, e_or, e_ite, e_call, e_bi, e_me, e_isT, e_new, e_attr, e_mth, e_mk, w_setattr, w_skip, w_ex, w_asg, w_asgT, w_setix, w_ite, w_ret, w_raise, -List.map_append, -List.cons_append]
      have ev2 : (Val.str (Str.ofString "call") :: Val.str m :: Val.str w :: Val.str (strI k) :: as.map (Val.str ∘ exT)) = ([Str.ofString "call", m, w, strI k] ++ as.map exT).map Val.str := by simp
      rw [ev2]
      rw [bi_join (a := Str.ofString " ") (l := [Str.ofString "call", m, w, strI k] ++ as.map exT) rfl (by have e3 : spS = Str.ofString " " := rfl; rw [← e3]; omega)]
      simp only [brV_some]
      rw [rwT] at q
      exact q
end
end Mi
/-! Mg: books written, both ways. -/
namespace Mi
open PySem (Str)
def ddT (d : Dd) : List Str := [PySem.Str.join spS ([Str.ofString "deed", d.name] ++ d.ps)] ++ rsT d.rows ++ [Str.ofString "give " ++ exT d.give]
def bkT (b : List Dd) : List Str := (b.map ddT).flatten
theorem bkT_snoc (b : List Dd) (d : Dd) : bkT (b ++ [d]) = bkT b ++ ddT d := by simp [bkT]
structure DdL (d : Dd) : Prop where
  name : d.name.length ≤ 8
  pl : d.ps.length ≤ 4
  ps : ∀ s ∈ d.ps, s.length ≤ 4
  row : ∀ r ∈ flats d.rows, RwL r
  len : (flats d.rows).length ≤ 20
  dp : dps d.rows ≤ 3
  give : ExL d.give
  gd : d.give.deep ≤ 5
theorem head_sum {d : Dd} (h : DdL d) : (([Str.ofString "deed", d.name] ++ d.ps).map (·.length)).sum + ([Str.ofString "deed", d.name] ++ d.ps).length * spS.length ≤ 100 := by
  have h1 := sum_le h.ps
  have h2 := h.name
  have h3 := h.pl
  have e1 : (Str.ofString "deed").length = 4 := rfl
  have e2 : spS.length = 1 := rfl
  rw [List.map_append, List.sum_append, List.length_append, e2]
  simp only [List.map_cons, List.map_nil, List.sum_cons, List.sum_nil, List.length_cons, List.length_nil, e1]
  omega
theorem ddT_len {d : Dd} (h : DdL d) : (∀ s ∈ ddT d, s.length ≤ 2000) ∧ (ddT d).length ≤ 62 := by
  obtain ⟨a1, a2⟩ := rsT_len d.rows h.row
  have h1 := head_sum h
  have h2 := join_len spS ([Str.ofString "deed", d.name] ++ d.ps)
  have h3 := exT_400 h.give h.gd
  have h4 := h.len
  have e1 : (Str.ofString "give ").length = 5 := rfl
  unfold ddT
  refine ⟨fun s hs => ?_, ?_⟩
  · simp only [List.mem_append, List.mem_singleton] at hs
    rcases hs with (hs | hs) | hs
    · rw [hs]
      omega
    · exact a1 s hs
    · rw [hs, str_len_append]
      omega
  · simp only [List.length_append, List.length_cons, List.length_nil]
    omega
theorem bkT_len : ∀ {b : List Dd}, (∀ d ∈ b, DdL d) → (∀ s ∈ bkT b, s.length ≤ 2000) ∧ (bkT b).length ≤ 62 * b.length
  | [], _ => ⟨by simp [bkT], by simp [bkT]⟩
  | d :: t, h => by
    obtain ⟨a1, a2⟩ := ddT_len (h d List.mem_cons_self)
    obtain ⟨b1, b2⟩ := bkT_len fun x hx => h x (List.mem_cons_of_mem _ hx)
    have e : bkT (d :: t) = ddT d ++ bkT t := by simp [bkT]
    rw [e]
    refine ⟨fun s hs => ?_, ?_⟩
    · rcases List.mem_append.mp hs with z | z
      · exact a1 s z
      · exact b1 s z
    · rw [List.length_append, List.length_cons]
      omega
theorem bk_sum {b : List Dd} (h : ∀ d ∈ b, DdL d) (hl : b.length ≤ 8) : ((bkT b).map (·.length)).sum + (bkT b).length * (Str.ofString "\n").length ≤ 16000000 := by
  obtain ⟨h1, h2⟩ := bkT_len h
  have h3 := sum_le h1
  have e : (Str.ofString "\n").length = 1 := rfl
  rw [e]
  omega
def bL (g e : String) : S := .forS (.t [(.n 2), (.n 3), (.n 4), (.n 5)]) (.e (.v 0))
  (.seq (.ex (.me .append (.v 1) (.cons (.bi .join (.cons (.c (.str (Str.ofString " "))) (.cons (.bin .add (.lst (.cons (.c (.str (Str.ofString "deed"))) (.cons (.v 2) .nil))) (.bi .list (.cons (.v 3) .nil))) .nil))) .nil)))
  (.seq (.ex (.me .extend (.v 1) (.cons (.call g .val (.cons (.v 4) .nil)) .nil)))
  (.ex (.me .append (.v 1) (.cons (.bin .add (.c (.str (Str.ofString "give "))) (.call e .val (.cons (.v 5) .nil))) .nil)))))
section
variable {P : Prog} {n : Nat} {μ : Mu} {Q : Val → Mu → Prop} {X : XQ} {p : Ad}
def EtOk (P : Prog) (e : String) : Prop := ∀ (x : Ex) (n : Nat) (μ : Mu) (Q : Val → Mu → Prop) (X : XQ), ExL x → x.deep ≤ 5 → x.deep ≤ n → Q (.str (exT x)) μ → phi P n e .val [x.v] μ Q X
theorem bk_core {g e : String} (hg : AtOk P g 3) (he : EtOk P e) {b : List Dd} (hb : ∀ d ∈ b, DdL d) (hl : b.length ≤ 8) (hn : 20 ≤ n) {rest : S} {D : En} (q : ∀ (r : Ad) (o2 o3 o4 o5 : Option Val), μ r = none → wpS (phi P n) rest [some (.tup (b.map Dd.v)), some (.ref r), o2, o3, o4, o5] (μ.set r (.lst ((bkT b).map .str))) D) : wpS (phi P n) (.seq (.asg 1 (.new (.lst .nil))) (.seq (bL g e) rest)) [some (.tup (b.map Dd.v)), none, none, none, none, none] μ D := by
  have hΦ := phi_mono P n
  rw [w_seq]
  simp [e_v, e_c, e_tup, e_lst, e_dct, s_nil, s_cons, e_ix, e_sl, e_bin, e_cmp, e_eq, e_ne, e_in, e_nin, e_isN, e_notN, e_chain, e_neg, e_not, e_and, e_or, e_ite, e_call, e_bi, e_me, e_isT, e_new, e_attr, e_mth, e_mk, w_setattr, w_skip, w_ex, w_asg, w_asgT, w_setix, w_ite, w_ret, w_raise]
  intro r hr
  rw [w_seq]
  unfold bL
  refine for_T Dd.v b hΦ (i_e ?_ hΦ)
  simp [e_v, e_c, e_tup, e_lst, e_dct, s_nil, s_cons, e_ix, e_sl, e_bin, e_cmp, e_eq, e_ne, e_in, e_nin, e_isN, e_notN, e_chain, e_neg, e_not, e_and, e_or, e_ite, e_call, e_bi, e_me, e_isT, e_new, e_attr, e_mth, e_mk, w_setattr, w_skip, w_ex, w_asg, w_asgT, w_setix, w_ite, w_ret, w_raise]
  refine ⟨fun ys env' μ' => ∃ (o2 o3 o4 o5 : Option Val), env' = [some (.tup (b.map Dd.v)), some (.ref r), o2, o3, o4, o5] ∧ μ' = μ.set r (.lst ((bkT ys).map .str)), ⟨_, _, _, _, rfl, rfl⟩, ?_, ?_⟩
  · rintro ys d zs env' μ' eq ⟨o2, o3, o4, o5, rfl, rfl⟩
    refine ⟨trivial, ?_⟩
    have hd := hb d (by rw [eq]; simp)
    have hyl : ys.length ≤ 8 := by
      have := congrArg List.length eq
      simp at this
      omega
    obtain ⟨y1, y2⟩ := bkT_len (b := ys) fun x hx => hb x (by rw [eq]; simp [hx])
    have hrs := (rsT_len d.rows hd.row).2
    have hlen := hd.len
    have hpl := hd.pl
    have hge := exT_400 hd.give hd.gd
    have er : (μ.set r (.lst ((bkT ys).map .str))) r = some (.lst ((bkT ys).map .str)) := mset_same
    simp [Dd.v]
    rw [w_seq]
    simp [e_v, e_c, e_tup, e_lst, e_dct, s_nil, s_cons, e_ix, e_sl, e_bin, e_cmp, e_eq, e_ne, e_in, e_nin, e_isN, e_notN, e_chain, e_neg, e_not, e_and, e_or, e_ite, e_call, e_bi, e_me, e_isT, e_new, e_attr, e_mth, e_mk, w_setattr, w_skip, w_ex, w_asg, w_asgT, w_setix, w_ite, w_ret, w_raise, -bn_addL]
    rw [ok_append er]
    refine ⟨rfl, ?_⟩
    rw [addL (by simp; omega)]
    simp only [brV_some]
    have ev : [Val.str (Str.ofString "deed"), .str d.name] ++ d.ps.map Val.str = ([Str.ofString "deed", d.name] ++ d.ps).map .str := by simp
    rw [ev, bi_join (a := Str.ofString " ") (l := [Str.ofString "deed", d.name] ++ d.ps) rfl (by have e3 : spS = Str.ofString " " := rfl; have := head_sum hd; rw [← e3]; omega)]
    simp only [brV_some]
    rw [me_append er]
    refine brV_ite (by rw [List.length_map, big_eq]; omega) ?_
    dsimp only
    rw [mset_set]
    obtain ⟨L1, hL1⟩ : ∃ L1, L1 = bkT ys ++ [PySem.Str.join (Str.ofString " ") ([Str.ofString "deed", d.name] ++ d.ps)] := ⟨_, rfl⟩
    have e1 : (bkT ys).map Val.str ++ [.str (PySem.Str.join (Str.ofString " ") ([Str.ofString "deed", d.name] ++ d.ps))] = L1.map .str := by rw [hL1, List.map_append]; rfl
    rw [e1]
    have l1 : L1.length = (bkT ys).length + 1 := by rw [hL1]; simp
    have er1 : (μ.set r (.lst (L1.map .str))) r = some (.lst (L1.map .str)) := mset_same
    rw [w_seq]
    simp [e_v, e_c, e_tup, e_lst, e_dct, s_nil, s_cons, e_ix, e_sl, e_bin, e_cmp, e_eq, e_ne, e_in, e_nin, e_isN, e_notN, e_chain, e_neg, e_not, e_and, e_or, e_ite, e_call, e_bi, e_me, e_isT, e_new, e_attr, e_mth, e_mk, w_setattr, w_skip, w_ex, w_asg, w_asgT, w_setix, w_ite, w_ret, w_raise]
    rw [ok_extend er1]
    refine ⟨rfl, ?_⟩
    refine hg d.rows n _ _ _ hd.dp (by omega) hd.row (by omega) ?_
    rw [me_extend er1 (r := (rsT d.rows).map .str) rfl]
    refine brV_ite (by rw [List.length_map, List.length_map, big_eq]; omega) ?_
    dsimp only
    rw [mset_set, ← List.map_append]
    have er2 : (μ.set r (.lst ((L1 ++ rsT d.rows).map .str))) r = some (.lst ((L1 ++ rsT d.rows).map .str)) := mset_same
    rw [ok_append er2]
    refine ⟨rfl, ?_⟩
    refine he d.give n _ _ _ hd.give hd.gd (by have := hd.gd; omega) ?_
    rw [addS (by have e5 : (Str.ofString "give ").length = 5 := rfl; omega)]
    simp only [brV_some]
    rw [me_append er2]
    refine brV_ite (by rw [List.length_map, List.length_append, big_eq]; omega) ?_
    dsimp only
    rw [mset_set, bkT_snoc, hL1]
    unfold ddT
    congr 2
    simp
    rfl
  · rintro env' μ' ⟨o2, o3, o4, o5, rfl, rfl⟩
    exact ⟨trivial, q r o2 o3 o4 o5 hr⟩
theorem book_text_ok (h : P "book_text" = some D.book_text) (hg : AtOk P "all_texts" 3) (he : EtOk P "expression_text") {b : List Dd} (hb : ∀ d ∈ b, DdL d) (hl : b.length ≤ 8) (hn : 21 ≤ n) (q : Q (.str (PySem.Str.join (Str.ofString "\n") (bkT b))) μ) : phi P n "book_text" .val [.tup (b.map Dd.v)] μ Q X := by
  obtain ⟨n, rfl⟩ : ∃ k, n = k + 1 := ⟨n - 1, by omega⟩
  have hΦ := phi_mono P n
  refine call_ok h rfl ?_
  refine bk_core (g := "all_texts") (e := "expression_text") hg he hb hl (by omega) fun r o2 o3 o4 o5 hr => ?_
  simp [e_v, e_c, e_tup, e_lst, e_dct, s_nil, s_cons, e_ix, e_sl, e_bin, e_cmp, e_eq, e_ne, e_in, e_nin, e_isN, e_notN, e_chain, e_neg, e_not, e_and, e_or, e_ite, e_call, e_bi, e_me, e_isT, e_new, e_attr, e_mth, e_mk, w_setattr, w_skip, w_ex, w_asg, w_asgT, w_setix, w_ite, w_ret, w_raise]
  rw [bi_join (v := .ref r) (l := bkT b) (by rw [ct_ref]; exact mset_same) (bk_sum hb hl)]
  simp only [brV_some]
  exact fin_val rfl (by rw [cut_new hr, cut_self]) q
theorem l_book_texts_ok (h : P "_law_book_texts" = some D._law_book_texts) (hg : AtOk P "_law_texts" 3) (he : EtOk P "_law_written") {b : List Dd} (hb : ∀ d ∈ b, DdL d) (hl : b.length ≤ 8) (hn : 21 ≤ n) (q : Q (.lst ((bkT b).map .str)) μ) : phi P n "_law_book_texts" .val [.tup (b.map Dd.v)] μ Q X := by
  obtain ⟨n, rfl⟩ : ∃ k, n = k + 1 := ⟨n - 1, by omega⟩
  have hΦ := phi_mono P n
  refine call_ok h rfl ?_
  refine bk_core (g := "_law_texts") (e := "_law_written") hg he hb hl (by omega) fun r o2 o3 o4 o5 hr => ?_
  simp [e_v, e_c, e_tup, e_lst, e_dct, s_nil, s_cons, e_ix, e_sl, e_bin, e_cmp, e_eq, e_ne, e_in, e_nin, e_isN, e_notN, e_chain, e_neg, e_not, e_and, e_or, e_ite, e_call, e_bi, e_me, e_isT, e_new, e_attr, e_mth, e_mk, w_setattr, w_skip, w_ex, w_asg, w_asgT, w_setix, w_ite, w_ret, w_raise]
  exact (fin_new hr (by show nrL _ = true; exact nrL_strs _)).mpr q
theorem at_prog (h1 : P "all_texts" = some D.all_texts) (h2 : P "row_texts" = some D.row_texts) (h3 : P "expression_text" = some D.expression_text) : ∀ dd, AtOk P "all_texts" dd := fun dd => by
  induction dd using Nat.strongRecOn with
  | _ dd ih => exact all_ok (by rw [h1, tF_1]) dd fun k hk => row_texts_ok h2 h3 (ih k hk)
theorem at_law (h1 : P "_law_texts" = some D._law_texts_v2) (h2 : P "_law_row_texts" = some D._law_row_texts) (h3 : P "_law_written" = some D._law_written) : ∀ dd, AtOk P "_law_texts" dd := fun dd => by
  induction dd using Nat.strongRecOn with
  | _ dd ih => exact all_ok (by rw [h1, tF_2]) dd fun k hk => l_row_texts_ok h2 h3 (ih k hk)
theorem menuM_len : ∀ s ∈ menuM, s.length ≤ 4 := by decide +kernel
theorem deedsM_len : ∀ s ∈ deedsM, s.length ≤ 8 := by decide +kernel
theorem DdM.l {hs : Hs} {d : Dd} (h : DdM hs 20 d) (hh : HdM hs) (hd : d.head ∈ hs) : DdL d := by
  obtain ⟨names, _, _, _, hm, hr, hg, hp⟩ := h.nm
  obtain ⟨p1, p2, p3⟩ := hh.ps _ hd
  have ex : ∀ {k : Nat} {e : Ex}, ExM names k e → ExL e := fun he => ⟨he.small, fun s hs => menuM_len s (hm s (he.names s hs))⟩
  refine ⟨deedsM_len _ (hh.nm _ hd), p1, fun s hs => menuM_len s (p3 s hs), fun r hr' => ?_, h.len, h.dp, ex hg, by have := hg.deep; omega⟩
  have hR := hr r hr'
  refine ⟨fun e he => ⟨ex (hR.ex e he), (hR.ex e he).deep⟩, fun s hs => menuM_len s (hm s (hR.aim s hs)), fun x w as m e => ?_⟩
  obtain ⟨⟨ps, hps, hl⟩, m0, m1⟩ := hR.cl x w as m e
  have h1 := hh.nm _ hps
  have h2 := (hh.ps _ hps).1
  have h2' : ps.length ≤ 4 := h2
  exact ⟨deedsM_len _ h1, by omega, m0, m1⟩
theorem BkM.l {b : List Dd} (h : BkM 20 b) : ∀ d ∈ b, DdL d := fun d hd => (h.dd d hd).l h.hd (List.mem_map_of_mem hd)
end
mutual
theorem Rw.dep_5 : ∀ r : Rw, (∀ q ∈ r.flat, (∀ e ∈ q.exs, e.deep ≤ 5)) → dep r.v ≤ 2 * r.dp + 5
  | .set n e, h => by
    have h1 : e.deep ≤ 5 := h (.set n e) (by simp [Rw.flat]) e (by simp [Rw.exs])
    have := e.dep_le
    simp only [Rw.v, dep, depL, Rw.dp]; omega
  | .say e, h => by
    have h1 : e.deep ≤ 5 := h (.say e) (by simp [Rw.flat]) e (by simp [Rw.exs])
    have := e.dep_le
    simp only [Rw.v, dep, depL, Rw.dp]; omega
  | .call n w as m, h => by
    have h1 : ∀ e ∈ as, e.deep ≤ 5 := fun e he => h (.call n w as m) (by simp [Rw.flat]) e (by simpa [Rw.exs] using he)
    have h2 : depL (as.map Ex.v) ≤ 5 := depL_le.mpr fun v hv => by
      obtain ⟨e, he, rfl⟩ := List.mem_map.mp hv
      have := e.dep_le
      have := h1 e he
      omega
    simp only [Rw.v, dep, depL, Rw.dp]; omega
  | .when e a b, h => by
    have h1 : e.deep ≤ 5 := h (.when e a b) (by simp [Rw.flat]) e (by simp [Rw.exs])
    have := e.dep_le
    have h2 := Rw.deps_5 a fun q hq => h q (by simp [Rw.flat, hq])
    have h3 := Rw.deps_5 b fun q hq => h q (by simp [Rw.flat, hq])
    simp only [Rw.v, dep, depL, Rw.dp]; omega
  | .turn e b, h => by
    have h1 : e.deep ≤ 5 := h (.turn e b) (by simp [Rw.flat]) e (by simp [Rw.exs])
    have := e.dep_le
    have h3 := Rw.deps_5 b fun q hq => h q (by simp [Rw.flat, hq])
    simp only [Rw.v, dep, depL, Rw.dp]; omega
theorem Rw.deps_5 : ∀ l : List Rw, (∀ q ∈ flats l, (∀ e ∈ q.exs, e.deep ≤ 5)) → depL (Rw.vs l) ≤ 2 * dps l + 5
  | [], h => by simp [Rw.vs, depL]
  | r :: t, h => by
    have h2 := Rw.dep_5 r fun q hq => h q (by simp [flats, hq])
    have h3 := Rw.deps_5 t fun q hq => h q (by simp [flats, hq])
    simp only [Rw.vs, depL, dps]; omega
end
theorem DdL.dep {d : Dd} (h : DdL d) : Mi.dep d.v ≤ 20 := by
  have h1 := Rw.deps_5 d.rows fun q hq e he => ((h.row q hq).ex e he).2
  have h2 := plainL_strs d.ps
  have h4 := d.give.dep_le
  have h5 := h.gd
  have h6 := h.dp
  simp only [Dd.v, Mi.dep, depL, h2.2]
  omega
theorem bkL_same {μ : Mu} {b : List Dd} (h : ∀ d ∈ b, DdL d) : eqV μ (.tup (b.map Dd.v)) (.tup (b.map Dd.v)) = some true := by
  refine eq_same rfl rfl (bk_plain b) ?_
  have : depL (b.map Dd.v) ≤ 20 := depL_le.mpr fun v hv => by obtain ⟨d, hd, rfl⟩ := List.mem_map.mp hv; exact (h d hd).dep
  show depL (b.map Dd.v) + 1 ≤ 150
  omega
end Mi
/-! the defs of the law, by name -/
namespace Mi.k12
open PySem (Str)
open Mi
def tab : List (String × Fn) := [("expression_text", D.expression_text), ("row_texts", D.row_texts), ("all_texts", D.all_texts), ("book_text", D.book_text), ("_law_cells", D._law_cells), ("_law_pool", D._law_pool), ("_law_take", D._law_take_v2), ("_law_some", D._law_some), ("_law_value", D._law_value_v2), ("_law_expression", D._law_expression_v2), ("_law_call", D._law_call_v3), ("_law_row", D._law_row_v3), ("_law_rows", D._law_rows_v3), ("_law_book", D._law_book_v3), ("_law_written", D._law_written), ("_law_row_texts", D._law_row_texts), ("_law_texts", D._law_texts_v2), ("_law_book_texts", D._law_book_texts), ("law", D.law_k12)]
def PR : Prog := fun f => (tab.find? fun p => p.1 == f).map (·.2)
theorem pr_expression_text : PR "expression_text" = some D.expression_text := rfl
theorem pr_row_texts : PR "row_texts" = some D.row_texts := rfl
theorem pr_all_texts : PR "all_texts" = some D.all_texts := rfl
theorem pr_book_text : PR "book_text" = some D.book_text := rfl
theorem pr__law_cells : PR "_law_cells" = some D._law_cells := rfl
theorem pr__law_pool : PR "_law_pool" = some D._law_pool := rfl
theorem pr__law_take : PR "_law_take" = some D._law_take_v2 := rfl
theorem pr__law_some : PR "_law_some" = some D._law_some := rfl
theorem pr__law_value : PR "_law_value" = some D._law_value_v2 := rfl
theorem pr__law_expression : PR "_law_expression" = some D._law_expression_v2 := rfl
theorem pr__law_call : PR "_law_call" = some D._law_call_v3 := rfl
theorem pr__law_row : PR "_law_row" = some D._law_row_v3 := rfl
theorem pr__law_rows : PR "_law_rows" = some D._law_rows_v3 := rfl
theorem pr__law_book : PR "_law_book" = some D._law_book_v3 := rfl
theorem pr__law_written : PR "_law_written" = some D._law_written := rfl
theorem pr__law_row_texts : PR "_law_row_texts" = some D._law_row_texts := rfl
theorem pr__law_texts : PR "_law_texts" = some D._law_texts_v2 := rfl
theorem pr__law_book_texts : PR "_law_book_texts" = some D._law_book_texts := rfl
theorem pr_law : PR "law" = some D.law_k12 := rfl
end Mi.k12
namespace Mi.k12
open PySem PySem.Spec PyProof.Rows L2 Mi
def top (i : Nat) : Stmt := PySem.Challenge.pw_callfold_k12_books_written.main.body.getD i (.Pass ⟨0, 0, 0, 0⟩)
theorem dd_SIGNS : (Str.ofString "SIGNS" == ("__debug__" : Str)) = false := by decide +kernel
theorem dc_SIGNS : (Str.ofString "SIGNS" == ("__classdict__" : Str)) = false := by decide +kernel
theorem dd__law_book : (Str.ofString "_law_book" == ("__debug__" : Str)) = false := by decide +kernel
theorem dc__law_book : (Str.ofString "_law_book" == ("__classdict__" : Str)) = false := by decide +kernel
theorem dd__law_book_texts : (Str.ofString "_law_book_texts" == ("__debug__" : Str)) = false := by decide +kernel
theorem dc__law_book_texts : (Str.ofString "_law_book_texts" == ("__classdict__" : Str)) = false := by decide +kernel
theorem dd__law_call : (Str.ofString "_law_call" == ("__debug__" : Str)) = false := by decide +kernel
theorem dc__law_call : (Str.ofString "_law_call" == ("__classdict__" : Str)) = false := by decide +kernel
theorem dd__law_cells : (Str.ofString "_law_cells" == ("__debug__" : Str)) = false := by decide +kernel
theorem dc__law_cells : (Str.ofString "_law_cells" == ("__classdict__" : Str)) = false := by decide +kernel
theorem dd__law_expression : (Str.ofString "_law_expression" == ("__debug__" : Str)) = false := by decide +kernel
theorem dc__law_expression : (Str.ofString "_law_expression" == ("__classdict__" : Str)) = false := by decide +kernel
theorem dd__law_pool : (Str.ofString "_law_pool" == ("__debug__" : Str)) = false := by decide +kernel
theorem dc__law_pool : (Str.ofString "_law_pool" == ("__classdict__" : Str)) = false := by decide +kernel
theorem dd__law_row : (Str.ofString "_law_row" == ("__debug__" : Str)) = false := by decide +kernel
theorem dc__law_row : (Str.ofString "_law_row" == ("__classdict__" : Str)) = false := by decide +kernel
theorem dd__law_row_texts : (Str.ofString "_law_row_texts" == ("__debug__" : Str)) = false := by decide +kernel
theorem dc__law_row_texts : (Str.ofString "_law_row_texts" == ("__classdict__" : Str)) = false := by decide +kernel
theorem dd__law_rows : (Str.ofString "_law_rows" == ("__debug__" : Str)) = false := by decide +kernel
theorem dc__law_rows : (Str.ofString "_law_rows" == ("__classdict__" : Str)) = false := by decide +kernel
theorem dd__law_some : (Str.ofString "_law_some" == ("__debug__" : Str)) = false := by decide +kernel
theorem dc__law_some : (Str.ofString "_law_some" == ("__classdict__" : Str)) = false := by decide +kernel
theorem dd__law_take : (Str.ofString "_law_take" == ("__debug__" : Str)) = false := by decide +kernel
theorem dc__law_take : (Str.ofString "_law_take" == ("__classdict__" : Str)) = false := by decide +kernel
theorem dd__law_texts : (Str.ofString "_law_texts" == ("__debug__" : Str)) = false := by decide +kernel
theorem dc__law_texts : (Str.ofString "_law_texts" == ("__classdict__" : Str)) = false := by decide +kernel
theorem dd__law_value : (Str.ofString "_law_value" == ("__debug__" : Str)) = false := by decide +kernel
theorem dc__law_value : (Str.ofString "_law_value" == ("__classdict__" : Str)) = false := by decide +kernel
theorem dd__law_written : (Str.ofString "_law_written" == ("__debug__" : Str)) = false := by decide +kernel
theorem dc__law_written : (Str.ofString "_law_written" == ("__classdict__" : Str)) = false := by decide +kernel
theorem dd_abs : (Str.ofString "abs" == ("__debug__" : Str)) = false := by decide +kernel
theorem dc_abs : (Str.ofString "abs" == ("__classdict__" : Str)) = false := by decide +kernel
theorem dd_all_texts : (Str.ofString "all_texts" == ("__debug__" : Str)) = false := by decide +kernel
theorem dc_all_texts : (Str.ofString "all_texts" == ("__classdict__" : Str)) = false := by decide +kernel
theorem dd_arg : (Str.ofString "arg" == ("__debug__" : Str)) = false := by decide +kernel
theorem dc_arg : (Str.ofString "arg" == ("__classdict__" : Str)) = false := by decide +kernel
theorem dd_args : (Str.ofString "args" == ("__debug__" : Str)) = false := by decide +kernel
theorem dc_args : (Str.ofString "args" == ("__classdict__" : Str)) = false := by decide +kernel
theorem dd_at : (Str.ofString "at" == ("__debug__" : Str)) = false := by decide +kernel
theorem dc_at : (Str.ofString "at" == ("__classdict__" : Str)) = false := by decide +kernel
theorem dd_behind : (Str.ofString "behind" == ("__debug__" : Str)) = false := by decide +kernel
theorem dc_behind : (Str.ofString "behind" == ("__classdict__" : Str)) = false := by decide +kernel
theorem dd_book : (Str.ofString "book" == ("__debug__" : Str)) = false := by decide +kernel
theorem dc_book : (Str.ofString "book" == ("__classdict__" : Str)) = false := by decide +kernel
theorem dd_book_text : (Str.ofString "book_text" == ("__debug__" : Str)) = false := by decide +kernel
theorem dc_book_text : (Str.ofString "book_text" == ("__classdict__" : Str)) = false := by decide +kernel
theorem dd_cell : (Str.ofString "cell" == ("__debug__" : Str)) = false := by decide +kernel
theorem dc_cell : (Str.ofString "cell" == ("__classdict__" : Str)) = false := by decide +kernel
theorem dd_cells : (Str.ofString "cells" == ("__debug__" : Str)) = false := by decide +kernel
theorem dc_cells : (Str.ofString "cells" == ("__classdict__" : Str)) = false := by decide +kernel
theorem dd_deeds : (Str.ofString "deeds" == ("__debug__" : Str)) = false := by decide +kernel
theorem dc_deeds : (Str.ofString "deeds" == ("__classdict__" : Str)) = false := by decide +kernel
theorem dd_deep : (Str.ofString "deep" == ("__debug__" : Str)) = false := by decide +kernel
theorem dc_deep : (Str.ofString "deep" == ("__classdict__" : Str)) = false := by decide +kernel
theorem dd_due : (Str.ofString "due" == ("__debug__" : Str)) = false := by decide +kernel
theorem dc_due : (Str.ofString "due" == ("__classdict__" : Str)) = false := by decide +kernel
theorem dd_expression : (Str.ofString "expression" == ("__debug__" : Str)) = false := by decide +kernel
theorem dc_expression : (Str.ofString "expression" == ("__classdict__" : Str)) = false := by decide +kernel
theorem dd_expression_text : (Str.ofString "expression_text" == ("__debug__" : Str)) = false := by decide +kernel
theorem dc_expression_text : (Str.ofString "expression_text" == ("__classdict__" : Str)) = false := by decide +kernel
theorem dd_first : (Str.ofString "first" == ("__debug__" : Str)) = false := by decide +kernel
theorem dc_first : (Str.ofString "first" == ("__classdict__" : Str)) = false := by decide +kernel
theorem dd_found : (Str.ofString "found" == ("__debug__" : Str)) = false := by decide +kernel
theorem dc_found : (Str.ofString "found" == ("__classdict__" : Str)) = false := by decide +kernel
theorem dd_give : (Str.ofString "give" == ("__debug__" : Str)) = false := by decide +kernel
theorem dc_give : (Str.ofString "give" == ("__classdict__" : Str)) = false := by decide +kernel
theorem dd_heads : (Str.ofString "heads" == ("__debug__" : Str)) = false := by decide +kernel
theorem dc_heads : (Str.ofString "heads" == ("__classdict__" : Str)) = false := by decide +kernel
theorem dd_held : (Str.ofString "held" == ("__debug__" : Str)) = false := by decide +kernel
theorem dc_held : (Str.ofString "held" == ("__classdict__" : Str)) = false := by decide +kernel
theorem dd_int : (Str.ofString "int" == ("__debug__" : Str)) = false := by decide +kernel
theorem dc_int : (Str.ofString "int" == ("__classdict__" : Str)) = false := by decide +kernel
theorem dd_isinstance : (Str.ofString "isinstance" == ("__debug__" : Str)) = false := by decide +kernel
theorem dc_isinstance : (Str.ofString "isinstance" == ("__classdict__" : Str)) = false := by decide +kernel
theorem dd_k : (Str.ofString "k" == ("__debug__" : Str)) = false := by decide +kernel
theorem dc_k : (Str.ofString "k" == ("__classdict__" : Str)) = false := by decide +kernel
theorem dd_len : (Str.ofString "len" == ("__debug__" : Str)) = false := by decide +kernel
theorem dc_len : (Str.ofString "len" == ("__classdict__" : Str)) = false := by decide +kernel
theorem dd_list : (Str.ofString "list" == ("__debug__" : Str)) = false := by decide +kernel
theorem dc_list : (Str.ofString "list" == ("__classdict__" : Str)) = false := by decide +kernel
theorem dd_many : (Str.ofString "many" == ("__debug__" : Str)) = false := by decide +kernel
theorem dc_many : (Str.ofString "many" == ("__classdict__" : Str)) = false := by decide +kernel
theorem dd_menu : (Str.ofString "menu" == ("__debug__" : Str)) = false := by decide +kernel
theorem dc_menu : (Str.ofString "menu" == ("__classdict__" : Str)) = false := by decide +kernel
theorem dd_most : (Str.ofString "most" == ("__debug__" : Str)) = false := by decide +kernel
theorem dc_most : (Str.ofString "most" == ("__classdict__" : Str)) = false := by decide +kernel
theorem dd_name : (Str.ofString "name" == ("__debug__" : Str)) = false := by decide +kernel
theorem dc_name : (Str.ofString "name" == ("__classdict__" : Str)) = false := by decide +kernel
theorem dd_names : (Str.ofString "names" == ("__debug__" : Str)) = false := by decide +kernel
theorem dc_names : (Str.ofString "names" == ("__classdict__" : Str)) = false := by decide +kernel
theorem dd_one : (Str.ofString "one" == ("__debug__" : Str)) = false := by decide +kernel
theorem dc_one : (Str.ofString "one" == ("__classdict__" : Str)) = false := by decide +kernel
theorem dd_param : (Str.ofString "param" == ("__debug__" : Str)) = false := by decide +kernel
theorem dc_param : (Str.ofString "param" == ("__classdict__" : Str)) = false := by decide +kernel
theorem dd_params : (Str.ofString "params" == ("__debug__" : Str)) = false := by decide +kernel
theorem dc_params : (Str.ofString "params" == ("__classdict__" : Str)) = false := by decide +kernel
theorem dd_pool : (Str.ofString "pool" == ("__debug__" : Str)) = false := by decide +kernel
theorem dc_pool : (Str.ofString "pool" == ("__classdict__" : Str)) = false := by decide +kernel
theorem dd_rest : (Str.ofString "rest" == ("__debug__" : Str)) = false := by decide +kernel
theorem dc_rest : (Str.ofString "rest" == ("__classdict__" : Str)) = false := by decide +kernel
theorem dd_row : (Str.ofString "row" == ("__debug__" : Str)) = false := by decide +kernel
theorem dc_row : (Str.ofString "row" == ("__classdict__" : Str)) = false := by decide +kernel
theorem dd_row_texts : (Str.ofString "row_texts" == ("__debug__" : Str)) = false := by decide +kernel
theorem dc_row_texts : (Str.ofString "row_texts" == ("__classdict__" : Str)) = false := by decide +kernel
theorem dd_rows : (Str.ofString "rows" == ("__debug__" : Str)) = false := by decide +kernel
theorem dc_rows : (Str.ofString "rows" == ("__classdict__" : Str)) = false := by decide +kernel
theorem dd_script : (Str.ofString "script" == ("__debug__" : Str)) = false := by decide +kernel
theorem dc_script : (Str.ofString "script" == ("__classdict__" : Str)) = false := by decide +kernel
theorem dd_sign : (Str.ofString "sign" == ("__debug__" : Str)) = false := by decide +kernel
theorem dc_sign : (Str.ofString "sign" == ("__classdict__" : Str)) = false := by decide +kernel
theorem dd_state : (Str.ofString "state" == ("__debug__" : Str)) = false := by decide +kernel
theorem dc_state : (Str.ofString "state" == ("__classdict__" : Str)) = false := by decide +kernel
theorem dd_str : (Str.ofString "str" == ("__debug__" : Str)) = false := by decide +kernel
theorem dc_str : (Str.ofString "str" == ("__classdict__" : Str)) = false := by decide +kernel
theorem dd_told : (Str.ofString "told" == ("__debug__" : Str)) = false := by decide +kernel
theorem dc_told : (Str.ofString "told" == ("__classdict__" : Str)) = false := by decide +kernel
theorem dd_tuple : (Str.ofString "tuple" == ("__debug__" : Str)) = false := by decide +kernel
theorem dc_tuple : (Str.ofString "tuple" == ("__classdict__" : Str)) = false := by decide +kernel
theorem dd_turn : (Str.ofString "turn" == ("__debug__" : Str)) = false := by decide +kernel
theorem dc_turn : (Str.ofString "turn" == ("__classdict__" : Str)) = false := by decide +kernel
theorem dd_way : (Str.ofString "way" == ("__debug__" : Str)) = false := by decide +kernel
theorem dc_way : (Str.ofString "way" == ("__classdict__" : Str)) = false := by decide +kernel
theorem dd_word : (Str.ofString "word" == ("__debug__" : Str)) = false := by decide +kernel
theorem dc_word : (Str.ofString "word" == ("__classdict__" : Str)) = false := by decide +kernel
theorem dd_words : (Str.ofString "words" == ("__debug__" : Str)) = false := by decide +kernel
theorem dc_words : (Str.ofString "words" == ("__classdict__" : Str)) = false := by decide +kernel
theorem bt_abs : bootBuiltins (Str.ofString "abs") = some (.builtin "abs") := by decide +kernel
theorem bt_enumerate : bootBuiltins (Str.ofString "enumerate") = some (.type "enumerate") := by decide +kernel
theorem bt_int : bootBuiltins (Str.ofString "int") = some (.type "int") := by decide +kernel
theorem bt_isinstance : bootBuiltins (Str.ofString "isinstance") = some (.builtin "isinstance") := by decide +kernel
theorem bt_len : bootBuiltins (Str.ofString "len") = some (.builtin "len") := by decide +kernel
theorem bt_list : bootBuiltins (Str.ofString "list") = some (.type "list") := by decide +kernel
theorem bt_range : bootBuiltins (Str.ofString "range") = some (.type "range") := by decide +kernel
theorem bt_str : bootBuiltins (Str.ofString "str") = some (.type "str") := by decide +kernel
theorem bt_tuple : bootBuiltins (Str.ofString "tuple") = some (.type "tuple") := by decide +kernel
structure Tx (K : Fr) (mg : Str → Option Value) : Prop where
  b_abs : mg (Str.ofString "abs") = none
  b_enumerate : mg (Str.ofString "enumerate") = none
  b_int : mg (Str.ofString "int") = none
  b_isinstance : mg (Str.ofString "isinstance") = none
  b_len : mg (Str.ofString "len") = none
  b_list : mg (Str.ofString "list") = none
  b_range : mg (Str.ofString "range") = none
  b_str : mg (Str.ofString "str") = none
  b_tuple : mg (Str.ofString "tuple") = none
def gT_SIGNS : List (Str × Str) := [(Str.ofString "plus", Str.ofString "+"), (Str.ofString "less", Str.ofString "-"), (Str.ofString "times", Str.ofString "*"), (Str.ofString "over", Str.ofString "/"), (Str.ofString "rest", Str.ofString ":"), (Str.ofString "under", Str.ofString "<"), (Str.ofString "same", Str.ofString "=")]
theorem gTok_SIGNS : (gT_SIGNS.all fun p => PyData.strOk p.2) = true := by decide +kernel
structure Tab (P : Program) (w : World) (K : Fr) (mg : Str → Option Value) (base : Heap) (Φ : Ph) (k : Nat) : Prop where
  t_expression_text : FnT P w K mg base Φ k "expression_text"
  t_row_texts : FnT P w K mg base Φ k "row_texts"
  t_all_texts : FnT P w K mg base Φ k "all_texts"
  t_book_text : FnT P w K mg base Φ k "book_text"
  t__law_cells : FnT P w K mg base Φ k "_law_cells"
  t__law_pool : FnT P w K mg base Φ k "_law_pool"
  t__law_take : FnT P w K mg base Φ k "_law_take"
  t__law_some : FnT P w K mg base Φ k "_law_some"
  t__law_value : FnT P w K mg base Φ k "_law_value"
  t__law_expression : FnT P w K mg base Φ k "_law_expression"
  t__law_call : FnT P w K mg base Φ k "_law_call"
  t__law_row : FnT P w K mg base Φ k "_law_row"
  t__law_rows : FnT P w K mg base Φ k "_law_rows"
  t__law_book : FnT P w K mg base Φ k "_law_book"
  t__law_written : FnT P w K mg base Φ k "_law_written"
  t__law_row_texts : FnT P w K mg base Φ k "_law_row_texts"
  t__law_texts : FnT P w K mg base Φ k "_law_texts"
  t__law_book_texts : FnT P w K mg base Φ k "_law_book_texts"
  t_law : FnT P w K mg base Φ k "law"
  d_SIGNS : GDict P w K mg "SIGNS" gT_SIGNS
abbrev s_expression_text : Stmt := top 2
abbrev N_expression_text : List Str := [Str.ofString "expression", Str.ofString "word"]
abbrev ps_expression_text : List Str := [Str.ofString "expression"]
theorem sc_expression_text : FnScope N_expression_text ps_expression_text (defScope s_expression_text) := ⟨rfl, rfl, rfl, by decide +kernel, rfl, by decide +kernel, by decide +kernel⟩
theorem vi_expression_text_0 : Vis (defScope s_expression_text) (Str.ofString "expression") := .inl (by decide +kernel)
theorem lo_expression_text_0 : Loc (defScope s_expression_text) (Str.ofString "expression") := .inl (by decide +kernel)
theorem ll_expression_text_0 : (defScope s_expression_text).names.lookup (Str.ofString "expression") = some .local := by decide +kernel
theorem vi_expression_text_1 : Vis (defScope s_expression_text) (Str.ofString "word") := .inl (by decide +kernel)
theorem lo_expression_text_1 : Loc (defScope s_expression_text) (Str.ofString "word") := .inl (by decide +kernel)
theorem ll_expression_text_1 : (defScope s_expression_text).names.lookup (Str.ofString "word") = some .local := by decide +kernel
theorem gl_expression_text_SIGNS : (defScope s_expression_text).names.lookup (Str.ofString "SIGNS") = some .globalImplicit := by decide +kernel
theorem gl_expression_text_expression_text : (defScope s_expression_text).names.lookup (Str.ofString "expression_text") = some .globalImplicit := by decide +kernel
theorem gl_expression_text_str : (defScope s_expression_text).names.lookup (Str.ofString "str") = some .globalImplicit := by decide +kernel
theorem b_expression_text {P : Program} {w : World} {K : Fr} {mg : Str → Option Value} {base : Heap} {n k : Nat} (T : Tx K mg) (Tn : Tab P w K mg base (phi PR n) k) (cdv : Value) (A : Around) (outer : List PySem.Env) (s : Shared) (H : Hp) (E : XK) {a : Addr} (hr : Room k (A.deeper (envOfC (Str.ofString "expression_text") (defScope s_expression_text) s.heap.objs.size a cdv))) :
    SB (cxOf (L2.CX P w) P w K mg base N_expression_text (Str.ofString "expression_text") (defScope s_expression_text) a cdv A outer s H E) (phi PR n) (fun cls d _ H => E cls d H) (defBody s_expression_text) D.expression_text.body := by
  have hΦ := phi_mono PR n
  have hu := roomH_of hr
  exact (sb_cons hΦ (ss_asg (i := 1) hΦ sc_expression_text.nd rfl (lo_expression_text_1) (se_ix hΦ hu (se_vB 0 rfl vi_expression_text_0 dd_expression dc_expression) se_int) rfl (.inl rfl))
  (sb_cons hΦ (ss_ite hΦ (st_eq hΦ hu .eq (se_vB 1 rfl vi_expression_text_1 dd_word dc_word) (se_str (strOk_of "number"))) (sb_one (ss_ret hΦ (se_strI hΦ gl_expression_text_str T.b_str bt_str (by decide) dd_str (se_ix hΦ hu (se_vB 0 rfl vi_expression_text_0 dd_expression dc_expression) se_int)))) sb_nil)
  (sb_cons hΦ (ss_ite hΦ (st_eq hΦ hu .eq (se_vB 1 rfl vi_expression_text_1 dd_word dc_word) (se_str (strOk_of "name"))) (sb_one (ss_ret hΦ (se_ix hΦ hu (se_vB 0 rfl vi_expression_text_0 dd_expression dc_expression) se_int))) sb_nil)
  (sb_one (ss_ret hΦ (se_bin hΦ .add (se_bin hΦ .add (se_bin hΦ .add (se_bin hΦ .add (se_str (strOk_of "(")) (se_call (f := "expression_text") (m := .val) hΦ Tn.t_expression_text hr (takes_of rfl rfl rfl rfl) gl_expression_text_expression_text (sa_cons hΦ (se_ix hΦ hu (se_vB 0 rfl vi_expression_text_0 dd_expression dc_expression) se_int) sa_nil) dd_expression_text)) (se_gix (T := gT_SIGNS) hΦ Tn.d_SIGNS gTok_SIGNS gl_expression_text_SIGNS dd_SIGNS (se_vB 1 rfl vi_expression_text_1 dd_word dc_word))) (se_call (f := "expression_text") (m := .val) hΦ Tn.t_expression_text hr (takes_of rfl rfl rfl rfl) gl_expression_text_expression_text (sa_cons hΦ (se_ix hΦ hu (se_vB 0 rfl vi_expression_text_0 dd_expression dc_expression) se_int) sa_nil) dd_expression_text)) (se_str (strOk_of ")"))))))))
abbrev s_row_texts : Stmt := top 3
abbrev N_row_texts : List Str := [Str.ofString "row", Str.ofString "word", Str.ofString "first", Str.ofString "arg"]
abbrev ps_row_texts : List Str := [Str.ofString "row"]
theorem sc_row_texts : FnScope N_row_texts ps_row_texts (defScope s_row_texts) := ⟨rfl, rfl, rfl, by decide +kernel, rfl, by decide +kernel, by decide +kernel⟩
theorem vi_row_texts_0 : Vis (defScope s_row_texts) (Str.ofString "row") := .inl (by decide +kernel)
theorem lo_row_texts_0 : Loc (defScope s_row_texts) (Str.ofString "row") := .inl (by decide +kernel)
theorem ll_row_texts_0 : (defScope s_row_texts).names.lookup (Str.ofString "row") = some .local := by decide +kernel
theorem vi_row_texts_1 : Vis (defScope s_row_texts) (Str.ofString "word") := .inl (by decide +kernel)
theorem lo_row_texts_1 : Loc (defScope s_row_texts) (Str.ofString "word") := .inl (by decide +kernel)
theorem ll_row_texts_1 : (defScope s_row_texts).names.lookup (Str.ofString "word") = some .local := by decide +kernel
theorem vi_row_texts_2 : Vis (defScope s_row_texts) (Str.ofString "first") := .inl (by decide +kernel)
theorem lo_row_texts_2 : Loc (defScope s_row_texts) (Str.ofString "first") := .inl (by decide +kernel)
theorem ll_row_texts_2 : (defScope s_row_texts).names.lookup (Str.ofString "first") = some .local := by decide +kernel
theorem gl_row_texts_all_texts : (defScope s_row_texts).names.lookup (Str.ofString "all_texts") = some .globalImplicit := by decide +kernel
theorem gl_row_texts_expression_text : (defScope s_row_texts).names.lookup (Str.ofString "expression_text") = some .globalImplicit := by decide +kernel
theorem gl_row_texts_str : (defScope s_row_texts).names.lookup (Str.ofString "str") = some .globalImplicit := by decide +kernel
theorem b_row_texts {P : Program} {w : World} {K : Fr} {mg : Str → Option Value} {base : Heap} {n k : Nat} (T : Tx K mg) (Tn : Tab P w K mg base (phi PR n) k) (cdv : Value) (A : Around) (outer : List PySem.Env) (s : Shared) (H : Hp) (E : XK) {a : Addr} (hr : Room k (A.deeper (envOfC (Str.ofString "row_texts") (defScope s_row_texts) s.heap.objs.size a cdv))) :
    SB (cxOf (L2.CX P w) P w K mg base N_row_texts (Str.ofString "row_texts") (defScope s_row_texts) a cdv A outer s H E) (phi PR n) (fun cls d _ H => E cls d H) (defBody s_row_texts) D.row_texts.body := by
  have hΦ := phi_mono PR n
  have hu := roomH_of hr
  exact (sb_cons hΦ (ss_asg (i := 1) hΦ sc_row_texts.nd rfl (lo_row_texts_1) (se_ix hΦ hu (se_vB 0 rfl vi_row_texts_0 dd_row dc_row) se_int) rfl (.inl rfl))
  (sb_cons hΦ (ss_ite hΦ (st_eq hΦ hu .eq (se_vB 1 rfl vi_row_texts_1 dd_word dc_word) (se_str (strOk_of "set"))) (sb_one (ss_ret hΦ (SF.val hΦ (sf_lst hΦ (sa_cons hΦ (se_bin hΦ .add (se_bin hΦ .add (se_bin hΦ .add (se_str (strOk_of "set ")) (se_ix hΦ hu (se_vB 0 rfl vi_row_texts_0 dd_row dc_row) se_int)) (se_str (strOk_of " "))) (se_call (f := "expression_text") (m := .val) hΦ Tn.t_expression_text hr (takes_of rfl rfl rfl rfl) gl_row_texts_expression_text (sa_cons hΦ (se_ix hΦ hu (se_vB 0 rfl vi_row_texts_0 dd_row dc_row) se_int) sa_nil) dd_expression_text)) sa_nil))))) sb_nil)
  (sb_cons hΦ (ss_ite hΦ (st_eq hΦ hu .eq (se_vB 1 rfl vi_row_texts_1 dd_word dc_word) (se_str (strOk_of "call"))) (sb_one (ss_ret hΦ (SF.val hΦ (sf_lst hΦ (sa_cons hΦ (se_join hΦ (strOk_of " ") (se_bin hΦ .add (SF.val hΦ (sf_lst hΦ (sa_cons hΦ (se_str (strOk_of "call")) (sa_cons hΦ (se_ix hΦ hu (se_vB 0 rfl vi_row_texts_0 dd_row dc_row) se_int) (sa_cons hΦ (se_ix hΦ hu (se_vB 0 rfl vi_row_texts_0 dd_row dc_row) se_int) (sa_cons hΦ (se_strI hΦ gl_row_texts_str T.b_str bt_str (by decide) dd_str (se_ix hΦ hu (se_vB 0 rfl vi_row_texts_0 dd_row dc_row) se_int)) sa_nil)))))) (SF.val hΦ (sf_comp (own := [("arg", 3)]) (t := (.n 3)) (e := (.call "expression_text" .val (.cons (.v 3) .nil))) (cond := (.c (.bl true))) hΦ rfl sc_row_texts.nd (si_e hΦ (se_ix hΦ hu (se_vB 0 rfl vi_row_texts_0 dd_row dc_row) se_int)) (blkOk_by (N := N_row_texts) (sc := defScope s_row_texts) (by decide +kernel)) (fun _ _ _ _ _ => (pg_name (i := 3) sc_row_texts.nd rfl (.inl rfl) (by first | exact .inr rfl | exact .inl rfl))) (fun _ _ _ _ _ => pts_yes) (fun _ _ _ _ _ => (se_call (f := "expression_text") (m := .val) hΦ Tn.t_expression_text hr takes0 (by first | rfl | kernel_rfl) (sa_cons hΦ (se_vB 3 rfl (by first | exact .inl rfl | exact .inr (.inl rfl) | exact .inr (.inr rfl)) dd_arg dc_arg) sa_nil) dd_expression_text)) (by decide))))) sa_nil))))) sb_nil)
  (sb_cons hΦ (ss_asg (i := 2) hΦ sc_row_texts.nd rfl (lo_row_texts_2) (se_bin hΦ .add (se_bin hΦ .add (se_vB 1 rfl vi_row_texts_1 dd_word dc_word) (se_str (strOk_of " "))) (se_call (f := "expression_text") (m := .val) hΦ Tn.t_expression_text hr (takes_of rfl rfl rfl rfl) gl_row_texts_expression_text (sa_cons hΦ (se_ix hΦ hu (se_vB 0 rfl vi_row_texts_0 dd_row dc_row) se_int) sa_nil) dd_expression_text)) rfl (.inl rfl))
  (sb_cons hΦ (ss_ite hΦ (st_eq hΦ hu .eq (se_vB 1 rfl vi_row_texts_1 dd_word dc_word) (se_str (strOk_of "say"))) (sb_one (ss_ret hΦ (SF.val hΦ (sf_lst hΦ (sa_cons hΦ (se_vB 2 rfl vi_row_texts_2 dd_first dc_first) sa_nil))))) sb_nil)
  (sb_cons hΦ (ss_ite hΦ (st_eq hΦ hu .eq (se_vB 1 rfl vi_row_texts_1 dd_word dc_word) (se_str (strOk_of "turn"))) (sb_one (ss_ret hΦ (se_bin hΦ .add (se_bin hΦ .add (SF.val hΦ (sf_lst hΦ (sa_cons hΦ (se_vB 2 rfl vi_row_texts_2 dd_first dc_first) sa_nil))) (se_call (f := "all_texts") (m := .val) hΦ Tn.t_all_texts hr (takes_of rfl rfl rfl rfl) gl_row_texts_all_texts (sa_cons hΦ (se_ix hΦ hu (se_vB 0 rfl vi_row_texts_0 dd_row dc_row) se_int) sa_nil) dd_all_texts)) (SF.val hΦ (sf_lst hΦ (sa_cons hΦ (se_str (strOk_of "end")) sa_nil)))))) sb_nil)
  (sb_one (ss_ret hΦ (se_bin hΦ .add (se_bin hΦ .add (se_bin hΦ .add (se_bin hΦ .add (SF.val hΦ (sf_lst hΦ (sa_cons hΦ (se_vB 2 rfl vi_row_texts_2 dd_first dc_first) sa_nil))) (se_call (f := "all_texts") (m := .val) hΦ Tn.t_all_texts hr (takes_of rfl rfl rfl rfl) gl_row_texts_all_texts (sa_cons hΦ (se_ix hΦ hu (se_vB 0 rfl vi_row_texts_0 dd_row dc_row) se_int) sa_nil) dd_all_texts)) (SF.val hΦ (sf_lst hΦ (sa_cons hΦ (se_str (strOk_of "else")) sa_nil)))) (se_call (f := "all_texts") (m := .val) hΦ Tn.t_all_texts hr (takes_of rfl rfl rfl rfl) gl_row_texts_all_texts (sa_cons hΦ (se_ix hΦ hu (se_vB 0 rfl vi_row_texts_0 dd_row dc_row) se_int) sa_nil) dd_all_texts)) (SF.val hΦ (sf_lst hΦ (sa_cons hΦ (se_str (strOk_of "end")) sa_nil))))))))))))
abbrev s_all_texts : Stmt := top 4
abbrev N_all_texts : List Str := [Str.ofString "rows", Str.ofString "found", Str.ofString "row"]
abbrev ps_all_texts : List Str := [Str.ofString "rows"]
theorem sc_all_texts : FnScope N_all_texts ps_all_texts (defScope s_all_texts) := ⟨rfl, rfl, rfl, by decide +kernel, rfl, by decide +kernel, by decide +kernel⟩
theorem vi_all_texts_0 : Vis (defScope s_all_texts) (Str.ofString "rows") := .inl (by decide +kernel)
theorem lo_all_texts_0 : Loc (defScope s_all_texts) (Str.ofString "rows") := .inl (by decide +kernel)
theorem ll_all_texts_0 : (defScope s_all_texts).names.lookup (Str.ofString "rows") = some .local := by decide +kernel
theorem vi_all_texts_1 : Vis (defScope s_all_texts) (Str.ofString "found") := .inl (by decide +kernel)
theorem lo_all_texts_1 : Loc (defScope s_all_texts) (Str.ofString "found") := .inl (by decide +kernel)
theorem ll_all_texts_1 : (defScope s_all_texts).names.lookup (Str.ofString "found") = some .local := by decide +kernel
theorem vi_all_texts_2 : Vis (defScope s_all_texts) (Str.ofString "row") := .inl (by decide +kernel)
theorem lo_all_texts_2 : Loc (defScope s_all_texts) (Str.ofString "row") := .inl (by decide +kernel)
theorem ll_all_texts_2 : (defScope s_all_texts).names.lookup (Str.ofString "row") = some .local := by decide +kernel
theorem gl_all_texts_row_texts : (defScope s_all_texts).names.lookup (Str.ofString "row_texts") = some .globalImplicit := by decide +kernel
theorem b_all_texts {P : Program} {w : World} {K : Fr} {mg : Str → Option Value} {base : Heap} {n k : Nat} (T : Tx K mg) (Tn : Tab P w K mg base (phi PR n) k) (cdv : Value) (A : Around) (outer : List PySem.Env) (s : Shared) (H : Hp) (E : XK) {a : Addr} (hr : Room k (A.deeper (envOfC (Str.ofString "all_texts") (defScope s_all_texts) s.heap.objs.size a cdv))) :
    SB (cxOf (L2.CX P w) P w K mg base N_all_texts (Str.ofString "all_texts") (defScope s_all_texts) a cdv A outer s H E) (phi PR n) (fun cls d _ H => E cls d H) (defBody s_all_texts) D.all_texts.body := by
  have hΦ := phi_mono PR n
  have hu := roomH_of hr
  exact (sb_cons hΦ (ss_asg (i := 1) hΦ sc_all_texts.nd rfl (lo_all_texts_1) (SF.new hΦ (sf_lst hΦ sa_nil)) rfl (.inl rfl))
  (sb_cons hΦ (ss_for (t := (.n 2)) hΦ (passes_of rfl) rfl (si_e hΦ (se_vB 0 rfl vi_all_texts_0 dd_rows dc_rows)) (pg_name (i := 2) sc_all_texts.nd rfl (lo_all_texts_2) (.inl rfl)) (sb_one (ss_ex hΦ (se_extend hΦ (se_vB 1 rfl vi_all_texts_1 dd_found dc_found) (se_call (f := "row_texts") (m := .val) hΦ Tn.t_row_texts hr (takes_of rfl rfl rfl rfl) gl_all_texts_row_texts (sa_cons hΦ (se_vB 2 rfl vi_all_texts_2 dd_row dc_row) sa_nil) dd_row_texts)))))
  (sb_one (ss_ret hΦ (se_vB 1 rfl vi_all_texts_1 dd_found dc_found)))))
abbrev s_book_text : Stmt := top 5
abbrev N_book_text : List Str := [Str.ofString "book", Str.ofString "found", Str.ofString "name", Str.ofString "params", Str.ofString "rows", Str.ofString "give"]
abbrev ps_book_text : List Str := [Str.ofString "book"]
theorem sc_book_text : FnScope N_book_text ps_book_text (defScope s_book_text) := ⟨rfl, rfl, rfl, by decide +kernel, rfl, by decide +kernel, by decide +kernel⟩
theorem vi_book_text_0 : Vis (defScope s_book_text) (Str.ofString "book") := .inl (by decide +kernel)
theorem lo_book_text_0 : Loc (defScope s_book_text) (Str.ofString "book") := .inl (by decide +kernel)
theorem ll_book_text_0 : (defScope s_book_text).names.lookup (Str.ofString "book") = some .local := by decide +kernel
theorem vi_book_text_1 : Vis (defScope s_book_text) (Str.ofString "found") := .inl (by decide +kernel)
theorem lo_book_text_1 : Loc (defScope s_book_text) (Str.ofString "found") := .inl (by decide +kernel)
theorem ll_book_text_1 : (defScope s_book_text).names.lookup (Str.ofString "found") = some .local := by decide +kernel
theorem vi_book_text_2 : Vis (defScope s_book_text) (Str.ofString "name") := .inl (by decide +kernel)
theorem lo_book_text_2 : Loc (defScope s_book_text) (Str.ofString "name") := .inl (by decide +kernel)
theorem ll_book_text_2 : (defScope s_book_text).names.lookup (Str.ofString "name") = some .local := by decide +kernel
theorem vi_book_text_3 : Vis (defScope s_book_text) (Str.ofString "params") := .inl (by decide +kernel)
theorem lo_book_text_3 : Loc (defScope s_book_text) (Str.ofString "params") := .inl (by decide +kernel)
theorem ll_book_text_3 : (defScope s_book_text).names.lookup (Str.ofString "params") = some .local := by decide +kernel
theorem vi_book_text_4 : Vis (defScope s_book_text) (Str.ofString "rows") := .inl (by decide +kernel)
theorem lo_book_text_4 : Loc (defScope s_book_text) (Str.ofString "rows") := .inl (by decide +kernel)
theorem ll_book_text_4 : (defScope s_book_text).names.lookup (Str.ofString "rows") = some .local := by decide +kernel
theorem vi_book_text_5 : Vis (defScope s_book_text) (Str.ofString "give") := .inl (by decide +kernel)
theorem lo_book_text_5 : Loc (defScope s_book_text) (Str.ofString "give") := .inl (by decide +kernel)
theorem ll_book_text_5 : (defScope s_book_text).names.lookup (Str.ofString "give") = some .local := by decide +kernel
theorem gl_book_text_all_texts : (defScope s_book_text).names.lookup (Str.ofString "all_texts") = some .globalImplicit := by decide +kernel
theorem gl_book_text_expression_text : (defScope s_book_text).names.lookup (Str.ofString "expression_text") = some .globalImplicit := by decide +kernel
theorem gl_book_text_list : (defScope s_book_text).names.lookup (Str.ofString "list") = some .globalImplicit := by decide +kernel
theorem b_book_text {P : Program} {w : World} {K : Fr} {mg : Str → Option Value} {base : Heap} {n k : Nat} (T : Tx K mg) (Tn : Tab P w K mg base (phi PR n) k) (cdv : Value) (A : Around) (outer : List PySem.Env) (s : Shared) (H : Hp) (E : XK) {a : Addr} (hr : Room k (A.deeper (envOfC (Str.ofString "book_text") (defScope s_book_text) s.heap.objs.size a cdv))) :
    SB (cxOf (L2.CX P w) P w K mg base N_book_text (Str.ofString "book_text") (defScope s_book_text) a cdv A outer s H E) (phi PR n) (fun cls d _ H => E cls d H) (defBody s_book_text) D.book_text.body := by
  have hΦ := phi_mono PR n
  have hu := roomH_of hr
  exact (sb_cons hΦ (ss_asg (i := 1) hΦ sc_book_text.nd rfl (lo_book_text_1) (SF.new hΦ (sf_lst hΦ sa_nil)) rfl (.inl rfl))
  (sb_cons hΦ (ss_for (t := (.t [(.n 2), (.n 3), (.n 4), (.n 5)])) hΦ (passes_of rfl) rfl (si_e hΦ (se_vB 0 rfl vi_book_text_0 dd_book dc_book)) (pg_seq rfl (pgs_cons (pg_name (i := 2) sc_book_text.nd rfl (lo_book_text_2) (.inl rfl)) (pgs_cons (pg_name (i := 3) sc_book_text.nd rfl (lo_book_text_3) (.inl rfl)) (pgs_cons (pg_name (i := 4) sc_book_text.nd rfl (lo_book_text_4) (.inl rfl)) (pgs_cons (pg_name (i := 5) sc_book_text.nd rfl (lo_book_text_5) (.inl rfl)) pgs_nil))))) (sb_cons hΦ (ss_ex hΦ (se_append hΦ (se_vB 1 rfl vi_book_text_1 dd_found dc_found) (se_join hΦ (strOk_of " ") (se_bin hΦ .add (SF.val hΦ (sf_lst hΦ (sa_cons hΦ (se_str (strOk_of "deed")) (sa_cons hΦ (se_vB 2 rfl vi_book_text_2 dd_name dc_name) sa_nil)))) (SF.val hΦ (sf_list hΦ gl_book_text_list T.b_list bt_list (by decide) dd_list (se_vB 3 rfl vi_book_text_3 dd_params dc_params)))))))
  (sb_cons hΦ (ss_ex hΦ (se_extend hΦ (se_vB 1 rfl vi_book_text_1 dd_found dc_found) (se_call (f := "all_texts") (m := .val) hΦ Tn.t_all_texts hr (takes_of rfl rfl rfl rfl) gl_book_text_all_texts (sa_cons hΦ (se_vB 4 rfl vi_book_text_4 dd_rows dc_rows) sa_nil) dd_all_texts)))
  (sb_one (ss_ex hΦ (se_append hΦ (se_vB 1 rfl vi_book_text_1 dd_found dc_found) (se_bin hΦ .add (se_str (strOk_of "give ")) (se_call (f := "expression_text") (m := .val) hΦ Tn.t_expression_text hr (takes_of rfl rfl rfl rfl) gl_book_text_expression_text (sa_cons hΦ (se_vB 5 rfl vi_book_text_5 dd_give dc_give) sa_nil) dd_expression_text))))))))
  (sb_one (ss_ret hΦ (se_join hΦ (strOk_of "\n") (se_vB 1 rfl vi_book_text_1 dd_found dc_found))))))
abbrev s__law_cells : Stmt := top 7
abbrev N__law_cells : List Str := [Str.ofString "script", Str.ofString "many", Str.ofString "cells", Str.ofString "k", Str.ofString "cell"]
abbrev ps__law_cells : List Str := [Str.ofString "script", Str.ofString "many"]
theorem sc__law_cells : FnScope N__law_cells ps__law_cells (defScope s__law_cells) := ⟨rfl, rfl, rfl, by decide +kernel, rfl, by decide +kernel, by decide +kernel⟩
theorem vi__law_cells_0 : Vis (defScope s__law_cells) (Str.ofString "script") := .inl (by decide +kernel)
theorem lo__law_cells_0 : Loc (defScope s__law_cells) (Str.ofString "script") := .inl (by decide +kernel)
theorem ll__law_cells_0 : (defScope s__law_cells).names.lookup (Str.ofString "script") = some .local := by decide +kernel
theorem vi__law_cells_1 : Vis (defScope s__law_cells) (Str.ofString "many") := .inl (by decide +kernel)
theorem lo__law_cells_1 : Loc (defScope s__law_cells) (Str.ofString "many") := .inl (by decide +kernel)
theorem ll__law_cells_1 : (defScope s__law_cells).names.lookup (Str.ofString "many") = some .local := by decide +kernel
theorem vi__law_cells_2 : Vis (defScope s__law_cells) (Str.ofString "cells") := .inl (by decide +kernel)
theorem lo__law_cells_2 : Loc (defScope s__law_cells) (Str.ofString "cells") := .inl (by decide +kernel)
theorem ll__law_cells_2 : (defScope s__law_cells).names.lookup (Str.ofString "cells") = some .local := by decide +kernel
theorem vi__law_cells_3 : Vis (defScope s__law_cells) (Str.ofString "k") := .inl (by decide +kernel)
theorem lo__law_cells_3 : Loc (defScope s__law_cells) (Str.ofString "k") := .inl (by decide +kernel)
theorem ll__law_cells_3 : (defScope s__law_cells).names.lookup (Str.ofString "k") = some .local := by decide +kernel
theorem vi__law_cells_4 : Vis (defScope s__law_cells) (Str.ofString "cell") := .inl (by decide +kernel)
theorem lo__law_cells_4 : Loc (defScope s__law_cells) (Str.ofString "cell") := .inl (by decide +kernel)
theorem ll__law_cells_4 : (defScope s__law_cells).names.lookup (Str.ofString "cell") = some .local := by decide +kernel
theorem gl__law_cells_enumerate : (defScope s__law_cells).names.lookup (Str.ofString "enumerate") = some .globalImplicit := by decide +kernel
theorem gl__law_cells_list : (defScope s__law_cells).names.lookup (Str.ofString "list") = some .globalImplicit := by decide +kernel
theorem b__law_cells {P : Program} {w : World} {K : Fr} {mg : Str → Option Value} {base : Heap} {n k : Nat} (T : Tx K mg) (Tn : Tab P w K mg base (phi PR n) k) (cdv : Value) (A : Around) (outer : List PySem.Env) (s : Shared) (H : Hp) (E : XK) {a : Addr} (hr : Room k (A.deeper (envOfC (Str.ofString "_law_cells") (defScope s__law_cells) s.heap.objs.size a cdv))) :
    SB (cxOf (L2.CX P w) P w K mg base N__law_cells (Str.ofString "_law_cells") (defScope s__law_cells) a cdv A outer s H E) (phi PR n) (fun cls d _ H => E cls d H) (defBody s__law_cells) D._law_cells.body := by
  have hΦ := phi_mono PR n
  have hu := roomH_of hr
  exact (sb_cons hΦ (ss_asg (i := 2) hΦ sc__law_cells.nd rfl (lo__law_cells_2) (SF.new hΦ (sf_list hΦ gl__law_cells_list T.b_list bt_list (by decide) dd_list (se_sl hΦ (se_vB 0 rfl vi__law_cells_0 dd_script dc_script) so_none (so_some hΦ (se_vB 1 rfl vi__law_cells_1 dd_many dc_many))))) rfl (.inl rfl))
  (sb_cons hΦ (ss_for (t := (.t [(.n 3), (.n 4)])) hΦ (passes_of rfl) rfl (si_enum hΦ gl__law_cells_enumerate T.b_enumerate (se_sl hΦ (se_vB 0 rfl vi__law_cells_0 dd_script dc_script) (so_some hΦ (se_vB 1 rfl vi__law_cells_1 dd_many dc_many)) (so_some hΦ se_int))) (pg_seq rfl (pgs_cons (pg_name (i := 3) sc__law_cells.nd rfl (lo__law_cells_3) (.inl rfl)) (pgs_cons (pg_name (i := 4) sc__law_cells.nd rfl (lo__law_cells_4) (.inl rfl)) pgs_nil))) (sb_one (ss_setix hu hΦ (se_bin hΦ .add (se_bin hΦ .mul (se_ix hΦ hu (se_vB 2 rfl vi__law_cells_2 dd_cells dc_cells) (se_bin hΦ .mod (se_vB 3 rfl vi__law_cells_3 dd_k dc_k) (se_vB 1 rfl vi__law_cells_1 dd_many dc_many))) se_int) (se_vB 4 rfl vi__law_cells_4 dd_cell dc_cell)) (se_vB 2 rfl vi__law_cells_2 dd_cells dc_cells) (se_bin hΦ .mod (se_vB 3 rfl vi__law_cells_3 dd_k dc_k) (se_vB 1 rfl vi__law_cells_1 dd_many dc_many)))))
  (sb_one (ss_ret hΦ (se_vB 2 rfl vi__law_cells_2 dd_cells dc_cells)))))
abbrev s__law_pool : Stmt := top 8
abbrev N__law_pool : List Str := [Str.ofString "cells", Str.ofString "k", Str.ofString "cell", Str.ofString "rest"]
abbrev ps__law_pool : List Str := [Str.ofString "cells", Str.ofString "k"]
theorem sc__law_pool : FnScope N__law_pool ps__law_pool (defScope s__law_pool) := ⟨rfl, rfl, rfl, by decide +kernel, rfl, by decide +kernel, by decide +kernel⟩
theorem vi__law_pool_0 : Vis (defScope s__law_pool) (Str.ofString "cells") := .inl (by decide +kernel)
theorem lo__law_pool_0 : Loc (defScope s__law_pool) (Str.ofString "cells") := .inl (by decide +kernel)
theorem ll__law_pool_0 : (defScope s__law_pool).names.lookup (Str.ofString "cells") = some .local := by decide +kernel
theorem vi__law_pool_1 : Vis (defScope s__law_pool) (Str.ofString "k") := .inl (by decide +kernel)
theorem lo__law_pool_1 : Loc (defScope s__law_pool) (Str.ofString "k") := .inl (by decide +kernel)
theorem ll__law_pool_1 : (defScope s__law_pool).names.lookup (Str.ofString "k") = some .local := by decide +kernel
theorem vi__law_pool_2 : Vis (defScope s__law_pool) (Str.ofString "cell") := .inl (by decide +kernel)
theorem lo__law_pool_2 : Loc (defScope s__law_pool) (Str.ofString "cell") := .inl (by decide +kernel)
theorem ll__law_pool_2 : (defScope s__law_pool).names.lookup (Str.ofString "cell") = some .local := by decide +kernel
theorem vi__law_pool_3 : Vis (defScope s__law_pool) (Str.ofString "rest") := .inl (by decide +kernel)
theorem lo__law_pool_3 : Loc (defScope s__law_pool) (Str.ofString "rest") := .inl (by decide +kernel)
theorem ll__law_pool_3 : (defScope s__law_pool).names.lookup (Str.ofString "rest") = some .local := by decide +kernel
theorem gl__law_pool_abs : (defScope s__law_pool).names.lookup (Str.ofString "abs") = some .globalImplicit := by decide +kernel
theorem gl__law_pool_len : (defScope s__law_pool).names.lookup (Str.ofString "len") = some .globalImplicit := by decide +kernel
theorem b__law_pool {P : Program} {w : World} {K : Fr} {mg : Str → Option Value} {base : Heap} {n k : Nat} (T : Tx K mg) (Tn : Tab P w K mg base (phi PR n) k) (cdv : Value) (A : Around) (outer : List PySem.Env) (s : Shared) (H : Hp) (E : XK) {a : Addr} (hr : Room k (A.deeper (envOfC (Str.ofString "_law_pool") (defScope s__law_pool) s.heap.objs.size a cdv))) :
    SB (cxOf (L2.CX P w) P w K mg base N__law_pool (Str.ofString "_law_pool") (defScope s__law_pool) a cdv A outer s H E) (phi PR n) (fun cls d _ H => E cls d H) (defBody s__law_pool) D._law_pool.body := by
  have hΦ := phi_mono PR n
  have hu := roomH_of hr
  exact (sb_cons hΦ (ss_asg (i := 2) hΦ sc__law_pool.nd rfl (lo__law_pool_2) se_int rfl (.inl rfl))
  (sb_cons hΦ (ss_ite hΦ (st_cmp hΦ .gt (se_len hΦ gl__law_pool_len T.b_len bt_len (by decide) dd_len (se_vB 0 rfl vi__law_pool_0 dd_cells dc_cells)) se_int) (sb_one (ss_asg (i := 2) hΦ sc__law_pool.nd rfl (lo__law_pool_2) (se_bin hΦ .add (se_ix hΦ hu (se_vB 0 rfl vi__law_pool_0 dd_cells dc_cells) (se_bin hΦ .mod (se_vB 1 rfl vi__law_pool_1 dd_k dc_k) (se_len hΦ gl__law_pool_len T.b_len bt_len (by decide) dd_len (se_vB 0 rfl vi__law_pool_0 dd_cells dc_cells)))) (se_bin hΦ .fdiv (se_vB 1 rfl vi__law_pool_1 dd_k dc_k) (se_len hΦ gl__law_pool_len T.b_len bt_len (by decide) dd_len (se_vB 0 rfl vi__law_pool_0 dd_cells dc_cells)))) rfl (.inl rfl))) sb_nil)
  (sb_cons hΦ (ss_asg (i := 3) hΦ sc__law_pool.nd rfl (lo__law_pool_3) se_int rfl (.inl rfl))
  (sb_cons hΦ (ss_ite hΦ (SW.t (sw_or hΦ (st_cmp hΦ .lt (se_vB 2 rfl vi__law_pool_2 dd_cell dc_cell) se_int) (sw_or1 (st_cmp hΦ .ge (se_vB 2 rfl vi__law_pool_2 dd_cell dc_cell) (se_bin hΦ .pow se_int se_int))))) (sb_one (ss_asg (i := 3) hΦ sc__law_pool.nd rfl (lo__law_pool_3) (se_abs hΦ gl__law_pool_abs T.b_abs bt_abs (by decide) dd_abs (se_vB 2 rfl vi__law_pool_2 dd_cell dc_cell)) rfl (.inl rfl))) sb_nil)
  (sb_one (ss_ret hΦ (SF.new hΦ (sf_lst hΦ (sa_cons hΦ (se_vB 3 rfl vi__law_pool_3 dd_rest dc_rest) (sa_cons hΦ (se_bin hΦ .mod (se_bin hΦ .add (se_bin hΦ .mul (se_bin hΦ .mod (se_vB 2 rfl vi__law_pool_2 dd_cell dc_cell) se_int) se_int) (se_bin hΦ .mul (se_bin hΦ .mul se_int (se_bin hΦ .add (se_vB 1 rfl vi__law_pool_1 dd_k dc_k) se_int)) (se_bin hΦ .add (se_vB 1 rfl vi__law_pool_1 dd_k dc_k) se_int))) se_int) sa_nil))))))))))
abbrev s__law_take : Stmt := top 9
abbrev N__law_take : List Str := [Str.ofString "pool", Str.ofString "many", Str.ofString "found"]
abbrev ps__law_take : List Str := [Str.ofString "pool", Str.ofString "many"]
theorem sc__law_take : FnScope N__law_take ps__law_take (defScope s__law_take) := ⟨rfl, rfl, rfl, by decide +kernel, rfl, by decide +kernel, by decide +kernel⟩
theorem vi__law_take_0 : Vis (defScope s__law_take) (Str.ofString "pool") := .inl (by decide +kernel)
theorem lo__law_take_0 : Loc (defScope s__law_take) (Str.ofString "pool") := .inl (by decide +kernel)
theorem ll__law_take_0 : (defScope s__law_take).names.lookup (Str.ofString "pool") = some .local := by decide +kernel
theorem vi__law_take_1 : Vis (defScope s__law_take) (Str.ofString "many") := .inl (by decide +kernel)
theorem lo__law_take_1 : Loc (defScope s__law_take) (Str.ofString "many") := .inl (by decide +kernel)
theorem ll__law_take_1 : (defScope s__law_take).names.lookup (Str.ofString "many") = some .local := by decide +kernel
theorem vi__law_take_2 : Vis (defScope s__law_take) (Str.ofString "found") := .inl (by decide +kernel)
theorem lo__law_take_2 : Loc (defScope s__law_take) (Str.ofString "found") := .inl (by decide +kernel)
theorem ll__law_take_2 : (defScope s__law_take).names.lookup (Str.ofString "found") = some .local := by decide +kernel
theorem b__law_take {P : Program} {w : World} {K : Fr} {mg : Str → Option Value} {base : Heap} {n k : Nat} (T : Tx K mg) (Tn : Tab P w K mg base (phi PR n) k) (cdv : Value) (A : Around) (outer : List PySem.Env) (s : Shared) (H : Hp) (E : XK) {a : Addr} (hr : Room k (A.deeper (envOfC (Str.ofString "_law_take") (defScope s__law_take) s.heap.objs.size a cdv))) :
    SB (cxOf (L2.CX P w) P w K mg base N__law_take (Str.ofString "_law_take") (defScope s__law_take) a cdv A outer s H E) (phi PR n) (fun cls d _ H => E cls d H) (defBody s__law_take) D._law_take_v2.body := by
  have hΦ := phi_mono PR n
  have hu := roomH_of hr
  exact (sb_cons hΦ (ss_ite hΦ (st_cmp hΦ .gt (se_ix hΦ hu (se_vB 0 rfl vi__law_take_0 dd_pool dc_pool) se_int) se_int) (sb_cons hΦ (ss_asg (i := 2) hΦ sc__law_take.nd rfl (lo__law_take_2) (se_bin hΦ .mod (se_ix hΦ hu (se_vB 0 rfl vi__law_take_0 dd_pool dc_pool) se_int) (se_vB 1 rfl vi__law_take_1 dd_many dc_many)) rfl (.inl rfl))
  (sb_cons hΦ (ss_setix hu hΦ (se_bin hΦ .fdiv (se_ix hΦ hu (se_vB 0 rfl vi__law_take_0 dd_pool dc_pool) se_int) (se_vB 1 rfl vi__law_take_1 dd_many dc_many)) (se_vB 0 rfl vi__law_take_0 dd_pool dc_pool) se_int)
  (sb_one (ss_ret hΦ (se_vB 2 rfl vi__law_take_2 dd_found dc_found))))) sb_nil)
  (sb_cons hΦ (ss_setix hu hΦ (se_bin hΦ .mod (se_bin hΦ .add (se_bin hΦ .mul (se_ix hΦ hu (se_vB 0 rfl vi__law_take_0 dd_pool dc_pool) se_int) se_int) se_int) se_int) (se_vB 0 rfl vi__law_take_0 dd_pool dc_pool) se_int)
  (sb_one (ss_ret hΦ (se_bin hΦ .mod (se_bin hΦ .fdiv (se_bin hΦ .mod (se_bin hΦ .mul (se_bin hΦ .mod (se_bin hΦ .mul (se_ix hΦ hu (se_vB 0 rfl vi__law_take_0 dd_pool dc_pool) se_int) (se_ix hΦ hu (se_vB 0 rfl vi__law_take_0 dd_pool dc_pool) se_int)) se_int) se_int) se_int) se_int) (se_vB 1 rfl vi__law_take_1 dd_many dc_many))))))
abbrev s__law_some : Stmt := top 10
abbrev N__law_some : List Str := [Str.ofString "pool", Str.ofString "menu", Str.ofString "many", Str.ofString "rest", Str.ofString "k"]
abbrev ps__law_some : List Str := [Str.ofString "pool", Str.ofString "menu", Str.ofString "many"]
theorem sc__law_some : FnScope N__law_some ps__law_some (defScope s__law_some) := ⟨rfl, rfl, rfl, by decide +kernel, rfl, by decide +kernel, by decide +kernel⟩
theorem vi__law_some_0 : Vis (defScope s__law_some) (Str.ofString "pool") := .inr (.inl (by decide +kernel))
theorem lo__law_some_0 : Loc (defScope s__law_some) (Str.ofString "pool") := .inr (by decide +kernel)
theorem vi__law_some_1 : Vis (defScope s__law_some) (Str.ofString "menu") := .inl (by decide +kernel)
theorem lo__law_some_1 : Loc (defScope s__law_some) (Str.ofString "menu") := .inl (by decide +kernel)
theorem ll__law_some_1 : (defScope s__law_some).names.lookup (Str.ofString "menu") = some .local := by decide +kernel
theorem vi__law_some_2 : Vis (defScope s__law_some) (Str.ofString "many") := .inl (by decide +kernel)
theorem lo__law_some_2 : Loc (defScope s__law_some) (Str.ofString "many") := .inl (by decide +kernel)
theorem ll__law_some_2 : (defScope s__law_some).names.lookup (Str.ofString "many") = some .local := by decide +kernel
theorem vi__law_some_3 : Vis (defScope s__law_some) (Str.ofString "rest") := .inr (.inl (by decide +kernel))
theorem lo__law_some_3 : Loc (defScope s__law_some) (Str.ofString "rest") := .inr (by decide +kernel)
theorem gl__law_some_list : (defScope s__law_some).names.lookup (Str.ofString "list") = some .globalImplicit := by decide +kernel
theorem gl__law_some_range : (defScope s__law_some).names.lookup (Str.ofString "range") = some .globalImplicit := by decide +kernel
theorem b__law_some {P : Program} {w : World} {K : Fr} {mg : Str → Option Value} {base : Heap} {n k : Nat} (T : Tx K mg) (Tn : Tab P w K mg base (phi PR n) k) (cdv : Value) (A : Around) (outer : List PySem.Env) (s : Shared) (H : Hp) (E : XK) {a : Addr} (hr : Room k (A.deeper (envOfC (Str.ofString "_law_some") (defScope s__law_some) s.heap.objs.size a cdv))) :
    SB (cxOf (L2.CX P w) P w K mg base N__law_some (Str.ofString "_law_some") (defScope s__law_some) a cdv A outer s H E) (phi PR n) (fun cls d _ H => E cls d H) (defBody s__law_some) D._law_some.body := by
  have hΦ := phi_mono PR n
  have hu := roomH_of hr
  exact (sb_cons hΦ (ss_asg (i := 3) hΦ sc__law_some.nd rfl (lo__law_some_3) (SF.new hΦ (sf_list hΦ gl__law_some_list T.b_list bt_list (by decide) dd_list (se_vB 1 rfl vi__law_some_1 dd_menu dc_menu))) rfl (.inl rfl))
  (sb_one (ss_ret hΦ (SF.val hΦ (sf_comp (own := [("k", 4)]) (t := (.n 4)) (e := (.me .pop (.v 3) (.cons (.call "_law_take" .val (.cons (.v 0) (.cons (.bi .len (.cons (.v 3) .nil)) .nil))) .nil))) (cond := (.c (.bl true))) hΦ rfl sc__law_some.nd (si_range hΦ gl__law_some_range T.b_range (se_vB 2 rfl vi__law_some_2 dd_many dc_many)) (blkOk_by (N := N__law_some) (sc := defScope s__law_some) (by decide +kernel)) (fun _ _ _ _ _ => (pg_name (i := 4) sc__law_some.nd rfl (.inl rfl) (by first | exact .inr rfl | exact .inl rfl))) (fun _ _ _ _ _ => pts_yes) (fun _ _ _ _ _ => (se_pop1 hΦ (se_vB 3 rfl (by first | exact .inl rfl | exact .inr (.inl rfl) | exact .inr (.inr rfl)) dd_rest dc_rest) (se_call (f := "_law_take") (m := .val) hΦ Tn.t__law_take hr takes0 (by first | rfl | kernel_rfl) (sa_cons hΦ (se_vB 0 rfl (by first | exact .inl rfl | exact .inr (.inl rfl) | exact .inr (.inr rfl)) dd_pool dc_pool) (sa_cons hΦ (se_len hΦ (by first | rfl | kernel_rfl) T.b_len bt_len (by decide) dd_len (se_vB 3 rfl (by first | exact .inl rfl | exact .inr (.inl rfl) | exact .inr (.inr rfl)) dd_rest dc_rest)) sa_nil)) dd__law_take))) (by decide))))))
abbrev s__law_value : Stmt := top 11
abbrev N__law_value : List Str := [Str.ofString "pool", Str.ofString "way"]
abbrev ps__law_value : List Str := [Str.ofString "pool"]
theorem sc__law_value : FnScope N__law_value ps__law_value (defScope s__law_value) := ⟨rfl, rfl, rfl, by decide +kernel, rfl, by decide +kernel, by decide +kernel⟩
theorem vi__law_value_0 : Vis (defScope s__law_value) (Str.ofString "pool") := .inl (by decide +kernel)
theorem lo__law_value_0 : Loc (defScope s__law_value) (Str.ofString "pool") := .inl (by decide +kernel)
theorem ll__law_value_0 : (defScope s__law_value).names.lookup (Str.ofString "pool") = some .local := by decide +kernel
theorem vi__law_value_1 : Vis (defScope s__law_value) (Str.ofString "way") := .inl (by decide +kernel)
theorem lo__law_value_1 : Loc (defScope s__law_value) (Str.ofString "way") := .inl (by decide +kernel)
theorem ll__law_value_1 : (defScope s__law_value).names.lookup (Str.ofString "way") = some .local := by decide +kernel
theorem gl__law_value__law_take : (defScope s__law_value).names.lookup (Str.ofString "_law_take") = some .globalImplicit := by decide +kernel
theorem b__law_value {P : Program} {w : World} {K : Fr} {mg : Str → Option Value} {base : Heap} {n k : Nat} (T : Tx K mg) (Tn : Tab P w K mg base (phi PR n) k) (cdv : Value) (A : Around) (outer : List PySem.Env) (s : Shared) (H : Hp) (E : XK) {a : Addr} (hr : Room k (A.deeper (envOfC (Str.ofString "_law_value") (defScope s__law_value) s.heap.objs.size a cdv))) :
    SB (cxOf (L2.CX P w) P w K mg base N__law_value (Str.ofString "_law_value") (defScope s__law_value) a cdv A outer s H E) (phi PR n) (fun cls d _ H => E cls d H) (defBody s__law_value) D._law_value_v2.body := by
  have hΦ := phi_mono PR n
  have hu := roomH_of hr
  exact (sb_cons hΦ (ss_asg (i := 1) hΦ sc__law_value.nd rfl (lo__law_value_1) (se_call (f := "_law_take") (m := .val) hΦ Tn.t__law_take hr (takes_of rfl rfl rfl rfl) gl__law_value__law_take (sa_cons hΦ (se_vB 0 rfl vi__law_value_0 dd_pool dc_pool) (sa_cons hΦ se_int sa_nil)) dd__law_take) rfl (.inl rfl))
  (sb_cons hΦ (ss_ite hΦ (st_eq hΦ hu .eq (se_vB 1 rfl vi__law_value_1 dd_way dc_way) se_int) (sb_one (ss_ret hΦ se_int)) sb_nil)
  (sb_one (ss_ret hΦ (se_call (f := "_law_take") (m := .val) hΦ Tn.t__law_take hr (takes_of rfl rfl rfl rfl) gl__law_value__law_take (sa_cons hΦ (se_vB 0 rfl vi__law_value_0 dd_pool dc_pool) (sa_cons hΦ (se_ix hΦ hu (SF.val hΦ (sf_lst hΦ (sa_cons hΦ se_int (sa_cons hΦ se_int (sa_cons hΦ se_int sa_nil))))) (se_bin hΦ .mod (se_vB 1 rfl vi__law_value_1 dd_way dc_way) se_int)) sa_nil)) dd__law_take)))))
abbrev s__law_expression : Stmt := top 12
abbrev N__law_expression : List Str := [Str.ofString "pool", Str.ofString "names", Str.ofString "deep", Str.ofString "way", Str.ofString "words", Str.ofString "word", Str.ofString "one"]
abbrev ps__law_expression : List Str := [Str.ofString "pool", Str.ofString "names", Str.ofString "deep"]
theorem sc__law_expression : FnScope N__law_expression ps__law_expression (defScope s__law_expression) := ⟨rfl, rfl, rfl, by decide +kernel, rfl, by decide +kernel, by decide +kernel⟩
theorem vi__law_expression_0 : Vis (defScope s__law_expression) (Str.ofString "pool") := .inl (by decide +kernel)
theorem lo__law_expression_0 : Loc (defScope s__law_expression) (Str.ofString "pool") := .inl (by decide +kernel)
theorem ll__law_expression_0 : (defScope s__law_expression).names.lookup (Str.ofString "pool") = some .local := by decide +kernel
theorem vi__law_expression_1 : Vis (defScope s__law_expression) (Str.ofString "names") := .inl (by decide +kernel)
theorem lo__law_expression_1 : Loc (defScope s__law_expression) (Str.ofString "names") := .inl (by decide +kernel)
theorem ll__law_expression_1 : (defScope s__law_expression).names.lookup (Str.ofString "names") = some .local := by decide +kernel
theorem vi__law_expression_2 : Vis (defScope s__law_expression) (Str.ofString "deep") := .inl (by decide +kernel)
theorem lo__law_expression_2 : Loc (defScope s__law_expression) (Str.ofString "deep") := .inl (by decide +kernel)
theorem ll__law_expression_2 : (defScope s__law_expression).names.lookup (Str.ofString "deep") = some .local := by decide +kernel
theorem vi__law_expression_3 : Vis (defScope s__law_expression) (Str.ofString "way") := .inl (by decide +kernel)
theorem lo__law_expression_3 : Loc (defScope s__law_expression) (Str.ofString "way") := .inl (by decide +kernel)
theorem ll__law_expression_3 : (defScope s__law_expression).names.lookup (Str.ofString "way") = some .local := by decide +kernel
theorem vi__law_expression_4 : Vis (defScope s__law_expression) (Str.ofString "words") := .inl (by decide +kernel)
theorem lo__law_expression_4 : Loc (defScope s__law_expression) (Str.ofString "words") := .inl (by decide +kernel)
theorem ll__law_expression_4 : (defScope s__law_expression).names.lookup (Str.ofString "words") = some .local := by decide +kernel
theorem vi__law_expression_5 : Vis (defScope s__law_expression) (Str.ofString "word") := .inl (by decide +kernel)
theorem lo__law_expression_5 : Loc (defScope s__law_expression) (Str.ofString "word") := .inl (by decide +kernel)
theorem ll__law_expression_5 : (defScope s__law_expression).names.lookup (Str.ofString "word") = some .local := by decide +kernel
theorem vi__law_expression_6 : Vis (defScope s__law_expression) (Str.ofString "one") := .inl (by decide +kernel)
theorem lo__law_expression_6 : Loc (defScope s__law_expression) (Str.ofString "one") := .inl (by decide +kernel)
theorem ll__law_expression_6 : (defScope s__law_expression).names.lookup (Str.ofString "one") = some .local := by decide +kernel
theorem gl__law_expression__law_expression : (defScope s__law_expression).names.lookup (Str.ofString "_law_expression") = some .globalImplicit := by decide +kernel
theorem gl__law_expression__law_take : (defScope s__law_expression).names.lookup (Str.ofString "_law_take") = some .globalImplicit := by decide +kernel
theorem gl__law_expression__law_value : (defScope s__law_expression).names.lookup (Str.ofString "_law_value") = some .globalImplicit := by decide +kernel
theorem gl__law_expression_int : (defScope s__law_expression).names.lookup (Str.ofString "int") = some .globalImplicit := by decide +kernel
theorem gl__law_expression_len : (defScope s__law_expression).names.lookup (Str.ofString "len") = some .globalImplicit := by decide +kernel
theorem b__law_expression {P : Program} {w : World} {K : Fr} {mg : Str → Option Value} {base : Heap} {n k : Nat} (T : Tx K mg) (Tn : Tab P w K mg base (phi PR n) k) (cdv : Value) (A : Around) (outer : List PySem.Env) (s : Shared) (H : Hp) (E : XK) {a : Addr} (hr : Room k (A.deeper (envOfC (Str.ofString "_law_expression") (defScope s__law_expression) s.heap.objs.size a cdv))) :
    SB (cxOf (L2.CX P w) P w K mg base N__law_expression (Str.ofString "_law_expression") (defScope s__law_expression) a cdv A outer s H E) (phi PR n) (fun cls d _ H => E cls d H) (defBody s__law_expression) D._law_expression_v2.body := by
  have hΦ := phi_mono PR n
  have hu := roomH_of hr
  exact (sb_cons hΦ (ss_asg (i := 3) hΦ sc__law_expression.nd rfl (lo__law_expression_3) (se_call (f := "_law_take") (m := .val) hΦ Tn.t__law_take hr (takes_of rfl rfl rfl rfl) gl__law_expression__law_take (sa_cons hΦ (se_vB 0 rfl vi__law_expression_0 dd_pool dc_pool) (sa_cons hΦ se_int sa_nil)) dd__law_take) rfl (.inl rfl))
  (sb_cons hΦ (ss_ite hΦ (SW.t (sw_and hΦ (st_cmp hΦ .gt (se_vB 3 rfl vi__law_expression_3 dd_way dc_way) se_int) (sw_and1 (st_cmp hΦ .lt (se_vB 2 rfl vi__law_expression_2 dd_deep dc_deep) se_int)))) (sb_cons hΦ (ss_asg (i := 4) hΦ sc__law_expression.nd rfl (lo__law_expression_4) (SF.val hΦ (sf_lst hΦ (sa_cons hΦ (se_str (strOk_of "plus")) (sa_cons hΦ (se_str (strOk_of "less")) (sa_cons hΦ (se_str (strOk_of "times")) (sa_cons hΦ (se_str (strOk_of "under")) (sa_cons hΦ (se_str (strOk_of "same")) (sa_cons hΦ (se_str (strOk_of "over")) (sa_cons hΦ (se_str (strOk_of "rest")) sa_nil))))))))) rfl (.inl rfl))
  (sb_cons hΦ (ss_asg (i := 5) hΦ sc__law_expression.nd rfl (lo__law_expression_5) (se_ix hΦ hu (se_vB 4 rfl vi__law_expression_4 dd_words dc_words) (se_call (f := "_law_take") (m := .val) hΦ Tn.t__law_take hr (takes_of rfl rfl rfl rfl) gl__law_expression__law_take (sa_cons hΦ (se_vB 0 rfl vi__law_expression_0 dd_pool dc_pool) (sa_cons hΦ (se_bin hΦ .add se_int (se_bin hΦ .mul se_int (se_intB hΦ gl__law_expression_int T.b_int bt_int (by decide) dd_int (se_eq hΦ hu .eq (se_call (f := "_law_take") (m := .val) hΦ Tn.t__law_take hr (takes_of rfl rfl rfl rfl) gl__law_expression__law_take (sa_cons hΦ (se_vB 0 rfl vi__law_expression_0 dd_pool dc_pool) (sa_cons hΦ se_int sa_nil)) dd__law_take) se_int)))) sa_nil)) dd__law_take)) rfl (.inl rfl))
  (sb_cons hΦ (ss_asg (i := 6) hΦ sc__law_expression.nd rfl (lo__law_expression_6) (se_call (f := "_law_expression") (m := .val) hΦ Tn.t__law_expression hr (takes_of rfl rfl rfl rfl) gl__law_expression__law_expression (sa_cons hΦ (se_vB 0 rfl vi__law_expression_0 dd_pool dc_pool) (sa_cons hΦ (se_vB 1 rfl vi__law_expression_1 dd_names dc_names) (sa_cons hΦ (se_bin hΦ .add (se_vB 2 rfl vi__law_expression_2 dd_deep dc_deep) se_int) sa_nil))) dd__law_expression) rfl (.inl rfl))
  (sb_one (ss_ret hΦ (se_tup hΦ (sa_cons hΦ (se_vB 5 rfl vi__law_expression_5 dd_word dc_word) (sa_cons hΦ (se_vB 6 rfl vi__law_expression_6 dd_one dc_one) (sa_cons hΦ (se_call (f := "_law_expression") (m := .val) hΦ Tn.t__law_expression hr (takes_of rfl rfl rfl rfl) gl__law_expression__law_expression (sa_cons hΦ (se_vB 0 rfl vi__law_expression_0 dd_pool dc_pool) (sa_cons hΦ (se_vB 1 rfl vi__law_expression_1 dd_names dc_names) (sa_cons hΦ (se_bin hΦ .add (se_vB 2 rfl vi__law_expression_2 dd_deep dc_deep) se_int) sa_nil))) dd__law_expression) sa_nil))))))))) sb_nil)
  (sb_cons hΦ (ss_ite hΦ (st_cmp hΦ .lt (se_vB 3 rfl vi__law_expression_3 dd_way dc_way) se_int) (sb_one (ss_ret hΦ (se_tup hΦ (sa_cons hΦ (se_str (strOk_of "name")) (sa_cons hΦ (se_ix hΦ hu (se_vB 1 rfl vi__law_expression_1 dd_names dc_names) (se_call (f := "_law_take") (m := .val) hΦ Tn.t__law_take hr (takes_of rfl rfl rfl rfl) gl__law_expression__law_take (sa_cons hΦ (se_vB 0 rfl vi__law_expression_0 dd_pool dc_pool) (sa_cons hΦ (se_len hΦ gl__law_expression_len T.b_len bt_len (by decide) dd_len (se_vB 1 rfl vi__law_expression_1 dd_names dc_names)) sa_nil)) dd__law_take)) sa_nil))))) sb_nil)
  (sb_one (ss_ret hΦ (se_tup hΦ (sa_cons hΦ (se_str (strOk_of "number")) (sa_cons hΦ (se_call (f := "_law_value") (m := .val) hΦ Tn.t__law_value hr (takes_of rfl rfl rfl rfl) gl__law_expression__law_value (sa_cons hΦ (se_vB 0 rfl vi__law_expression_0 dd_pool dc_pool) sa_nil) dd__law_value) sa_nil))))))))
abbrev s__law_call : Stmt := top 13
abbrev N__law_call : List Str := [Str.ofString "pool", Str.ofString "state", Str.ofString "names", Str.ofString "heads", Str.ofString "at", Str.ofString "behind", Str.ofString "args", Str.ofString "held", Str.ofString "param"]
abbrev ps__law_call : List Str := [Str.ofString "pool", Str.ofString "state", Str.ofString "names"]
theorem sc__law_call : FnScope N__law_call ps__law_call (defScope s__law_call) := ⟨rfl, rfl, rfl, by decide +kernel, rfl, by decide +kernel, by decide +kernel⟩
theorem vi__law_call_0 : Vis (defScope s__law_call) (Str.ofString "pool") := .inr (.inl (by decide +kernel))
theorem lo__law_call_0 : Loc (defScope s__law_call) (Str.ofString "pool") := .inr (by decide +kernel)
theorem vi__law_call_1 : Vis (defScope s__law_call) (Str.ofString "state") := .inl (by decide +kernel)
theorem lo__law_call_1 : Loc (defScope s__law_call) (Str.ofString "state") := .inl (by decide +kernel)
theorem ll__law_call_1 : (defScope s__law_call).names.lookup (Str.ofString "state") = some .local := by decide +kernel
theorem vi__law_call_2 : Vis (defScope s__law_call) (Str.ofString "names") := .inr (.inl (by decide +kernel))
theorem lo__law_call_2 : Loc (defScope s__law_call) (Str.ofString "names") := .inr (by decide +kernel)
theorem vi__law_call_3 : Vis (defScope s__law_call) (Str.ofString "heads") := .inl (by decide +kernel)
theorem lo__law_call_3 : Loc (defScope s__law_call) (Str.ofString "heads") := .inl (by decide +kernel)
theorem ll__law_call_3 : (defScope s__law_call).names.lookup (Str.ofString "heads") = some .local := by decide +kernel
theorem vi__law_call_4 : Vis (defScope s__law_call) (Str.ofString "at") := .inl (by decide +kernel)
theorem lo__law_call_4 : Loc (defScope s__law_call) (Str.ofString "at") := .inl (by decide +kernel)
theorem ll__law_call_4 : (defScope s__law_call).names.lookup (Str.ofString "at") = some .local := by decide +kernel
theorem vi__law_call_5 : Vis (defScope s__law_call) (Str.ofString "behind") := .inl (by decide +kernel)
theorem lo__law_call_5 : Loc (defScope s__law_call) (Str.ofString "behind") := .inl (by decide +kernel)
theorem ll__law_call_5 : (defScope s__law_call).names.lookup (Str.ofString "behind") = some .local := by decide +kernel
theorem vi__law_call_6 : Vis (defScope s__law_call) (Str.ofString "args") := .inl (by decide +kernel)
theorem lo__law_call_6 : Loc (defScope s__law_call) (Str.ofString "args") := .inl (by decide +kernel)
theorem ll__law_call_6 : (defScope s__law_call).names.lookup (Str.ofString "args") = some .local := by decide +kernel
theorem vi__law_call_7 : Vis (defScope s__law_call) (Str.ofString "held") := .inl (by decide +kernel)
theorem lo__law_call_7 : Loc (defScope s__law_call) (Str.ofString "held") := .inl (by decide +kernel)
theorem ll__law_call_7 : (defScope s__law_call).names.lookup (Str.ofString "held") = some .local := by decide +kernel
theorem gl__law_call__law_take : (defScope s__law_call).names.lookup (Str.ofString "_law_take") = some .globalImplicit := by decide +kernel
theorem gl__law_call_len : (defScope s__law_call).names.lookup (Str.ofString "len") = some .globalImplicit := by decide +kernel
theorem gl__law_call_tuple : (defScope s__law_call).names.lookup (Str.ofString "tuple") = some .globalImplicit := by decide +kernel
theorem b__law_call {P : Program} {w : World} {K : Fr} {mg : Str → Option Value} {base : Heap} {n k : Nat} (T : Tx K mg) (Tn : Tab P w K mg base (phi PR n) k) (cdv : Value) (A : Around) (outer : List PySem.Env) (s : Shared) (H : Hp) (E : XK) {a : Addr} (hr : Room k (A.deeper (envOfC (Str.ofString "_law_call") (defScope s__law_call) s.heap.objs.size a cdv))) :
    SB (cxOf (L2.CX P w) P w K mg base N__law_call (Str.ofString "_law_call") (defScope s__law_call) a cdv A outer s H E) (phi PR n) (fun cls d _ H => E cls d H) (defBody s__law_call) D._law_call_v3.body := by
  have hΦ := phi_mono PR n
  have hu := roomH_of hr
  exact (sb_cons hΦ (ss_asg (i := 3) hΦ sc__law_call.nd rfl (lo__law_call_3) (se_ix hΦ hu (se_vB 1 rfl vi__law_call_1 dd_state dc_state) (se_str (strOk_of "heads"))) rfl (.inl rfl))
  (sb_cons hΦ (ss_asg (i := 4) hΦ sc__law_call.nd rfl (lo__law_call_4) (se_call (f := "_law_take") (m := .val) hΦ Tn.t__law_take hr (takes_of rfl rfl rfl rfl) gl__law_call__law_take (sa_cons hΦ (se_vB 0 rfl vi__law_call_0 dd_pool dc_pool) (sa_cons hΦ (se_len hΦ gl__law_call_len T.b_len bt_len (by decide) dd_len (se_vB 3 rfl vi__law_call_3 dd_heads dc_heads)) sa_nil)) dd__law_take) rfl (.inl rfl))
  (sb_cons hΦ (ss_asg (i := 5) hΦ sc__law_call.nd rfl (lo__law_call_5) (se_bin hΦ .sub (se_bin hΦ .sub (se_len hΦ gl__law_call_len T.b_len bt_len (by decide) dd_len (se_vB 3 rfl vi__law_call_3 dd_heads dc_heads)) (se_ix hΦ hu (se_vB 1 rfl vi__law_call_1 dd_state dc_state) (se_str (strOk_of "at")))) se_int) rfl (.inl rfl))
  (sb_cons hΦ (ss_ite hΦ (SW.t (sw_and hΦ (st_cmp hΦ .gt (se_vB 5 rfl vi__law_call_5 dd_behind dc_behind) se_int) (sw_and1 (st_cmp hΦ .gt (se_call (f := "_law_take") (m := .val) hΦ Tn.t__law_take hr (takes_of rfl rfl rfl rfl) gl__law_call__law_take (sa_cons hΦ (se_vB 0 rfl vi__law_call_0 dd_pool dc_pool) (sa_cons hΦ se_int sa_nil)) dd__law_take) se_int)))) (sb_one (ss_asg (i := 4) hΦ sc__law_call.nd rfl (lo__law_call_4) (se_bin hΦ .add (se_bin hΦ .add (se_ix hΦ hu (se_vB 1 rfl vi__law_call_1 dd_state dc_state) (se_str (strOk_of "at"))) se_int) (se_call (f := "_law_take") (m := .val) hΦ Tn.t__law_take hr (takes_of rfl rfl rfl rfl) gl__law_call__law_take (sa_cons hΦ (se_vB 0 rfl vi__law_call_0 dd_pool dc_pool) (sa_cons hΦ (se_vB 5 rfl vi__law_call_5 dd_behind dc_behind) sa_nil)) dd__law_take)) rfl (.inl rfl))) sb_nil)
  (sb_cons hΦ (ss_setix hu hΦ (se_bin hΦ .sub (se_ix hΦ hu (se_vB 1 rfl vi__law_call_1 dd_state dc_state) (se_str (strOk_of "calls"))) se_int) (se_vB 1 rfl vi__law_call_1 dd_state dc_state) (se_str (strOk_of "calls")))
  (sb_cons hΦ (ss_asg (i := 6) hΦ sc__law_call.nd rfl (lo__law_call_6) (se_tuple hΦ gl__law_call_tuple T.b_tuple bt_tuple (by decide) dd_tuple (SF.val hΦ (sf_comp (own := [("param", 8)]) (t := (.n 8)) (e := (.call "_law_expression" .val (.cons (.v 0) (.cons (.v 2) (.cons (.c (.int 3)) .nil))))) (cond := (.c (.bl true))) hΦ rfl sc__law_call.nd (si_e hΦ (se_ix hΦ hu (se_ix hΦ hu (se_vB 3 rfl vi__law_call_3 dd_heads dc_heads) (se_vB 4 rfl vi__law_call_4 dd_at dc_at)) se_int)) (blkOk_by (N := N__law_call) (sc := defScope s__law_call) (by decide +kernel)) (fun _ _ _ _ _ => (pg_name (i := 8) sc__law_call.nd rfl (.inl rfl) (by first | exact .inr rfl | exact .inl rfl))) (fun _ _ _ _ _ => pts_yes) (fun _ _ _ _ _ => (se_call (f := "_law_expression") (m := .val) hΦ Tn.t__law_expression hr takes0 (by first | rfl | kernel_rfl) (sa_cons hΦ (se_vB 0 rfl (by first | exact .inl rfl | exact .inr (.inl rfl) | exact .inr (.inr rfl)) dd_pool dc_pool) (sa_cons hΦ (se_vB 2 rfl (by first | exact .inl rfl | exact .inr (.inl rfl) | exact .inr (.inr rfl)) dd_names dc_names) (sa_cons hΦ se_int sa_nil))) dd__law_expression)) (by decide)))) rfl (.inl rfl))
  (sb_cons hΦ (ss_asg (i := 7) hΦ sc__law_call.nd rfl (lo__law_call_7) (se_ix hΦ hu (se_vB 2 rfl vi__law_call_2 dd_names dc_names) (se_call (f := "_law_take") (m := .val) hΦ Tn.t__law_take hr (takes_of rfl rfl rfl rfl) gl__law_call__law_take (sa_cons hΦ (se_vB 0 rfl vi__law_call_0 dd_pool dc_pool) (sa_cons hΦ (se_len hΦ gl__law_call_len T.b_len bt_len (by decide) dd_len (se_vB 2 rfl vi__law_call_2 dd_names dc_names)) sa_nil)) dd__law_take)) rfl (.inl rfl))
  (sb_one (ss_ret hΦ (se_tup hΦ (sa_cons hΦ (se_str (strOk_of "call")) (sa_cons hΦ (se_vB 7 rfl vi__law_call_7 dd_held dc_held) (sa_cons hΦ (se_ix hΦ hu (se_ix hΦ hu (se_vB 3 rfl vi__law_call_3 dd_heads dc_heads) (se_vB 4 rfl vi__law_call_4 dd_at dc_at)) se_int) (sa_cons hΦ (se_vB 6 rfl vi__law_call_6 dd_args dc_args) (sa_cons hΦ (se_bin hΦ .mod (se_bin hΦ .add (se_ix hΦ hu (se_vB 1 rfl vi__law_call_1 dd_state dc_state) (se_str (strOk_of "first"))) (se_bin hΦ .mul se_int (se_ix hΦ hu (se_vB 1 rfl vi__law_call_1 dd_state dc_state) (se_str (strOk_of "calls"))))) se_int) sa_nil)))))))))))))))
abbrev s__law_row : Stmt := top 14
abbrev N__law_row : List Str := [Str.ofString "pool", Str.ofString "state", Str.ofString "names", Str.ofString "deep", Str.ofString "way", Str.ofString "held", Str.ofString "expression", Str.ofString "rows"]
abbrev ps__law_row : List Str := [Str.ofString "pool", Str.ofString "state", Str.ofString "names", Str.ofString "deep"]
theorem sc__law_row : FnScope N__law_row ps__law_row (defScope s__law_row) := ⟨rfl, rfl, rfl, by decide +kernel, rfl, by decide +kernel, by decide +kernel⟩
theorem vi__law_row_0 : Vis (defScope s__law_row) (Str.ofString "pool") := .inl (by decide +kernel)
theorem lo__law_row_0 : Loc (defScope s__law_row) (Str.ofString "pool") := .inl (by decide +kernel)
theorem ll__law_row_0 : (defScope s__law_row).names.lookup (Str.ofString "pool") = some .local := by decide +kernel
theorem vi__law_row_1 : Vis (defScope s__law_row) (Str.ofString "state") := .inl (by decide +kernel)
theorem lo__law_row_1 : Loc (defScope s__law_row) (Str.ofString "state") := .inl (by decide +kernel)
theorem ll__law_row_1 : (defScope s__law_row).names.lookup (Str.ofString "state") = some .local := by decide +kernel
theorem vi__law_row_2 : Vis (defScope s__law_row) (Str.ofString "names") := .inl (by decide +kernel)
theorem lo__law_row_2 : Loc (defScope s__law_row) (Str.ofString "names") := .inl (by decide +kernel)
theorem ll__law_row_2 : (defScope s__law_row).names.lookup (Str.ofString "names") = some .local := by decide +kernel
theorem vi__law_row_3 : Vis (defScope s__law_row) (Str.ofString "deep") := .inl (by decide +kernel)
theorem lo__law_row_3 : Loc (defScope s__law_row) (Str.ofString "deep") := .inl (by decide +kernel)
theorem ll__law_row_3 : (defScope s__law_row).names.lookup (Str.ofString "deep") = some .local := by decide +kernel
theorem vi__law_row_4 : Vis (defScope s__law_row) (Str.ofString "way") := .inl (by decide +kernel)
theorem lo__law_row_4 : Loc (defScope s__law_row) (Str.ofString "way") := .inl (by decide +kernel)
theorem ll__law_row_4 : (defScope s__law_row).names.lookup (Str.ofString "way") = some .local := by decide +kernel
theorem vi__law_row_5 : Vis (defScope s__law_row) (Str.ofString "held") := .inl (by decide +kernel)
theorem lo__law_row_5 : Loc (defScope s__law_row) (Str.ofString "held") := .inl (by decide +kernel)
theorem ll__law_row_5 : (defScope s__law_row).names.lookup (Str.ofString "held") = some .local := by decide +kernel
theorem vi__law_row_6 : Vis (defScope s__law_row) (Str.ofString "expression") := .inl (by decide +kernel)
theorem lo__law_row_6 : Loc (defScope s__law_row) (Str.ofString "expression") := .inl (by decide +kernel)
theorem ll__law_row_6 : (defScope s__law_row).names.lookup (Str.ofString "expression") = some .local := by decide +kernel
theorem vi__law_row_7 : Vis (defScope s__law_row) (Str.ofString "rows") := .inl (by decide +kernel)
theorem lo__law_row_7 : Loc (defScope s__law_row) (Str.ofString "rows") := .inl (by decide +kernel)
theorem ll__law_row_7 : (defScope s__law_row).names.lookup (Str.ofString "rows") = some .local := by decide +kernel
theorem gl__law_row__law_call : (defScope s__law_row).names.lookup (Str.ofString "_law_call") = some .globalImplicit := by decide +kernel
theorem gl__law_row__law_expression : (defScope s__law_row).names.lookup (Str.ofString "_law_expression") = some .globalImplicit := by decide +kernel
theorem gl__law_row__law_rows : (defScope s__law_row).names.lookup (Str.ofString "_law_rows") = some .globalImplicit := by decide +kernel
theorem gl__law_row__law_take : (defScope s__law_row).names.lookup (Str.ofString "_law_take") = some .globalImplicit := by decide +kernel
theorem gl__law_row_len : (defScope s__law_row).names.lookup (Str.ofString "len") = some .globalImplicit := by decide +kernel
theorem b__law_row {P : Program} {w : World} {K : Fr} {mg : Str → Option Value} {base : Heap} {n k : Nat} (T : Tx K mg) (Tn : Tab P w K mg base (phi PR n) k) (cdv : Value) (A : Around) (outer : List PySem.Env) (s : Shared) (H : Hp) (E : XK) {a : Addr} (hr : Room k (A.deeper (envOfC (Str.ofString "_law_row") (defScope s__law_row) s.heap.objs.size a cdv))) :
    SB (cxOf (L2.CX P w) P w K mg base N__law_row (Str.ofString "_law_row") (defScope s__law_row) a cdv A outer s H E) (phi PR n) (fun cls d _ H => E cls d H) (defBody s__law_row) D._law_row_v3.body := by
  have hΦ := phi_mono PR n
  have hu := roomH_of hr
  exact (sb_cons hΦ (ss_asg (i := 4) hΦ sc__law_row.nd rfl (lo__law_row_4) (se_call (f := "_law_take") (m := .val) hΦ Tn.t__law_take hr (takes_of rfl rfl rfl rfl) gl__law_row__law_take (sa_cons hΦ (se_vB 0 rfl vi__law_row_0 dd_pool dc_pool) (sa_cons hΦ se_int sa_nil)) dd__law_take) rfl (.inl rfl))
  (sb_cons hΦ (ss_setix hu hΦ (se_bin hΦ .sub (se_ix hΦ hu (se_vB 1 rfl vi__law_row_1 dd_state dc_state) (se_str (strOk_of "rows"))) se_int) (se_vB 1 rfl vi__law_row_1 dd_state dc_state) (se_str (strOk_of "rows")))
  (sb_cons hΦ (ss_ite hΦ (SW.t (sw_and hΦ (st_cmp hΦ .lt (se_vB 4 rfl vi__law_row_4 dd_way dc_way) se_int) (sw_and1 (st_cmp hΦ .gt (se_ix hΦ hu (se_vB 1 rfl vi__law_row_1 dd_state dc_state) (se_str (strOk_of "calls"))) se_int)))) (sb_one (ss_ret hΦ (se_call (f := "_law_call") (m := .val) hΦ Tn.t__law_call hr (takes_of rfl rfl rfl rfl) gl__law_row__law_call (sa_cons hΦ (se_vB 0 rfl vi__law_row_0 dd_pool dc_pool) (sa_cons hΦ (se_vB 1 rfl vi__law_row_1 dd_state dc_state) (sa_cons hΦ (se_vB 2 rfl vi__law_row_2 dd_names dc_names) sa_nil))) dd__law_call))) sb_nil)
  (sb_cons hΦ (ss_asg (i := 5) hΦ sc__law_row.nd rfl (lo__law_row_5) (se_ix hΦ hu (se_vB 2 rfl vi__law_row_2 dd_names dc_names) (se_call (f := "_law_take") (m := .val) hΦ Tn.t__law_take hr (takes_of rfl rfl rfl rfl) gl__law_row__law_take (sa_cons hΦ (se_vB 0 rfl vi__law_row_0 dd_pool dc_pool) (sa_cons hΦ (se_len hΦ gl__law_row_len T.b_len bt_len (by decide) dd_len (se_vB 2 rfl vi__law_row_2 dd_names dc_names)) sa_nil)) dd__law_take)) rfl (.inl rfl))
  (sb_cons hΦ (ss_asg (i := 6) hΦ sc__law_row.nd rfl (lo__law_row_6) (se_call (f := "_law_expression") (m := .val) hΦ Tn.t__law_expression hr (takes_of rfl rfl rfl rfl) gl__law_row__law_expression (sa_cons hΦ (se_vB 0 rfl vi__law_row_0 dd_pool dc_pool) (sa_cons hΦ (se_vB 2 rfl vi__law_row_2 dd_names dc_names) (sa_cons hΦ (se_bin hΦ .add se_int (se_call (f := "_law_take") (m := .val) hΦ Tn.t__law_take hr (takes_of rfl rfl rfl rfl) gl__law_row__law_take (sa_cons hΦ (se_vB 0 rfl vi__law_row_0 dd_pool dc_pool) (sa_cons hΦ se_int sa_nil)) dd__law_take)) sa_nil))) dd__law_expression) rfl (.inl rfl))
  (sb_cons hΦ (ss_ite hΦ (SW.t (sw_and hΦ (st_eq hΦ hu .eq (se_vB 4 rfl vi__law_row_4 dd_way dc_way) se_int) (sw_and1 (st_cmp hΦ .lt (se_vB 3 rfl vi__law_row_3 dd_deep dc_deep) se_int)))) (sb_cons hΦ (ss_asg (i := 7) hΦ sc__law_row.nd rfl (lo__law_row_7) (se_call (f := "_law_rows") (m := .val) hΦ Tn.t__law_rows hr (takes_of rfl rfl rfl rfl) gl__law_row__law_rows (sa_cons hΦ (se_vB 0 rfl vi__law_row_0 dd_pool dc_pool) (sa_cons hΦ (se_vB 1 rfl vi__law_row_1 dd_state dc_state) (sa_cons hΦ (se_vB 2 rfl vi__law_row_2 dd_names dc_names) (sa_cons hΦ (se_bin hΦ .add (se_vB 3 rfl vi__law_row_3 dd_deep dc_deep) se_int) sa_nil)))) dd__law_rows) rfl (.inl rfl))
  (sb_one (ss_ret hΦ (se_tup hΦ (sa_cons hΦ (se_str (strOk_of "when")) (sa_cons hΦ (se_vB 6 rfl vi__law_row_6 dd_expression dc_expression) (sa_cons hΦ (se_vB 7 rfl vi__law_row_7 dd_rows dc_rows) (sa_cons hΦ (se_call (f := "_law_rows") (m := .val) hΦ Tn.t__law_rows hr (takes_of rfl rfl rfl rfl) gl__law_row__law_rows (sa_cons hΦ (se_vB 0 rfl vi__law_row_0 dd_pool dc_pool) (sa_cons hΦ (se_vB 1 rfl vi__law_row_1 dd_state dc_state) (sa_cons hΦ (se_vB 2 rfl vi__law_row_2 dd_names dc_names) (sa_cons hΦ (se_bin hΦ .add (se_vB 3 rfl vi__law_row_3 dd_deep dc_deep) se_int) sa_nil)))) dd__law_rows) sa_nil)))))))) sb_nil)
  (sb_cons hΦ (ss_ite hΦ (SW.t (sw_and hΦ (st_eq hΦ hu .eq (se_vB 4 rfl vi__law_row_4 dd_way dc_way) se_int) (sw_and1 (st_cmp hΦ .lt (se_vB 3 rfl vi__law_row_3 dd_deep dc_deep) se_int)))) (sb_one (ss_ret hΦ (se_tup hΦ (sa_cons hΦ (se_str (strOk_of "turn")) (sa_cons hΦ (se_vB 6 rfl vi__law_row_6 dd_expression dc_expression) (sa_cons hΦ (se_call (f := "_law_rows") (m := .val) hΦ Tn.t__law_rows hr (takes_of rfl rfl rfl rfl) gl__law_row__law_rows (sa_cons hΦ (se_vB 0 rfl vi__law_row_0 dd_pool dc_pool) (sa_cons hΦ (se_vB 1 rfl vi__law_row_1 dd_state dc_state) (sa_cons hΦ (se_vB 2 rfl vi__law_row_2 dd_names dc_names) (sa_cons hΦ (se_bin hΦ .add (se_vB 3 rfl vi__law_row_3 dd_deep dc_deep) se_int) sa_nil)))) dd__law_rows) sa_nil)))))) sb_nil)
  (sb_cons hΦ (ss_ite hΦ (st_cmp hΦ .lt (se_vB 4 rfl vi__law_row_4 dd_way dc_way) se_int) (sb_one (ss_ret hΦ (se_tup hΦ (sa_cons hΦ (se_str (strOk_of "say")) (sa_cons hΦ (se_vB 6 rfl vi__law_row_6 dd_expression dc_expression) sa_nil))))) sb_nil)
  (sb_one (ss_ret hΦ (se_tup hΦ (sa_cons hΦ (se_str (strOk_of "set")) (sa_cons hΦ (se_vB 5 rfl vi__law_row_5 dd_held dc_held) (sa_cons hΦ (se_vB 6 rfl vi__law_row_6 dd_expression dc_expression) sa_nil))))))))))))))
abbrev s__law_rows : Stmt := top 15
abbrev N__law_rows : List Str := [Str.ofString "pool", Str.ofString "state", Str.ofString "names", Str.ofString "deep", Str.ofString "found", Str.ofString "k"]
abbrev ps__law_rows : List Str := [Str.ofString "pool", Str.ofString "state", Str.ofString "names", Str.ofString "deep"]
theorem sc__law_rows : FnScope N__law_rows ps__law_rows (defScope s__law_rows) := ⟨rfl, rfl, rfl, by decide +kernel, rfl, by decide +kernel, by decide +kernel⟩
theorem vi__law_rows_0 : Vis (defScope s__law_rows) (Str.ofString "pool") := .inl (by decide +kernel)
theorem lo__law_rows_0 : Loc (defScope s__law_rows) (Str.ofString "pool") := .inl (by decide +kernel)
theorem ll__law_rows_0 : (defScope s__law_rows).names.lookup (Str.ofString "pool") = some .local := by decide +kernel
theorem vi__law_rows_1 : Vis (defScope s__law_rows) (Str.ofString "state") := .inl (by decide +kernel)
theorem lo__law_rows_1 : Loc (defScope s__law_rows) (Str.ofString "state") := .inl (by decide +kernel)
theorem ll__law_rows_1 : (defScope s__law_rows).names.lookup (Str.ofString "state") = some .local := by decide +kernel
theorem vi__law_rows_2 : Vis (defScope s__law_rows) (Str.ofString "names") := .inl (by decide +kernel)
theorem lo__law_rows_2 : Loc (defScope s__law_rows) (Str.ofString "names") := .inl (by decide +kernel)
theorem ll__law_rows_2 : (defScope s__law_rows).names.lookup (Str.ofString "names") = some .local := by decide +kernel
theorem vi__law_rows_3 : Vis (defScope s__law_rows) (Str.ofString "deep") := .inl (by decide +kernel)
theorem lo__law_rows_3 : Loc (defScope s__law_rows) (Str.ofString "deep") := .inl (by decide +kernel)
theorem ll__law_rows_3 : (defScope s__law_rows).names.lookup (Str.ofString "deep") = some .local := by decide +kernel
theorem vi__law_rows_4 : Vis (defScope s__law_rows) (Str.ofString "found") := .inl (by decide +kernel)
theorem lo__law_rows_4 : Loc (defScope s__law_rows) (Str.ofString "found") := .inl (by decide +kernel)
theorem ll__law_rows_4 : (defScope s__law_rows).names.lookup (Str.ofString "found") = some .local := by decide +kernel
theorem vi__law_rows_5 : Vis (defScope s__law_rows) (Str.ofString "k") := .inl (by decide +kernel)
theorem lo__law_rows_5 : Loc (defScope s__law_rows) (Str.ofString "k") := .inl (by decide +kernel)
theorem ll__law_rows_5 : (defScope s__law_rows).names.lookup (Str.ofString "k") = some .local := by decide +kernel
theorem gl__law_rows__law_row : (defScope s__law_rows).names.lookup (Str.ofString "_law_row") = some .globalImplicit := by decide +kernel
theorem gl__law_rows__law_take : (defScope s__law_rows).names.lookup (Str.ofString "_law_take") = some .globalImplicit := by decide +kernel
theorem gl__law_rows_range : (defScope s__law_rows).names.lookup (Str.ofString "range") = some .globalImplicit := by decide +kernel
theorem gl__law_rows_tuple : (defScope s__law_rows).names.lookup (Str.ofString "tuple") = some .globalImplicit := by decide +kernel
theorem b__law_rows {P : Program} {w : World} {K : Fr} {mg : Str → Option Value} {base : Heap} {n k : Nat} (T : Tx K mg) (Tn : Tab P w K mg base (phi PR n) k) (cdv : Value) (A : Around) (outer : List PySem.Env) (s : Shared) (H : Hp) (E : XK) {a : Addr} (hr : Room k (A.deeper (envOfC (Str.ofString "_law_rows") (defScope s__law_rows) s.heap.objs.size a cdv))) :
    SB (cxOf (L2.CX P w) P w K mg base N__law_rows (Str.ofString "_law_rows") (defScope s__law_rows) a cdv A outer s H E) (phi PR n) (fun cls d _ H => E cls d H) (defBody s__law_rows) D._law_rows_v3.body := by
  have hΦ := phi_mono PR n
  have hu := roomH_of hr
  exact (sb_cons hΦ (ss_asg (i := 4) hΦ sc__law_rows.nd rfl (lo__law_rows_4) (SF.new hΦ (sf_lst hΦ sa_nil)) rfl (.inl rfl))
  (sb_cons hΦ (ss_for (t := (.n 5)) hΦ (passes_of rfl) rfl (si_range hΦ gl__law_rows_range T.b_range (se_call (f := "_law_take") (m := .val) hΦ Tn.t__law_take hr (takes_of rfl rfl rfl rfl) gl__law_rows__law_take (sa_cons hΦ (se_vB 0 rfl vi__law_rows_0 dd_pool dc_pool) (sa_cons hΦ (se_ix hΦ hu (SF.val hΦ (sf_lst hΦ (sa_cons hΦ se_int (sa_cons hΦ se_int (sa_cons hΦ se_int (sa_cons hΦ se_int sa_nil)))))) (se_vB 3 rfl vi__law_rows_3 dd_deep dc_deep)) sa_nil)) dd__law_take)) (pg_name (i := 5) sc__law_rows.nd rfl (lo__law_rows_5) (.inl rfl)) (sb_one (ss_ite hΦ (st_cmp hΦ .gt (se_ix hΦ hu (se_vB 1 rfl vi__law_rows_1 dd_state dc_state) (se_str (strOk_of "rows"))) se_int) (sb_one (ss_ex hΦ (se_append hΦ (se_vB 4 rfl vi__law_rows_4 dd_found dc_found) (se_call (f := "_law_row") (m := .val) hΦ Tn.t__law_row hr (takes_of rfl rfl rfl rfl) gl__law_rows__law_row (sa_cons hΦ (se_vB 0 rfl vi__law_rows_0 dd_pool dc_pool) (sa_cons hΦ (se_vB 1 rfl vi__law_rows_1 dd_state dc_state) (sa_cons hΦ (se_vB 2 rfl vi__law_rows_2 dd_names dc_names) (sa_cons hΦ (se_vB 3 rfl vi__law_rows_3 dd_deep dc_deep) sa_nil)))) dd__law_row)))) sb_nil)))
  (sb_one (ss_ret hΦ (se_tuple hΦ gl__law_rows_tuple T.b_tuple bt_tuple (by decide) dd_tuple (se_vB 4 rfl vi__law_rows_4 dd_found dc_found))))))
abbrev s__law_book : Stmt := top 16
abbrev N__law_book : List Str := [Str.ofString "cells", Str.ofString "most", Str.ofString "pool", Str.ofString "menu", Str.ofString "deeds", Str.ofString "heads", Str.ofString "many", Str.ofString "name", Str.ofString "state", Str.ofString "found", Str.ofString "k", Str.ofString "params", Str.ofString "names", Str.ofString "rows", Str.ofString "word"]
abbrev ps__law_book : List Str := [Str.ofString "cells", Str.ofString "most"]
theorem sc__law_book : FnScope N__law_book ps__law_book (defScope s__law_book) := ⟨rfl, rfl, rfl, by decide +kernel, rfl, by decide +kernel, by decide +kernel⟩
theorem vi__law_book_0 : Vis (defScope s__law_book) (Str.ofString "cells") := .inl (by decide +kernel)
theorem lo__law_book_0 : Loc (defScope s__law_book) (Str.ofString "cells") := .inl (by decide +kernel)
theorem ll__law_book_0 : (defScope s__law_book).names.lookup (Str.ofString "cells") = some .local := by decide +kernel
theorem vi__law_book_1 : Vis (defScope s__law_book) (Str.ofString "most") := .inl (by decide +kernel)
theorem lo__law_book_1 : Loc (defScope s__law_book) (Str.ofString "most") := .inl (by decide +kernel)
theorem ll__law_book_1 : (defScope s__law_book).names.lookup (Str.ofString "most") = some .local := by decide +kernel
theorem vi__law_book_2 : Vis (defScope s__law_book) (Str.ofString "pool") := .inl (by decide +kernel)
theorem lo__law_book_2 : Loc (defScope s__law_book) (Str.ofString "pool") := .inl (by decide +kernel)
theorem ll__law_book_2 : (defScope s__law_book).names.lookup (Str.ofString "pool") = some .local := by decide +kernel
theorem vi__law_book_3 : Vis (defScope s__law_book) (Str.ofString "menu") := .inl (by decide +kernel)
theorem lo__law_book_3 : Loc (defScope s__law_book) (Str.ofString "menu") := .inl (by decide +kernel)
theorem ll__law_book_3 : (defScope s__law_book).names.lookup (Str.ofString "menu") = some .local := by decide +kernel
theorem vi__law_book_4 : Vis (defScope s__law_book) (Str.ofString "deeds") := .inl (by decide +kernel)
theorem lo__law_book_4 : Loc (defScope s__law_book) (Str.ofString "deeds") := .inl (by decide +kernel)
theorem ll__law_book_4 : (defScope s__law_book).names.lookup (Str.ofString "deeds") = some .local := by decide +kernel
theorem vi__law_book_5 : Vis (defScope s__law_book) (Str.ofString "heads") := .inl (by decide +kernel)
theorem lo__law_book_5 : Loc (defScope s__law_book) (Str.ofString "heads") := .inl (by decide +kernel)
theorem ll__law_book_5 : (defScope s__law_book).names.lookup (Str.ofString "heads") = some .local := by decide +kernel
theorem vi__law_book_6 : Vis (defScope s__law_book) (Str.ofString "many") := .inl (by decide +kernel)
theorem lo__law_book_6 : Loc (defScope s__law_book) (Str.ofString "many") := .inl (by decide +kernel)
theorem ll__law_book_6 : (defScope s__law_book).names.lookup (Str.ofString "many") = some .local := by decide +kernel
theorem vi__law_book_7 : Vis (defScope s__law_book) (Str.ofString "name") := .inl (by decide +kernel)
theorem lo__law_book_7 : Loc (defScope s__law_book) (Str.ofString "name") := .inl (by decide +kernel)
theorem ll__law_book_7 : (defScope s__law_book).names.lookup (Str.ofString "name") = some .local := by decide +kernel
theorem vi__law_book_8 : Vis (defScope s__law_book) (Str.ofString "state") := .inl (by decide +kernel)
theorem lo__law_book_8 : Loc (defScope s__law_book) (Str.ofString "state") := .inl (by decide +kernel)
theorem ll__law_book_8 : (defScope s__law_book).names.lookup (Str.ofString "state") = some .local := by decide +kernel
theorem vi__law_book_9 : Vis (defScope s__law_book) (Str.ofString "found") := .inl (by decide +kernel)
theorem lo__law_book_9 : Loc (defScope s__law_book) (Str.ofString "found") := .inl (by decide +kernel)
theorem ll__law_book_9 : (defScope s__law_book).names.lookup (Str.ofString "found") = some .local := by decide +kernel
theorem vi__law_book_10 : Vis (defScope s__law_book) (Str.ofString "k") := .inl (by decide +kernel)
theorem lo__law_book_10 : Loc (defScope s__law_book) (Str.ofString "k") := .inl (by decide +kernel)
theorem ll__law_book_10 : (defScope s__law_book).names.lookup (Str.ofString "k") = some .local := by decide +kernel
theorem vi__law_book_11 : Vis (defScope s__law_book) (Str.ofString "params") := .inr (.inl (by decide +kernel))
theorem lo__law_book_11 : Loc (defScope s__law_book) (Str.ofString "params") := .inr (by decide +kernel)
theorem vi__law_book_12 : Vis (defScope s__law_book) (Str.ofString "names") := .inl (by decide +kernel)
theorem lo__law_book_12 : Loc (defScope s__law_book) (Str.ofString "names") := .inl (by decide +kernel)
theorem ll__law_book_12 : (defScope s__law_book).names.lookup (Str.ofString "names") = some .local := by decide +kernel
theorem vi__law_book_13 : Vis (defScope s__law_book) (Str.ofString "rows") := .inl (by decide +kernel)
theorem lo__law_book_13 : Loc (defScope s__law_book) (Str.ofString "rows") := .inl (by decide +kernel)
theorem ll__law_book_13 : (defScope s__law_book).names.lookup (Str.ofString "rows") = some .local := by decide +kernel
theorem gl__law_book__law_expression : (defScope s__law_book).names.lookup (Str.ofString "_law_expression") = some .globalImplicit := by decide +kernel
theorem gl__law_book__law_pool : (defScope s__law_book).names.lookup (Str.ofString "_law_pool") = some .globalImplicit := by decide +kernel
theorem gl__law_book__law_rows : (defScope s__law_book).names.lookup (Str.ofString "_law_rows") = some .globalImplicit := by decide +kernel
theorem gl__law_book__law_some : (defScope s__law_book).names.lookup (Str.ofString "_law_some") = some .globalImplicit := by decide +kernel
theorem gl__law_book__law_take : (defScope s__law_book).names.lookup (Str.ofString "_law_take") = some .globalImplicit := by decide +kernel
theorem gl__law_book_enumerate : (defScope s__law_book).names.lookup (Str.ofString "enumerate") = some .globalImplicit := by decide +kernel
theorem gl__law_book_tuple : (defScope s__law_book).names.lookup (Str.ofString "tuple") = some .globalImplicit := by decide +kernel
theorem b__law_book {P : Program} {w : World} {K : Fr} {mg : Str → Option Value} {base : Heap} {n k : Nat} (T : Tx K mg) (Tn : Tab P w K mg base (phi PR n) k) (cdv : Value) (A : Around) (outer : List PySem.Env) (s : Shared) (H : Hp) (E : XK) {a : Addr} (hr : Room k (A.deeper (envOfC (Str.ofString "_law_book") (defScope s__law_book) s.heap.objs.size a cdv))) :
    SB (cxOf (L2.CX P w) P w K mg base N__law_book (Str.ofString "_law_book") (defScope s__law_book) a cdv A outer s H E) (phi PR n) (fun cls d _ H => E cls d H) (defBody s__law_book) D._law_book_v3.body := by
  have hΦ := phi_mono PR n
  have hu := roomH_of hr
  exact (sb_cons hΦ (ss_asg (i := 2) hΦ sc__law_book.nd rfl (lo__law_book_2) (se_call (f := "_law_pool") (m := .obj) hΦ Tn.t__law_pool hr (takes_of rfl rfl rfl rfl) gl__law_book__law_pool (sa_cons hΦ (se_vB 0 rfl vi__law_book_0 dd_cells dc_cells) (sa_cons hΦ se_int sa_nil)) dd__law_pool) rfl (.inl rfl))
  (sb_cons hΦ (ss_asg (i := 3) hΦ sc__law_book.nd rfl (lo__law_book_3) (SF.val hΦ (sf_lst hΦ (sa_cons hΦ (se_str (strOk_of "a")) (sa_cons hΦ (se_str (strOk_of "b")) (sa_cons hΦ (se_str (strOk_of "ab")) (sa_cons hΦ (se_str (strOk_of "x")) (sa_cons hΦ (se_str (strOk_of "xy")) (sa_cons hΦ (se_str (strOk_of "abc")) (sa_cons hΦ (se_str (strOk_of "abcd")) (sa_cons hΦ (se_str (strOk_of "set")) (sa_cons hΦ (se_str (strOk_of "end")) (sa_cons hΦ (se_str (strOk_of "else")) (sa_cons hΦ (se_str (strOk_of "give")) (sa_cons hΦ (se_str (strOk_of "z")) sa_nil)))))))))))))) rfl (.inl rfl))
  (sb_cons hΦ (ss_asg (i := 4) hΦ sc__law_book.nd rfl (lo__law_book_4) (SF.val hΦ (sf_lst hΦ (sa_cons hΦ (se_str (strOk_of "f")) (sa_cons hΦ (se_str (strOk_of "g")) (sa_cons hΦ (se_str (strOk_of "fold")) (sa_cons hΦ (se_str (strOk_of "gg")) (sa_cons hΦ (se_str (strOk_of "deed")) (sa_cons hΦ (se_str (strOk_of "end")) (sa_cons hΦ (se_str (strOk_of "callfold")) (sa_cons hΦ (se_str (strOk_of "h")) (sa_cons hΦ (se_str (strOk_of "ab")) (sa_cons hΦ (se_str (strOk_of "main")) sa_nil)))))))))))) rfl (.inl rfl))
  (sb_cons hΦ (ss_asg (i := 5) hΦ sc__law_book.nd rfl (lo__law_book_5) (SF.new hΦ (sf_lst hΦ sa_nil)) rfl (.inl rfl))
  (sb_cons hΦ (ss_asg (i := 6) hΦ sc__law_book.nd rfl (lo__law_book_6) (se_bin hΦ .add se_int (se_call (f := "_law_take") (m := .val) hΦ Tn.t__law_take hr (takes_of rfl rfl rfl rfl) gl__law_book__law_take (sa_cons hΦ (se_vB 2 rfl vi__law_book_2 dd_pool dc_pool) (sa_cons hΦ (se_ix hΦ hu (SF.val hΦ (sf_lst hΦ (sa_cons hΦ (se_vB 1 rfl vi__law_book_1 dd_most dc_most) (sa_cons hΦ (se_vB 1 rfl vi__law_book_1 dd_most dc_most) (sa_cons hΦ (se_vB 1 rfl vi__law_book_1 dd_most dc_most) (sa_cons hΦ se_int sa_nil)))))) (se_call (f := "_law_take") (m := .val) hΦ Tn.t__law_take hr (takes_of rfl rfl rfl rfl) gl__law_book__law_take (sa_cons hΦ (se_vB 2 rfl vi__law_book_2 dd_pool dc_pool) (sa_cons hΦ se_int sa_nil)) dd__law_take)) sa_nil)) dd__law_take)) rfl (.inl rfl))
  (sb_cons hΦ (ss_for (t := (.n 7)) hΦ (passes_of rfl) rfl (si_e hΦ (se_call (f := "_law_some") (m := .val) hΦ Tn.t__law_some hr (takes_of rfl rfl rfl rfl) gl__law_book__law_some (sa_cons hΦ (se_vB 2 rfl vi__law_book_2 dd_pool dc_pool) (sa_cons hΦ (se_vB 4 rfl vi__law_book_4 dd_deeds dc_deeds) (sa_cons hΦ (se_vB 6 rfl vi__law_book_6 dd_many dc_many) sa_nil))) dd__law_some)) (pg_name (i := 7) sc__law_book.nd rfl (lo__law_book_7) (.inl rfl)) (sb_one (ss_ex hΦ (se_append hΦ (se_vB 5 rfl vi__law_book_5 dd_heads dc_heads) (se_tup hΦ (sa_cons hΦ (se_vB 7 rfl vi__law_book_7 dd_name dc_name) (sa_cons hΦ (se_call (f := "_law_some") (m := .val) hΦ Tn.t__law_some hr (takes_of rfl rfl rfl rfl) gl__law_book__law_some (sa_cons hΦ (se_vB 2 rfl vi__law_book_2 dd_pool dc_pool) (sa_cons hΦ (se_vB 3 rfl vi__law_book_3 dd_menu dc_menu) (sa_cons hΦ (se_call (f := "_law_take") (m := .val) hΦ Tn.t__law_take hr (takes_of rfl rfl rfl rfl) gl__law_book__law_take (sa_cons hΦ (se_vB 2 rfl vi__law_book_2 dd_pool dc_pool) (sa_cons hΦ se_int sa_nil)) dd__law_take) sa_nil))) dd__law_some) sa_nil)))))))
  (sb_cons hΦ (ss_asg (i := 8) hΦ sc__law_book.nd rfl (lo__law_book_8) (SF.new hΦ (sf_disp [(Str.ofString "heads", (.v 5)), (Str.ofString "at", (.c (.int 0))), (Str.ofString "rows", (.c (.int 20))), (Str.ofString "calls", (.c (.int 10))), (Str.ofString "first", (.call "_law_take" .val (.cons (.v 2) (.cons (.c (.int 100)) .nil))))] hΦ (pps_cons (se_str (strOk_of "heads")) (se_vB 5 rfl vi__law_book_5 dd_heads dc_heads) (pps_cons (se_str (strOk_of "at")) se_int (pps_cons (se_str (strOk_of "rows")) se_int (pps_cons (se_str (strOk_of "calls")) se_int (pps_cons (se_str (strOk_of "first")) (se_call (f := "_law_take") (m := .val) hΦ Tn.t__law_take hr (takes_of rfl rfl rfl rfl) gl__law_book__law_take (sa_cons hΦ (se_vB 2 rfl vi__law_book_2 dd_pool dc_pool) (sa_cons hΦ se_int sa_nil)) dd__law_take) pps_nil))))) rfl (by decide +kernel) (by decide +kernel) rfl rfl (fun z => by cases z) (Nat.le_of_ble_eq_true rfl) (Nat.le_of_ble_eq_true rfl))) rfl (.inl rfl))
  (sb_cons hΦ (ss_asg (i := 9) hΦ sc__law_book.nd rfl (lo__law_book_9) (SF.new hΦ (sf_lst hΦ sa_nil)) rfl (.inl rfl))
  (sb_cons hΦ (ss_for (t := (.t [(.n 10), (.t [(.n 7), (.n 11)])])) hΦ (passes_of rfl) rfl (si_enum hΦ gl__law_book_enumerate T.b_enumerate (se_vB 5 rfl vi__law_book_5 dd_heads dc_heads)) (pg_seq rfl (pgs_cons (pg_name (i := 10) sc__law_book.nd rfl (lo__law_book_10) (.inl rfl)) (pgs_cons (pg_seq rfl (pgs_cons (pg_name (i := 7) sc__law_book.nd rfl (lo__law_book_7) (.inl rfl)) (pgs_cons (pg_name (i := 11) sc__law_book.nd rfl (lo__law_book_11) (.inl rfl)) pgs_nil))) pgs_nil))) (sb_cons hΦ (ss_asg (i := 2) hΦ sc__law_book.nd rfl (lo__law_book_2) (se_call (f := "_law_pool") (m := .obj) hΦ Tn.t__law_pool hr (takes_of rfl rfl rfl rfl) gl__law_book__law_pool (sa_cons hΦ (se_vB 0 rfl vi__law_book_0 dd_cells dc_cells) (sa_cons hΦ (se_bin hΦ .add se_int (se_vB 10 rfl vi__law_book_10 dd_k dc_k)) sa_nil)) dd__law_pool) rfl (.inl rfl))
  (sb_cons hΦ (ss_asg (i := 12) hΦ sc__law_book.nd rfl (lo__law_book_12) (se_bin hΦ .add (se_vB 11 rfl vi__law_book_11 dd_params dc_params) (se_call (f := "_law_some") (m := .val) hΦ Tn.t__law_some hr (takes_of rfl rfl rfl rfl) gl__law_book__law_some (sa_cons hΦ (se_vB 2 rfl vi__law_book_2 dd_pool dc_pool) (sa_cons hΦ (SF.val hΦ (sf_comp (own := [("word", 14)]) (t := (.n 14)) (e := (.v 14)) (cond := (.isin .notin (.v 14) (.v 11))) hΦ rfl sc__law_book.nd (si_e hΦ (se_vB 3 rfl vi__law_book_3 dd_menu dc_menu)) (blkOk_by (N := N__law_book) (sc := defScope s__law_book) (by decide +kernel)) (fun _ _ _ _ _ => (pg_name (i := 14) sc__law_book.nd rfl (.inl rfl) (by first | exact .inr rfl | exact .inl rfl))) (fun _ _ _ _ _ => pts_one (st_in hΦ hu .notin (se_vB 14 rfl (by first | exact .inl rfl | exact .inr (.inl rfl) | exact .inr (.inr rfl)) dd_word dc_word) (se_vB 11 rfl (by first | exact .inl rfl | exact .inr (.inl rfl) | exact .inr (.inr rfl)) dd_params dc_params))) (fun _ _ _ _ _ => (se_vB 14 rfl (by first | exact .inl rfl | exact .inr (.inl rfl) | exact .inr (.inr rfl)) dd_word dc_word)) (by decide))) (sa_cons hΦ (se_bin hΦ .add se_int (se_call (f := "_law_take") (m := .val) hΦ Tn.t__law_take hr (takes_of rfl rfl rfl rfl) gl__law_book__law_take (sa_cons hΦ (se_vB 2 rfl vi__law_book_2 dd_pool dc_pool) (sa_cons hΦ se_int sa_nil)) dd__law_take)) sa_nil))) dd__law_some)) rfl (.inl rfl))
  (sb_cons hΦ (ss_setix hu hΦ (se_vB 10 rfl vi__law_book_10 dd_k dc_k) (se_vB 8 rfl vi__law_book_8 dd_state dc_state) (se_str (strOk_of "at")))
  (sb_cons hΦ (ss_setix hu hΦ se_int (se_vB 8 rfl vi__law_book_8 dd_state dc_state) (se_str (strOk_of "rows")))
  (sb_cons hΦ (ss_asg (i := 13) hΦ sc__law_book.nd rfl (lo__law_book_13) (se_call (f := "_law_rows") (m := .val) hΦ Tn.t__law_rows hr (takes_of rfl rfl rfl rfl) gl__law_book__law_rows (sa_cons hΦ (se_vB 2 rfl vi__law_book_2 dd_pool dc_pool) (sa_cons hΦ (se_vB 8 rfl vi__law_book_8 dd_state dc_state) (sa_cons hΦ (se_vB 12 rfl vi__law_book_12 dd_names dc_names) (sa_cons hΦ se_int sa_nil)))) dd__law_rows) rfl (.inl rfl))
  (sb_one (ss_ex hΦ (se_append hΦ (se_vB 9 rfl vi__law_book_9 dd_found dc_found) (se_tup hΦ (sa_cons hΦ (se_vB 7 rfl vi__law_book_7 dd_name dc_name) (sa_cons hΦ (se_tuple hΦ gl__law_book_tuple T.b_tuple bt_tuple (by decide) dd_tuple (se_vB 11 rfl vi__law_book_11 dd_params dc_params)) (sa_cons hΦ (se_vB 13 rfl vi__law_book_13 dd_rows dc_rows) (sa_cons hΦ (se_call (f := "_law_expression") (m := .val) hΦ Tn.t__law_expression hr (takes_of rfl rfl rfl rfl) gl__law_book__law_expression (sa_cons hΦ (se_vB 2 rfl vi__law_book_2 dd_pool dc_pool) (sa_cons hΦ (se_vB 12 rfl vi__law_book_12 dd_names dc_names) (sa_cons hΦ se_int sa_nil))) dd__law_expression) sa_nil))))))))))))))
  (sb_one (ss_ret hΦ (se_tuple hΦ gl__law_book_tuple T.b_tuple bt_tuple (by decide) dd_tuple (se_vB 9 rfl vi__law_book_9 dd_found dc_found)))))))))))))
abbrev s__law_written : Stmt := top 17
abbrev N__law_written : List Str := [Str.ofString "expression", Str.ofString "word", Str.ofString "sign"]
abbrev ps__law_written : List Str := [Str.ofString "expression"]
theorem sc__law_written : FnScope N__law_written ps__law_written (defScope s__law_written) := ⟨rfl, rfl, rfl, by decide +kernel, rfl, by decide +kernel, by decide +kernel⟩
theorem vi__law_written_0 : Vis (defScope s__law_written) (Str.ofString "expression") := .inl (by decide +kernel)
theorem lo__law_written_0 : Loc (defScope s__law_written) (Str.ofString "expression") := .inl (by decide +kernel)
theorem ll__law_written_0 : (defScope s__law_written).names.lookup (Str.ofString "expression") = some .local := by decide +kernel
theorem vi__law_written_1 : Vis (defScope s__law_written) (Str.ofString "word") := .inl (by decide +kernel)
theorem lo__law_written_1 : Loc (defScope s__law_written) (Str.ofString "word") := .inl (by decide +kernel)
theorem ll__law_written_1 : (defScope s__law_written).names.lookup (Str.ofString "word") = some .local := by decide +kernel
theorem vi__law_written_2 : Vis (defScope s__law_written) (Str.ofString "sign") := .inl (by decide +kernel)
theorem lo__law_written_2 : Loc (defScope s__law_written) (Str.ofString "sign") := .inl (by decide +kernel)
theorem ll__law_written_2 : (defScope s__law_written).names.lookup (Str.ofString "sign") = some .local := by decide +kernel
theorem gl__law_written__law_written : (defScope s__law_written).names.lookup (Str.ofString "_law_written") = some .globalImplicit := by decide +kernel
theorem gl__law_written_str : (defScope s__law_written).names.lookup (Str.ofString "str") = some .globalImplicit := by decide +kernel
theorem b__law_written {P : Program} {w : World} {K : Fr} {mg : Str → Option Value} {base : Heap} {n k : Nat} (T : Tx K mg) (Tn : Tab P w K mg base (phi PR n) k) (cdv : Value) (A : Around) (outer : List PySem.Env) (s : Shared) (H : Hp) (E : XK) {a : Addr} (hr : Room k (A.deeper (envOfC (Str.ofString "_law_written") (defScope s__law_written) s.heap.objs.size a cdv))) :
    SB (cxOf (L2.CX P w) P w K mg base N__law_written (Str.ofString "_law_written") (defScope s__law_written) a cdv A outer s H E) (phi PR n) (fun cls d _ H => E cls d H) (defBody s__law_written) D._law_written.body := by
  have hΦ := phi_mono PR n
  have hu := roomH_of hr
  exact (sb_cons hΦ (ss_asg (i := 1) hΦ sc__law_written.nd rfl (lo__law_written_1) (se_ix hΦ hu (se_vB 0 rfl vi__law_written_0 dd_expression dc_expression) se_int) rfl (.inl rfl))
  (sb_cons hΦ (ss_ite hΦ (st_eq hΦ hu .eq (se_vB 1 rfl vi__law_written_1 dd_word dc_word) (se_str (strOk_of "number"))) (sb_one (ss_ret hΦ (se_strI hΦ gl__law_written_str T.b_str bt_str (by decide) dd_str (se_ix hΦ hu (se_vB 0 rfl vi__law_written_0 dd_expression dc_expression) se_int)))) sb_nil)
  (sb_cons hΦ (ss_ite hΦ (st_eq hΦ hu .eq (se_vB 1 rfl vi__law_written_1 dd_word dc_word) (se_str (strOk_of "name"))) (sb_one (ss_ret hΦ (se_ix hΦ hu (se_vB 0 rfl vi__law_written_0 dd_expression dc_expression) se_int))) sb_nil)
  (sb_cons hΦ (ss_asg (i := 2) hΦ sc__law_written.nd rfl (lo__law_written_2) (se_ix hΦ hu (se_str (strOk_of "+-*/:<=")) (se_indexV hΦ hu (SF.val hΦ (sf_lst hΦ (sa_cons hΦ (se_str (strOk_of "plus")) (sa_cons hΦ (se_str (strOk_of "less")) (sa_cons hΦ (se_str (strOk_of "times")) (sa_cons hΦ (se_str (strOk_of "over")) (sa_cons hΦ (se_str (strOk_of "rest")) (sa_cons hΦ (se_str (strOk_of "under")) (sa_cons hΦ (se_str (strOk_of "same")) sa_nil))))))))) (se_vB 1 rfl vi__law_written_1 dd_word dc_word))) rfl (.inl rfl))
  (sb_one (ss_ret hΦ (se_bin hΦ .add (se_bin hΦ .add (se_bin hΦ .add (se_bin hΦ .add (se_str (strOk_of "(")) (se_call (f := "_law_written") (m := .val) hΦ Tn.t__law_written hr (takes_of rfl rfl rfl rfl) gl__law_written__law_written (sa_cons hΦ (se_ix hΦ hu (se_vB 0 rfl vi__law_written_0 dd_expression dc_expression) se_int) sa_nil) dd__law_written)) (se_vB 2 rfl vi__law_written_2 dd_sign dc_sign)) (se_call (f := "_law_written") (m := .val) hΦ Tn.t__law_written hr (takes_of rfl rfl rfl rfl) gl__law_written__law_written (sa_cons hΦ (se_ix hΦ hu (se_vB 0 rfl vi__law_written_0 dd_expression dc_expression) se_int) sa_nil) dd__law_written)) (se_str (strOk_of ")")))))))))
abbrev s__law_row_texts : Stmt := top 18
abbrev N__law_row_texts : List Str := [Str.ofString "row", Str.ofString "words", Str.ofString "found", Str.ofString "arg"]
abbrev ps__law_row_texts : List Str := [Str.ofString "row"]
theorem sc__law_row_texts : FnScope N__law_row_texts ps__law_row_texts (defScope s__law_row_texts) := ⟨rfl, rfl, rfl, by decide +kernel, rfl, by decide +kernel, by decide +kernel⟩
theorem vi__law_row_texts_0 : Vis (defScope s__law_row_texts) (Str.ofString "row") := .inl (by decide +kernel)
theorem lo__law_row_texts_0 : Loc (defScope s__law_row_texts) (Str.ofString "row") := .inl (by decide +kernel)
theorem ll__law_row_texts_0 : (defScope s__law_row_texts).names.lookup (Str.ofString "row") = some .local := by decide +kernel
theorem vi__law_row_texts_1 : Vis (defScope s__law_row_texts) (Str.ofString "words") := .inl (by decide +kernel)
theorem lo__law_row_texts_1 : Loc (defScope s__law_row_texts) (Str.ofString "words") := .inl (by decide +kernel)
theorem ll__law_row_texts_1 : (defScope s__law_row_texts).names.lookup (Str.ofString "words") = some .local := by decide +kernel
theorem vi__law_row_texts_2 : Vis (defScope s__law_row_texts) (Str.ofString "found") := .inl (by decide +kernel)
theorem lo__law_row_texts_2 : Loc (defScope s__law_row_texts) (Str.ofString "found") := .inl (by decide +kernel)
theorem ll__law_row_texts_2 : (defScope s__law_row_texts).names.lookup (Str.ofString "found") = some .local := by decide +kernel
theorem gl__law_row_texts__law_texts : (defScope s__law_row_texts).names.lookup (Str.ofString "_law_texts") = some .globalImplicit := by decide +kernel
theorem gl__law_row_texts__law_written : (defScope s__law_row_texts).names.lookup (Str.ofString "_law_written") = some .globalImplicit := by decide +kernel
theorem gl__law_row_texts_str : (defScope s__law_row_texts).names.lookup (Str.ofString "str") = some .globalImplicit := by decide +kernel
theorem b__law_row_texts {P : Program} {w : World} {K : Fr} {mg : Str → Option Value} {base : Heap} {n k : Nat} (T : Tx K mg) (Tn : Tab P w K mg base (phi PR n) k) (cdv : Value) (A : Around) (outer : List PySem.Env) (s : Shared) (H : Hp) (E : XK) {a : Addr} (hr : Room k (A.deeper (envOfC (Str.ofString "_law_row_texts") (defScope s__law_row_texts) s.heap.objs.size a cdv))) :
    SB (cxOf (L2.CX P w) P w K mg base N__law_row_texts (Str.ofString "_law_row_texts") (defScope s__law_row_texts) a cdv A outer s H E) (phi PR n) (fun cls d _ H => E cls d H) (defBody s__law_row_texts) D._law_row_texts.body := by
  have hΦ := phi_mono PR n
  have hu := roomH_of hr
  exact (sb_cons hΦ (ss_ite hΦ (st_eq hΦ hu .eq (se_ix hΦ hu (se_vB 0 rfl vi__law_row_texts_0 dd_row dc_row) se_int) (se_str (strOk_of "set"))) (sb_one (ss_ret hΦ (SF.val hΦ (sf_lst hΦ (sa_cons hΦ (se_bin hΦ .add (se_bin hΦ .add (se_bin hΦ .add (se_str (strOk_of "set ")) (se_ix hΦ hu (se_vB 0 rfl vi__law_row_texts_0 dd_row dc_row) se_int)) (se_str (strOk_of " "))) (se_call (f := "_law_written") (m := .val) hΦ Tn.t__law_written hr (takes_of rfl rfl rfl rfl) gl__law_row_texts__law_written (sa_cons hΦ (se_ix hΦ hu (se_vB 0 rfl vi__law_row_texts_0 dd_row dc_row) se_int) sa_nil) dd__law_written)) sa_nil))))) sb_nil)
  (sb_cons hΦ (ss_ite hΦ (st_eq hΦ hu .eq (se_ix hΦ hu (se_vB 0 rfl vi__law_row_texts_0 dd_row dc_row) se_int) (se_str (strOk_of "say"))) (sb_one (ss_ret hΦ (SF.val hΦ (sf_lst hΦ (sa_cons hΦ (se_bin hΦ .add (se_str (strOk_of "say ")) (se_call (f := "_law_written") (m := .val) hΦ Tn.t__law_written hr (takes_of rfl rfl rfl rfl) gl__law_row_texts__law_written (sa_cons hΦ (se_ix hΦ hu (se_vB 0 rfl vi__law_row_texts_0 dd_row dc_row) se_int) sa_nil) dd__law_written)) sa_nil))))) sb_nil)
  (sb_cons hΦ (ss_ite hΦ (st_eq hΦ hu .eq (se_ix hΦ hu (se_vB 0 rfl vi__law_row_texts_0 dd_row dc_row) se_int) (se_str (strOk_of "call"))) (sb_cons hΦ (ss_asg (i := 1) hΦ sc__law_row_texts.nd rfl (lo__law_row_texts_1) (se_bin hΦ .add (SF.val hΦ (sf_lst hΦ (sa_cons hΦ (se_str (strOk_of "call")) (sa_cons hΦ (se_ix hΦ hu (se_vB 0 rfl vi__law_row_texts_0 dd_row dc_row) se_int) (sa_cons hΦ (se_ix hΦ hu (se_vB 0 rfl vi__law_row_texts_0 dd_row dc_row) se_int) (sa_cons hΦ (se_strI hΦ gl__law_row_texts_str T.b_str bt_str (by decide) dd_str (se_ix hΦ hu (se_vB 0 rfl vi__law_row_texts_0 dd_row dc_row) se_int)) sa_nil)))))) (SF.val hΦ (sf_comp (own := [("arg", 3)]) (t := (.n 3)) (e := (.call "_law_written" .val (.cons (.v 3) .nil))) (cond := (.c (.bl true))) hΦ rfl sc__law_row_texts.nd (si_e hΦ (se_ix hΦ hu (se_vB 0 rfl vi__law_row_texts_0 dd_row dc_row) se_int)) (blkOk_by (N := N__law_row_texts) (sc := defScope s__law_row_texts) (by decide +kernel)) (fun _ _ _ _ _ => (pg_name (i := 3) sc__law_row_texts.nd rfl (.inl rfl) (by first | exact .inr rfl | exact .inl rfl))) (fun _ _ _ _ _ => pts_yes) (fun _ _ _ _ _ => (se_call (f := "_law_written") (m := .val) hΦ Tn.t__law_written hr takes0 (by first | rfl | kernel_rfl) (sa_cons hΦ (se_vB 3 rfl (by first | exact .inl rfl | exact .inr (.inl rfl) | exact .inr (.inr rfl)) dd_arg dc_arg) sa_nil) dd__law_written)) (by decide)))) rfl (.inl rfl))
  (sb_one (ss_ret hΦ (SF.val hΦ (sf_lst hΦ (sa_cons hΦ (se_join hΦ (strOk_of " ") (se_vB 1 rfl vi__law_row_texts_1 dd_words dc_words)) sa_nil)))))) sb_nil)
  (sb_cons hΦ (ss_asg (i := 2) hΦ sc__law_row_texts.nd rfl (lo__law_row_texts_2) (se_bin hΦ .add (SF.val hΦ (sf_lst hΦ (sa_cons hΦ (se_bin hΦ .add (se_bin hΦ .add (se_ix hΦ hu (se_vB 0 rfl vi__law_row_texts_0 dd_row dc_row) se_int) (se_str (strOk_of " "))) (se_call (f := "_law_written") (m := .val) hΦ Tn.t__law_written hr (takes_of rfl rfl rfl rfl) gl__law_row_texts__law_written (sa_cons hΦ (se_ix hΦ hu (se_vB 0 rfl vi__law_row_texts_0 dd_row dc_row) se_int) sa_nil) dd__law_written)) sa_nil))) (se_call (f := "_law_texts") (m := .val) hΦ Tn.t__law_texts hr (takes_of rfl rfl rfl rfl) gl__law_row_texts__law_texts (sa_cons hΦ (se_ix hΦ hu (se_vB 0 rfl vi__law_row_texts_0 dd_row dc_row) se_int) sa_nil) dd__law_texts)) rfl (.inl rfl))
  (sb_cons hΦ (ss_ite hΦ (st_eq hΦ hu .eq (se_ix hΦ hu (se_vB 0 rfl vi__law_row_texts_0 dd_row dc_row) se_int) (se_str (strOk_of "when"))) (sb_one (ss_asg (i := 2) hΦ sc__law_row_texts.nd rfl (lo__law_row_texts_2) (se_bin hΦ .add (se_bin hΦ .add (se_vB 2 rfl vi__law_row_texts_2 dd_found dc_found) (SF.val hΦ (sf_lst hΦ (sa_cons hΦ (se_str (strOk_of "else")) sa_nil)))) (se_call (f := "_law_texts") (m := .val) hΦ Tn.t__law_texts hr (takes_of rfl rfl rfl rfl) gl__law_row_texts__law_texts (sa_cons hΦ (se_ix hΦ hu (se_vB 0 rfl vi__law_row_texts_0 dd_row dc_row) se_int) sa_nil) dd__law_texts)) rfl (.inl rfl))) sb_nil)
  (sb_one (ss_ret hΦ (se_bin hΦ .add (se_vB 2 rfl vi__law_row_texts_2 dd_found dc_found) (SF.val hΦ (sf_lst hΦ (sa_cons hΦ (se_str (strOk_of "end")) sa_nil)))))))))))
abbrev s__law_texts : Stmt := top 19
abbrev N__law_texts : List Str := [Str.ofString "rows", Str.ofString "found", Str.ofString "row"]
abbrev ps__law_texts : List Str := [Str.ofString "rows"]
theorem sc__law_texts : FnScope N__law_texts ps__law_texts (defScope s__law_texts) := ⟨rfl, rfl, rfl, by decide +kernel, rfl, by decide +kernel, by decide +kernel⟩
theorem vi__law_texts_0 : Vis (defScope s__law_texts) (Str.ofString "rows") := .inl (by decide +kernel)
theorem lo__law_texts_0 : Loc (defScope s__law_texts) (Str.ofString "rows") := .inl (by decide +kernel)
theorem ll__law_texts_0 : (defScope s__law_texts).names.lookup (Str.ofString "rows") = some .local := by decide +kernel
theorem vi__law_texts_1 : Vis (defScope s__law_texts) (Str.ofString "found") := .inl (by decide +kernel)
theorem lo__law_texts_1 : Loc (defScope s__law_texts) (Str.ofString "found") := .inl (by decide +kernel)
theorem ll__law_texts_1 : (defScope s__law_texts).names.lookup (Str.ofString "found") = some .local := by decide +kernel
theorem vi__law_texts_2 : Vis (defScope s__law_texts) (Str.ofString "row") := .inl (by decide +kernel)
theorem lo__law_texts_2 : Loc (defScope s__law_texts) (Str.ofString "row") := .inl (by decide +kernel)
theorem ll__law_texts_2 : (defScope s__law_texts).names.lookup (Str.ofString "row") = some .local := by decide +kernel
theorem gl__law_texts__law_row_texts : (defScope s__law_texts).names.lookup (Str.ofString "_law_row_texts") = some .globalImplicit := by decide +kernel
theorem b__law_texts {P : Program} {w : World} {K : Fr} {mg : Str → Option Value} {base : Heap} {n k : Nat} (T : Tx K mg) (Tn : Tab P w K mg base (phi PR n) k) (cdv : Value) (A : Around) (outer : List PySem.Env) (s : Shared) (H : Hp) (E : XK) {a : Addr} (hr : Room k (A.deeper (envOfC (Str.ofString "_law_texts") (defScope s__law_texts) s.heap.objs.size a cdv))) :
    SB (cxOf (L2.CX P w) P w K mg base N__law_texts (Str.ofString "_law_texts") (defScope s__law_texts) a cdv A outer s H E) (phi PR n) (fun cls d _ H => E cls d H) (defBody s__law_texts) D._law_texts_v2.body := by
  have hΦ := phi_mono PR n
  have hu := roomH_of hr
  exact (sb_cons hΦ (ss_asg (i := 1) hΦ sc__law_texts.nd rfl (lo__law_texts_1) (SF.new hΦ (sf_lst hΦ sa_nil)) rfl (.inl rfl))
  (sb_cons hΦ (ss_for (t := (.n 2)) hΦ (passes_of rfl) rfl (si_e hΦ (se_vB 0 rfl vi__law_texts_0 dd_rows dc_rows)) (pg_name (i := 2) sc__law_texts.nd rfl (lo__law_texts_2) (.inl rfl)) (sb_one (ss_ex hΦ (se_extend hΦ (se_vB 1 rfl vi__law_texts_1 dd_found dc_found) (se_call (f := "_law_row_texts") (m := .val) hΦ Tn.t__law_row_texts hr (takes_of rfl rfl rfl rfl) gl__law_texts__law_row_texts (sa_cons hΦ (se_vB 2 rfl vi__law_texts_2 dd_row dc_row) sa_nil) dd__law_row_texts)))))
  (sb_one (ss_ret hΦ (se_vB 1 rfl vi__law_texts_1 dd_found dc_found)))))
abbrev s__law_book_texts : Stmt := top 20
abbrev N__law_book_texts : List Str := [Str.ofString "book", Str.ofString "found", Str.ofString "name", Str.ofString "params", Str.ofString "rows", Str.ofString "give"]
abbrev ps__law_book_texts : List Str := [Str.ofString "book"]
theorem sc__law_book_texts : FnScope N__law_book_texts ps__law_book_texts (defScope s__law_book_texts) := ⟨rfl, rfl, rfl, by decide +kernel, rfl, by decide +kernel, by decide +kernel⟩
theorem vi__law_book_texts_0 : Vis (defScope s__law_book_texts) (Str.ofString "book") := .inl (by decide +kernel)
theorem lo__law_book_texts_0 : Loc (defScope s__law_book_texts) (Str.ofString "book") := .inl (by decide +kernel)
theorem ll__law_book_texts_0 : (defScope s__law_book_texts).names.lookup (Str.ofString "book") = some .local := by decide +kernel
theorem vi__law_book_texts_1 : Vis (defScope s__law_book_texts) (Str.ofString "found") := .inl (by decide +kernel)
theorem lo__law_book_texts_1 : Loc (defScope s__law_book_texts) (Str.ofString "found") := .inl (by decide +kernel)
theorem ll__law_book_texts_1 : (defScope s__law_book_texts).names.lookup (Str.ofString "found") = some .local := by decide +kernel
theorem vi__law_book_texts_2 : Vis (defScope s__law_book_texts) (Str.ofString "name") := .inl (by decide +kernel)
theorem lo__law_book_texts_2 : Loc (defScope s__law_book_texts) (Str.ofString "name") := .inl (by decide +kernel)
theorem ll__law_book_texts_2 : (defScope s__law_book_texts).names.lookup (Str.ofString "name") = some .local := by decide +kernel
theorem vi__law_book_texts_3 : Vis (defScope s__law_book_texts) (Str.ofString "params") := .inl (by decide +kernel)
theorem lo__law_book_texts_3 : Loc (defScope s__law_book_texts) (Str.ofString "params") := .inl (by decide +kernel)
theorem ll__law_book_texts_3 : (defScope s__law_book_texts).names.lookup (Str.ofString "params") = some .local := by decide +kernel
theorem vi__law_book_texts_4 : Vis (defScope s__law_book_texts) (Str.ofString "rows") := .inl (by decide +kernel)
theorem lo__law_book_texts_4 : Loc (defScope s__law_book_texts) (Str.ofString "rows") := .inl (by decide +kernel)
theorem ll__law_book_texts_4 : (defScope s__law_book_texts).names.lookup (Str.ofString "rows") = some .local := by decide +kernel
theorem vi__law_book_texts_5 : Vis (defScope s__law_book_texts) (Str.ofString "give") := .inl (by decide +kernel)
theorem lo__law_book_texts_5 : Loc (defScope s__law_book_texts) (Str.ofString "give") := .inl (by decide +kernel)
theorem ll__law_book_texts_5 : (defScope s__law_book_texts).names.lookup (Str.ofString "give") = some .local := by decide +kernel
theorem gl__law_book_texts__law_texts : (defScope s__law_book_texts).names.lookup (Str.ofString "_law_texts") = some .globalImplicit := by decide +kernel
theorem gl__law_book_texts__law_written : (defScope s__law_book_texts).names.lookup (Str.ofString "_law_written") = some .globalImplicit := by decide +kernel
theorem gl__law_book_texts_list : (defScope s__law_book_texts).names.lookup (Str.ofString "list") = some .globalImplicit := by decide +kernel
theorem b__law_book_texts {P : Program} {w : World} {K : Fr} {mg : Str → Option Value} {base : Heap} {n k : Nat} (T : Tx K mg) (Tn : Tab P w K mg base (phi PR n) k) (cdv : Value) (A : Around) (outer : List PySem.Env) (s : Shared) (H : Hp) (E : XK) {a : Addr} (hr : Room k (A.deeper (envOfC (Str.ofString "_law_book_texts") (defScope s__law_book_texts) s.heap.objs.size a cdv))) :
    SB (cxOf (L2.CX P w) P w K mg base N__law_book_texts (Str.ofString "_law_book_texts") (defScope s__law_book_texts) a cdv A outer s H E) (phi PR n) (fun cls d _ H => E cls d H) (defBody s__law_book_texts) D._law_book_texts.body := by
  have hΦ := phi_mono PR n
  have hu := roomH_of hr
  exact (sb_cons hΦ (ss_asg (i := 1) hΦ sc__law_book_texts.nd rfl (lo__law_book_texts_1) (SF.new hΦ (sf_lst hΦ sa_nil)) rfl (.inl rfl))
  (sb_cons hΦ (ss_for (t := (.t [(.n 2), (.n 3), (.n 4), (.n 5)])) hΦ (passes_of rfl) rfl (si_e hΦ (se_vB 0 rfl vi__law_book_texts_0 dd_book dc_book)) (pg_seq rfl (pgs_cons (pg_name (i := 2) sc__law_book_texts.nd rfl (lo__law_book_texts_2) (.inl rfl)) (pgs_cons (pg_name (i := 3) sc__law_book_texts.nd rfl (lo__law_book_texts_3) (.inl rfl)) (pgs_cons (pg_name (i := 4) sc__law_book_texts.nd rfl (lo__law_book_texts_4) (.inl rfl)) (pgs_cons (pg_name (i := 5) sc__law_book_texts.nd rfl (lo__law_book_texts_5) (.inl rfl)) pgs_nil))))) (sb_cons hΦ (ss_ex hΦ (se_append hΦ (se_vB 1 rfl vi__law_book_texts_1 dd_found dc_found) (se_join hΦ (strOk_of " ") (se_bin hΦ .add (SF.val hΦ (sf_lst hΦ (sa_cons hΦ (se_str (strOk_of "deed")) (sa_cons hΦ (se_vB 2 rfl vi__law_book_texts_2 dd_name dc_name) sa_nil)))) (SF.val hΦ (sf_list hΦ gl__law_book_texts_list T.b_list bt_list (by decide) dd_list (se_vB 3 rfl vi__law_book_texts_3 dd_params dc_params)))))))
  (sb_cons hΦ (ss_ex hΦ (se_extend hΦ (se_vB 1 rfl vi__law_book_texts_1 dd_found dc_found) (se_call (f := "_law_texts") (m := .val) hΦ Tn.t__law_texts hr (takes_of rfl rfl rfl rfl) gl__law_book_texts__law_texts (sa_cons hΦ (se_vB 4 rfl vi__law_book_texts_4 dd_rows dc_rows) sa_nil) dd__law_texts)))
  (sb_one (ss_ex hΦ (se_append hΦ (se_vB 1 rfl vi__law_book_texts_1 dd_found dc_found) (se_bin hΦ .add (se_str (strOk_of "give ")) (se_call (f := "_law_written") (m := .val) hΦ Tn.t__law_written hr (takes_of rfl rfl rfl rfl) gl__law_book_texts__law_written (sa_cons hΦ (se_vB 5 rfl vi__law_book_texts_5 dd_give dc_give) sa_nil) dd__law_written))))))))
  (sb_one (ss_ret hΦ (se_vB 1 rfl vi__law_book_texts_1 dd_found dc_found)))))
abbrev s_law : Stmt := top 21
abbrev N_law : List Str := [Str.ofString "script", Str.ofString "cells", Str.ofString "turn", Str.ofString "book", Str.ofString "due", Str.ofString "told"]
abbrev ps_law : List Str := [Str.ofString "script"]
theorem sc_law : FnScope N_law ps_law (defScope s_law) := ⟨rfl, rfl, rfl, by decide +kernel, rfl, by decide +kernel, by decide +kernel⟩
theorem vi_law_0 : Vis (defScope s_law) (Str.ofString "script") := .inl (by decide +kernel)
theorem lo_law_0 : Loc (defScope s_law) (Str.ofString "script") := .inl (by decide +kernel)
theorem ll_law_0 : (defScope s_law).names.lookup (Str.ofString "script") = some .local := by decide +kernel
theorem vi_law_1 : Vis (defScope s_law) (Str.ofString "cells") := .inl (by decide +kernel)
theorem lo_law_1 : Loc (defScope s_law) (Str.ofString "cells") := .inl (by decide +kernel)
theorem ll_law_1 : (defScope s_law).names.lookup (Str.ofString "cells") = some .local := by decide +kernel
theorem vi_law_2 : Vis (defScope s_law) (Str.ofString "turn") := .inl (by decide +kernel)
theorem lo_law_2 : Loc (defScope s_law) (Str.ofString "turn") := .inl (by decide +kernel)
theorem ll_law_2 : (defScope s_law).names.lookup (Str.ofString "turn") = some .local := by decide +kernel
theorem vi_law_3 : Vis (defScope s_law) (Str.ofString "book") := .inl (by decide +kernel)
theorem lo_law_3 : Loc (defScope s_law) (Str.ofString "book") := .inl (by decide +kernel)
theorem ll_law_3 : (defScope s_law).names.lookup (Str.ofString "book") = some .local := by decide +kernel
theorem vi_law_4 : Vis (defScope s_law) (Str.ofString "due") := .inl (by decide +kernel)
theorem lo_law_4 : Loc (defScope s_law) (Str.ofString "due") := .inl (by decide +kernel)
theorem ll_law_4 : (defScope s_law).names.lookup (Str.ofString "due") = some .local := by decide +kernel
theorem vi_law_5 : Vis (defScope s_law) (Str.ofString "told") := .inl (by decide +kernel)
theorem lo_law_5 : Loc (defScope s_law) (Str.ofString "told") := .inl (by decide +kernel)
theorem ll_law_5 : (defScope s_law).names.lookup (Str.ofString "told") = some .local := by decide +kernel
theorem gl_law__law_book : (defScope s_law).names.lookup (Str.ofString "_law_book") = some .globalImplicit := by decide +kernel
theorem gl_law__law_book_texts : (defScope s_law).names.lookup (Str.ofString "_law_book_texts") = some .globalImplicit := by decide +kernel
theorem gl_law__law_cells : (defScope s_law).names.lookup (Str.ofString "_law_cells") = some .globalImplicit := by decide +kernel
theorem gl_law_book_text : (defScope s_law).names.lookup (Str.ofString "book_text") = some .globalImplicit := by decide +kernel
theorem gl_law_isinstance : (defScope s_law).names.lookup (Str.ofString "isinstance") = some .globalImplicit := by decide +kernel
theorem gl_law_range : (defScope s_law).names.lookup (Str.ofString "range") = some .globalImplicit := by decide +kernel
theorem gl_law_str : (defScope s_law).names.lookup (Str.ofString "str") = some .globalImplicit := by decide +kernel
theorem b_law {P : Program} {w : World} {K : Fr} {mg : Str → Option Value} {base : Heap} {n k : Nat} (T : Tx K mg) (Tn : Tab P w K mg base (phi PR n) k) (cdv : Value) (A : Around) (outer : List PySem.Env) (s : Shared) (H : Hp) (E : XK) {a : Addr} (hr : Room k (A.deeper (envOfC (Str.ofString "law") (defScope s_law) s.heap.objs.size a cdv))) :
    SB (cxOf (L2.CX P w) P w K mg base N_law (Str.ofString "law") (defScope s_law) a cdv A outer s H E) (phi PR n) (fun cls d _ H => E cls d H) (defBody s_law) D.law_k12.body := by
  have hΦ := phi_mono PR n
  have hu := roomH_of hr
  exact (sb_cons hΦ (ss_asg (i := 1) hΦ sc_law.nd rfl (lo_law_1) (se_call (f := "_law_cells") (m := .val) hΦ Tn.t__law_cells hr (takes_of rfl rfl rfl rfl) gl_law__law_cells (sa_cons hΦ (se_vB 0 rfl vi_law_0 dd_script dc_script) (sa_cons hΦ se_int sa_nil)) dd__law_cells) rfl (.inl rfl))
  (sb_cons hΦ (ss_for (t := (.n 2)) hΦ (passes_of rfl) rfl (si_range hΦ gl_law_range T.b_range se_int) (pg_name (i := 2) sc_law.nd rfl (lo_law_2) (.inl rfl)) (sb_cons hΦ (ss_asg (i := 3) hΦ sc_law.nd rfl (lo_law_3) (se_call (f := "_law_book") (m := .val) hΦ Tn.t__law_book hr (takes_of rfl rfl rfl rfl) gl_law__law_book (sa_cons hΦ (se_vB 1 rfl vi_law_1 dd_cells dc_cells) (sa_cons hΦ se_int sa_nil)) dd__law_book) rfl (.inl rfl))
  (sb_cons hΦ (ss_asg (i := 4) hΦ sc_law.nd rfl (lo_law_4) (se_join hΦ (strOk_of "\n") (se_call (f := "_law_book_texts") (m := .val) hΦ Tn.t__law_book_texts hr (takes_of rfl rfl rfl rfl) gl_law__law_book_texts (sa_cons hΦ (se_vB 3 rfl vi_law_3 dd_book dc_book) sa_nil) dd__law_book_texts)) rfl (.inl rfl))
  (sb_cons hΦ (ss_asg (i := 5) hΦ sc_law.nd rfl (lo_law_5) (se_call (f := "book_text") (m := .val) hΦ Tn.t_book_text hr (takes_of rfl rfl rfl rfl) gl_law_book_text (sa_cons hΦ (se_vB 3 rfl vi_law_3 dd_book dc_book) sa_nil) dd_book_text) rfl (.inl rfl))
  (sb_cons hΦ (ss_ite hΦ (SW.t (sw_or hΦ (st_not hΦ (st_of hΦ (se_isT hΦ .str gl_law_isinstance T.b_isinstance bt_isinstance (by decide) dd_isinstance (se_vB 5 rfl vi_law_5 dd_told dc_told) (pe_bltn gl_law_str T.b_str bt_str rfl)))) (sw_or hΦ (st_eq hΦ hu .ne (se_vB 5 rfl vi_law_5 dd_told dc_told) (se_vB 4 rfl vi_law_4 dd_due dc_due)) (sw_or hΦ (st_eq hΦ hu .ne (se_call (f := "book_text") (m := .val) hΦ Tn.t_book_text hr (takes_of rfl rfl rfl rfl) gl_law_book_text (sa_cons hΦ (se_vB 3 rfl vi_law_3 dd_book dc_book) sa_nil) dd_book_text) (se_vB 4 rfl vi_law_4 dd_due dc_due)) (sw_or1 (st_eq hΦ hu .ne (se_vB 3 rfl vi_law_3 dd_book dc_book) (se_call (f := "_law_book") (m := .val) hΦ Tn.t__law_book hr (takes_of rfl rfl rfl rfl) gl_law__law_book (sa_cons hΦ (se_vB 1 rfl vi_law_1 dd_cells dc_cells) (sa_cons hΦ se_int sa_nil)) dd__law_book))))))) (sb_one (ss_ret hΦ se_bl)) sb_nil)
  (sb_one (ss_asg (i := 1) hΦ sc_law.nd rfl (lo_law_1) (se_bin hΦ .add (se_sl hΦ (se_vB 1 rfl vi_law_1 dd_cells dc_cells) (so_some hΦ se_int) so_none) (se_sl hΦ (se_vB 1 rfl vi_law_1 dd_cells dc_cells) so_none (so_some hΦ se_int))) rfl (.inl rfl))))))))
  (sb_one (ss_ret hΦ se_bl))))
end Mi.k12
namespace Mi.k12
open PySem (Str)
open Mi
def depth : Nat := 40
theorem mxP : MxP PR := ⟨pr__law_take, pr__law_value, pr__law_expression⟩
theorem mrP : MrP PR := ⟨mxP, pr__law_call, pr__law_row, pr__law_rows⟩
theorem mbP : MbP PR := ⟨mrP, pr__law_pool, pr__law_some⟩
theorem etP : EtOk PR "expression_text" := fun x n μ Q X h1 h2 h3 q => ex_text_ok pr_expression_text x n Q X h1 h2 h3 q
theorem etL : EtOk PR "_law_written" := fun x n μ Q X h1 h2 h3 q => l_written_ok pr__law_written x n Q X h1 h2 h3 q
theorem atP : AtOk PR "all_texts" 3 := at_prog pr_all_texts pr_row_texts pr_expression_text 3
theorem atL : AtOk PR "_law_texts" 3 := at_law pr__law_texts pr__law_row_texts pr__law_written 3
theorem law_pure (ns : List Int) (hn : ns.length ≤ 63) : phi PR (depth + 1) "law" .val [.lst (ns.map Val.int)] (fun _ => none) (fun v _ => v = .bl true) (fun _ _ => False) := by
  refine call_ok pr_law rfl ?_
  have hΦ := phi_mono PR depth
  unfold D.law_k12
  rw [w_seq]
  simp [e_v, e_c, e_tup, e_lst, e_dct, s_nil, s_cons, e_ix, e_sl, e_bin, e_cmp, e_eq, e_ne, e_in, e_nin, e_isN, e_notN, e_chain, e_neg, e_not, e_and, e_or, e_ite, e_call, e_bi, e_me, e_isT, e_new, e_attr, e_mth, e_mk, w_setattr, w_skip, w_ex, w_asg, w_asgT, w_setix, w_ite, w_ret, w_raise]
  refine cells_okM pr__law_cells hn (by decide) fun cs hcs => ?_
  rw [w_seq]
  refine for_T (fun (k : Nat) => Val.int (k : Int)) (List.range 2) hΦ (i_range.mpr ?_)
  simp [e_v, e_c, e_tup, e_lst, e_dct, s_nil, s_cons, e_ix, e_sl, e_bin, e_cmp, e_eq, e_ne, e_in, e_nin, e_isN, e_notN, e_chain, e_neg, e_not, e_and, e_or, e_ite, e_call, e_bi, e_me, e_isT, e_new, e_attr, e_mth, e_mk, w_setattr, w_skip, w_ex, w_asg, w_asgT, w_setix, w_ite, w_ret, w_raise]
  refine ⟨by rfl, fun ys env' μ' => ∃ (cs : List Int) (o2 o3 o4 o5 : Option Val), env' = [some (.lst (ns.map .int)), some (.lst (cs.map .int)), o2, o3, o4, o5] ∧ cs.length ≤ 9 * 2 ^ ys.length, ⟨cs, _, _, _, _, rfl, by simpa using hcs⟩, ?_, ?_⟩
  · rintro ys x zs env' μ' e ⟨cs, o2, o3, o4, o5, rfl, hl⟩
    refine ⟨trivial, ?_⟩
    have hyl : ys.length ≤ 1 := by
      have := congrArg List.length e
      simp at this
      omega
    have hcl : cs.length ≤ 18 := by
      have h1 : 2 ^ ys.length ≤ 2 ^ 1 := Nat.pow_le_pow_right (by decide) hyl
      omega
    have hsame := fun (m : Mu) (hB : BkM 20 (bookS cs)) => bkL_same (μ := m) hB.l
    have htp : ∀ (m : Mu) (s : Str), tyV m .str (.str s) = some true := fun _ _ => rfl
    simp
    rw [w_seq]
    simp [e_v, e_c, e_tup, e_lst, e_dct, s_nil, s_cons, e_ix, e_sl, e_bin, e_cmp, e_eq, e_ne, e_in, e_nin, e_isN, e_notN, e_chain, e_neg, e_not, e_and, e_or, e_ite, e_call, e_bi, e_me, e_isT, e_new, e_attr, e_mth, e_mk, w_setattr, w_skip, w_ex, w_asg, w_asgT, w_setix, w_ite, w_ret, w_raise]
    refine book_okM (n := depth) mbP pr__law_book (by omega) (by decide) fun hB => ?_
    rw [w_seq]
    simp [e_v, e_c, e_tup, e_lst, e_dct, s_nil, s_cons, e_ix, e_sl, e_bin, e_cmp, e_eq, e_ne, e_in, e_nin, e_isN, e_notN, e_chain, e_neg, e_not, e_and, e_or, e_ite, e_call, e_bi, e_me, e_isT, e_new, e_attr, e_mth, e_mk, w_setattr, w_skip, w_ex, w_asg, w_asgT, w_setix, w_ite, w_ret, w_raise]
    refine l_book_texts_ok (n := depth) pr__law_book_texts atL etL hB.l hB.len (by decide) ?_
    rw [bi_join (l := bkT (bookS cs)) rfl (bk_sum hB.l hB.len)]
    simp only [brV_some]
    rw [w_seq]
    simp [e_v, e_c, e_tup, e_lst, e_dct, s_nil, s_cons, e_ix, e_sl, e_bin, e_cmp, e_eq, e_ne, e_in, e_nin, e_isN, e_notN, e_chain, e_neg, e_not, e_and, e_or, e_ite, e_call, e_bi, e_me, e_isT, e_new, e_attr, e_mth, e_mk, w_setattr, w_skip, w_ex, w_asg, w_asgT, w_setix, w_ite, w_ret, w_raise]
    refine book_text_ok (n := depth) pr_book_text atP etP hB.l hB.len (by decide) ?_
    refine w_seq_id hΦ ?_ ?_
    · simp [e_v, e_c, e_tup, e_lst, e_dct, s_nil, s_cons, e_ix, e_sl, e_bin, e_cmp, e_eq, e_ne, e_in, e_nin, e_isN, e_notN, e_chain, e_neg, e_not, e_and, e_or, e_ite, e_call, e_bi, e_me, e_isT, e_new, e_attr, e_mth, e_mk, w_setattr, w_skip, w_ex, w_asg, w_asgT, w_setix, w_ite, w_ret, w_raise, htp]
      refine book_text_ok (n := depth) pr_book_text atP etP hB.l hB.len (by decide) ?_
      simp
      refine book_okM (n := depth) mbP pr__law_book (by omega) (by decide) fun _ => ?_
      rw [hsame _ hB]
      simp
    · simp [e_v, e_c, e_tup, e_lst, e_dct, s_nil, s_cons, e_ix, e_sl, e_bin, e_cmp, e_eq, e_ne, e_in, e_nin, e_isN, e_notN, e_chain, e_neg, e_not, e_and, e_or, e_ite, e_call, e_bi, e_me, e_isT, e_new, e_attr, e_mth, e_mk, w_setattr, w_skip, w_ex, w_asg, w_asgT, w_setix, w_ite, w_ret, w_raise, cutL_mapS, -List.map_append]
      have h1 := cutL_lenS cs (some 1) none
      have h2 := cutL_lenS cs none (some 1)
      have h3 : 9 * 2 ^ (ys.length + 1) = 2 * (9 * 2 ^ ys.length) := by rw [Nat.pow_succ]; omega
      refine ⟨by rw [big_eq]; omega, cutL cs (some 1) none ++ cutL cs none (some 1), by rw [List.map_append], ?_⟩
      rw [List.length_append, h3]
      omega
  · rintro env' μ' _
    exact ⟨trivial, rfl⟩
end Mi.k12
namespace Mi.k12
open PySem PySem.Spec PyProof.Rows L2 Mi
theorem all_mk {P : Program} {w : World} {K : Fr} {h : Heap} {mg : Str → Option Value} {fa : Addr} (X : K.In h) (G : h.Ns mainGlobals mg) (hfa : mg "law" = some (.ref fa))
    {f_expression_text : Addr} {od_expression_text an_expression_text : Option Addr} {sl_expression_text : Array (Option Value)} {oc_expression_text kV_expression_text dc_expression_text pm_expression_text cd_expression_text ct_expression_text : Value} {f_row_texts : Addr} {od_row_texts an_row_texts : Option Addr} {sl_row_texts : Array (Option Value)} {oc_row_texts kV_row_texts dc_row_texts pm_row_texts cd_row_texts ct_row_texts : Value} {f_all_texts : Addr} {od_all_texts an_all_texts : Option Addr} {sl_all_texts : Array (Option Value)} {oc_all_texts kV_all_texts dc_all_texts pm_all_texts cd_all_texts ct_all_texts : Value} {f_book_text : Addr} {od_book_text an_book_text : Option Addr} {sl_book_text : Array (Option Value)} {oc_book_text kV_book_text dc_book_text pm_book_text cd_book_text ct_book_text : Value} {f__law_cells : Addr} {od__law_cells an__law_cells : Option Addr} {sl__law_cells : Array (Option Value)} {oc__law_cells kV__law_cells dc__law_cells pm__law_cells cd__law_cells ct__law_cells : Value} {f__law_pool : Addr} {od__law_pool an__law_pool : Option Addr} {sl__law_pool : Array (Option Value)} {oc__law_pool kV__law_pool dc__law_pool pm__law_pool cd__law_pool ct__law_pool : Value} {f__law_take : Addr} {od__law_take an__law_take : Option Addr} {sl__law_take : Array (Option Value)} {oc__law_take kV__law_take dc__law_take pm__law_take cd__law_take ct__law_take : Value} {f__law_some : Addr} {od__law_some an__law_some : Option Addr} {sl__law_some : Array (Option Value)} {oc__law_some kV__law_some dc__law_some pm__law_some cd__law_some ct__law_some : Value} {f__law_value : Addr} {od__law_value an__law_value : Option Addr} {sl__law_value : Array (Option Value)} {oc__law_value kV__law_value dc__law_value pm__law_value cd__law_value ct__law_value : Value} {f__law_expression : Addr} {od__law_expression an__law_expression : Option Addr} {sl__law_expression : Array (Option Value)} {oc__law_expression kV__law_expression dc__law_expression pm__law_expression cd__law_expression ct__law_expression : Value} {f__law_call : Addr} {od__law_call an__law_call : Option Addr} {sl__law_call : Array (Option Value)} {oc__law_call kV__law_call dc__law_call pm__law_call cd__law_call ct__law_call : Value} {f__law_row : Addr} {od__law_row an__law_row : Option Addr} {sl__law_row : Array (Option Value)} {oc__law_row kV__law_row dc__law_row pm__law_row cd__law_row ct__law_row : Value} {f__law_rows : Addr} {od__law_rows an__law_rows : Option Addr} {sl__law_rows : Array (Option Value)} {oc__law_rows kV__law_rows dc__law_rows pm__law_rows cd__law_rows ct__law_rows : Value} {f__law_book : Addr} {od__law_book an__law_book : Option Addr} {sl__law_book : Array (Option Value)} {oc__law_book kV__law_book dc__law_book pm__law_book cd__law_book ct__law_book : Value} {f__law_written : Addr} {od__law_written an__law_written : Option Addr} {sl__law_written : Array (Option Value)} {oc__law_written kV__law_written dc__law_written pm__law_written cd__law_written ct__law_written : Value} {f__law_row_texts : Addr} {od__law_row_texts an__law_row_texts : Option Addr} {sl__law_row_texts : Array (Option Value)} {oc__law_row_texts kV__law_row_texts dc__law_row_texts pm__law_row_texts cd__law_row_texts ct__law_row_texts : Value} {f__law_texts : Addr} {od__law_texts an__law_texts : Option Addr} {sl__law_texts : Array (Option Value)} {oc__law_texts kV__law_texts dc__law_texts pm__law_texts cd__law_texts ct__law_texts : Value} {f__law_book_texts : Addr} {od__law_book_texts an__law_book_texts : Option Addr} {sl__law_book_texts : Array (Option Value)} {oc__law_book_texts kV__law_book_texts dc__law_book_texts pm__law_book_texts cd__law_book_texts ct__law_book_texts : Value} {f_law : Addr} {od_law an_law : Option Addr} {sl_law : Array (Option Value)} {oc_law kV_law dc_law pm_law cd_law ct_law : Value} {da_SIGNS : Addr} {ep_SIGNS : Nat} {tk_SIGNS_0 tv_SIGNS_0 : Tok} {tk_SIGNS_1 tv_SIGNS_1 : Tok} {tk_SIGNS_2 tv_SIGNS_2 : Tok} {tk_SIGNS_3 tv_SIGNS_3 : Tok} {tk_SIGNS_4 tv_SIGNS_4 : Tok} {tk_SIGNS_5 tv_SIGNS_5 : Tok} {tk_SIGNS_6 tv_SIGNS_6 : Tok}
    (a_expression_text : PySem.W.nsIn K mainGlobals "expression_text" = some (some (.ref f_expression_text)))
    (l_expression_text : K.lookup f_expression_text = some ⟨oc_expression_text, od_expression_text, .func (PySem.W.fnOf "expression_text" "expression_text" (defArgs s_expression_text) (defBody s_expression_text) (defScope s_expression_text) .none kV_expression_text dc_expression_text pm_expression_text an_expression_text cd_expression_text ct_expression_text), sl_expression_text⟩)
    (c_expression_text : PySem.W.codeIn K cd_expression_text "expression_text" = true)
    (k_expression_text : PySem.W.keepIn K (.ref f_expression_text) = true)
    (a_row_texts : PySem.W.nsIn K mainGlobals "row_texts" = some (some (.ref f_row_texts)))
    (l_row_texts : K.lookup f_row_texts = some ⟨oc_row_texts, od_row_texts, .func (PySem.W.fnOf "row_texts" "row_texts" (defArgs s_row_texts) (defBody s_row_texts) (defScope s_row_texts) .none kV_row_texts dc_row_texts pm_row_texts an_row_texts cd_row_texts ct_row_texts), sl_row_texts⟩)
    (c_row_texts : PySem.W.codeIn K cd_row_texts "row_texts" = true)
    (k_row_texts : PySem.W.keepIn K (.ref f_row_texts) = true)
    (a_all_texts : PySem.W.nsIn K mainGlobals "all_texts" = some (some (.ref f_all_texts)))
    (l_all_texts : K.lookup f_all_texts = some ⟨oc_all_texts, od_all_texts, .func (PySem.W.fnOf "all_texts" "all_texts" (defArgs s_all_texts) (defBody s_all_texts) (defScope s_all_texts) .none kV_all_texts dc_all_texts pm_all_texts an_all_texts cd_all_texts ct_all_texts), sl_all_texts⟩)
    (c_all_texts : PySem.W.codeIn K cd_all_texts "all_texts" = true)
    (k_all_texts : PySem.W.keepIn K (.ref f_all_texts) = true)
    (a_book_text : PySem.W.nsIn K mainGlobals "book_text" = some (some (.ref f_book_text)))
    (l_book_text : K.lookup f_book_text = some ⟨oc_book_text, od_book_text, .func (PySem.W.fnOf "book_text" "book_text" (defArgs s_book_text) (defBody s_book_text) (defScope s_book_text) .none kV_book_text dc_book_text pm_book_text an_book_text cd_book_text ct_book_text), sl_book_text⟩)
    (c_book_text : PySem.W.codeIn K cd_book_text "book_text" = true)
    (k_book_text : PySem.W.keepIn K (.ref f_book_text) = true)
    (a__law_cells : PySem.W.nsIn K mainGlobals "_law_cells" = some (some (.ref f__law_cells)))
    (l__law_cells : K.lookup f__law_cells = some ⟨oc__law_cells, od__law_cells, .func (PySem.W.fnOf "_law_cells" "_law_cells" (defArgs s__law_cells) (defBody s__law_cells) (defScope s__law_cells) .none kV__law_cells dc__law_cells pm__law_cells an__law_cells cd__law_cells ct__law_cells), sl__law_cells⟩)
    (c__law_cells : PySem.W.codeIn K cd__law_cells "_law_cells" = true)
    (k__law_cells : PySem.W.keepIn K (.ref f__law_cells) = true)
    (a__law_pool : PySem.W.nsIn K mainGlobals "_law_pool" = some (some (.ref f__law_pool)))
    (l__law_pool : K.lookup f__law_pool = some ⟨oc__law_pool, od__law_pool, .func (PySem.W.fnOf "_law_pool" "_law_pool" (defArgs s__law_pool) (defBody s__law_pool) (defScope s__law_pool) .none kV__law_pool dc__law_pool pm__law_pool an__law_pool cd__law_pool ct__law_pool), sl__law_pool⟩)
    (c__law_pool : PySem.W.codeIn K cd__law_pool "_law_pool" = true)
    (k__law_pool : PySem.W.keepIn K (.ref f__law_pool) = true)
    (a__law_take : PySem.W.nsIn K mainGlobals "_law_take" = some (some (.ref f__law_take)))
    (l__law_take : K.lookup f__law_take = some ⟨oc__law_take, od__law_take, .func (PySem.W.fnOf "_law_take" "_law_take" (defArgs s__law_take) (defBody s__law_take) (defScope s__law_take) .none kV__law_take dc__law_take pm__law_take an__law_take cd__law_take ct__law_take), sl__law_take⟩)
    (c__law_take : PySem.W.codeIn K cd__law_take "_law_take" = true)
    (k__law_take : PySem.W.keepIn K (.ref f__law_take) = true)
    (a__law_some : PySem.W.nsIn K mainGlobals "_law_some" = some (some (.ref f__law_some)))
    (l__law_some : K.lookup f__law_some = some ⟨oc__law_some, od__law_some, .func (PySem.W.fnOf "_law_some" "_law_some" (defArgs s__law_some) (defBody s__law_some) (defScope s__law_some) .none kV__law_some dc__law_some pm__law_some an__law_some cd__law_some ct__law_some), sl__law_some⟩)
    (c__law_some : PySem.W.codeIn K cd__law_some "_law_some" = true)
    (k__law_some : PySem.W.keepIn K (.ref f__law_some) = true)
    (a__law_value : PySem.W.nsIn K mainGlobals "_law_value" = some (some (.ref f__law_value)))
    (l__law_value : K.lookup f__law_value = some ⟨oc__law_value, od__law_value, .func (PySem.W.fnOf "_law_value" "_law_value" (defArgs s__law_value) (defBody s__law_value) (defScope s__law_value) .none kV__law_value dc__law_value pm__law_value an__law_value cd__law_value ct__law_value), sl__law_value⟩)
    (c__law_value : PySem.W.codeIn K cd__law_value "_law_value" = true)
    (k__law_value : PySem.W.keepIn K (.ref f__law_value) = true)
    (a__law_expression : PySem.W.nsIn K mainGlobals "_law_expression" = some (some (.ref f__law_expression)))
    (l__law_expression : K.lookup f__law_expression = some ⟨oc__law_expression, od__law_expression, .func (PySem.W.fnOf "_law_expression" "_law_expression" (defArgs s__law_expression) (defBody s__law_expression) (defScope s__law_expression) .none kV__law_expression dc__law_expression pm__law_expression an__law_expression cd__law_expression ct__law_expression), sl__law_expression⟩)
    (c__law_expression : PySem.W.codeIn K cd__law_expression "_law_expression" = true)
    (k__law_expression : PySem.W.keepIn K (.ref f__law_expression) = true)
    (a__law_call : PySem.W.nsIn K mainGlobals "_law_call" = some (some (.ref f__law_call)))
    (l__law_call : K.lookup f__law_call = some ⟨oc__law_call, od__law_call, .func (PySem.W.fnOf "_law_call" "_law_call" (defArgs s__law_call) (defBody s__law_call) (defScope s__law_call) .none kV__law_call dc__law_call pm__law_call an__law_call cd__law_call ct__law_call), sl__law_call⟩)
    (c__law_call : PySem.W.codeIn K cd__law_call "_law_call" = true)
    (k__law_call : PySem.W.keepIn K (.ref f__law_call) = true)
    (a__law_row : PySem.W.nsIn K mainGlobals "_law_row" = some (some (.ref f__law_row)))
    (l__law_row : K.lookup f__law_row = some ⟨oc__law_row, od__law_row, .func (PySem.W.fnOf "_law_row" "_law_row" (defArgs s__law_row) (defBody s__law_row) (defScope s__law_row) .none kV__law_row dc__law_row pm__law_row an__law_row cd__law_row ct__law_row), sl__law_row⟩)
    (c__law_row : PySem.W.codeIn K cd__law_row "_law_row" = true)
    (k__law_row : PySem.W.keepIn K (.ref f__law_row) = true)
    (a__law_rows : PySem.W.nsIn K mainGlobals "_law_rows" = some (some (.ref f__law_rows)))
    (l__law_rows : K.lookup f__law_rows = some ⟨oc__law_rows, od__law_rows, .func (PySem.W.fnOf "_law_rows" "_law_rows" (defArgs s__law_rows) (defBody s__law_rows) (defScope s__law_rows) .none kV__law_rows dc__law_rows pm__law_rows an__law_rows cd__law_rows ct__law_rows), sl__law_rows⟩)
    (c__law_rows : PySem.W.codeIn K cd__law_rows "_law_rows" = true)
    (k__law_rows : PySem.W.keepIn K (.ref f__law_rows) = true)
    (a__law_book : PySem.W.nsIn K mainGlobals "_law_book" = some (some (.ref f__law_book)))
    (l__law_book : K.lookup f__law_book = some ⟨oc__law_book, od__law_book, .func (PySem.W.fnOf "_law_book" "_law_book" (defArgs s__law_book) (defBody s__law_book) (defScope s__law_book) .none kV__law_book dc__law_book pm__law_book an__law_book cd__law_book ct__law_book), sl__law_book⟩)
    (c__law_book : PySem.W.codeIn K cd__law_book "_law_book" = true)
    (k__law_book : PySem.W.keepIn K (.ref f__law_book) = true)
    (a__law_written : PySem.W.nsIn K mainGlobals "_law_written" = some (some (.ref f__law_written)))
    (l__law_written : K.lookup f__law_written = some ⟨oc__law_written, od__law_written, .func (PySem.W.fnOf "_law_written" "_law_written" (defArgs s__law_written) (defBody s__law_written) (defScope s__law_written) .none kV__law_written dc__law_written pm__law_written an__law_written cd__law_written ct__law_written), sl__law_written⟩)
    (c__law_written : PySem.W.codeIn K cd__law_written "_law_written" = true)
    (k__law_written : PySem.W.keepIn K (.ref f__law_written) = true)
    (a__law_row_texts : PySem.W.nsIn K mainGlobals "_law_row_texts" = some (some (.ref f__law_row_texts)))
    (l__law_row_texts : K.lookup f__law_row_texts = some ⟨oc__law_row_texts, od__law_row_texts, .func (PySem.W.fnOf "_law_row_texts" "_law_row_texts" (defArgs s__law_row_texts) (defBody s__law_row_texts) (defScope s__law_row_texts) .none kV__law_row_texts dc__law_row_texts pm__law_row_texts an__law_row_texts cd__law_row_texts ct__law_row_texts), sl__law_row_texts⟩)
    (c__law_row_texts : PySem.W.codeIn K cd__law_row_texts "_law_row_texts" = true)
    (k__law_row_texts : PySem.W.keepIn K (.ref f__law_row_texts) = true)
    (a__law_texts : PySem.W.nsIn K mainGlobals "_law_texts" = some (some (.ref f__law_texts)))
    (l__law_texts : K.lookup f__law_texts = some ⟨oc__law_texts, od__law_texts, .func (PySem.W.fnOf "_law_texts" "_law_texts" (defArgs s__law_texts) (defBody s__law_texts) (defScope s__law_texts) .none kV__law_texts dc__law_texts pm__law_texts an__law_texts cd__law_texts ct__law_texts), sl__law_texts⟩)
    (c__law_texts : PySem.W.codeIn K cd__law_texts "_law_texts" = true)
    (k__law_texts : PySem.W.keepIn K (.ref f__law_texts) = true)
    (a__law_book_texts : PySem.W.nsIn K mainGlobals "_law_book_texts" = some (some (.ref f__law_book_texts)))
    (l__law_book_texts : K.lookup f__law_book_texts = some ⟨oc__law_book_texts, od__law_book_texts, .func (PySem.W.fnOf "_law_book_texts" "_law_book_texts" (defArgs s__law_book_texts) (defBody s__law_book_texts) (defScope s__law_book_texts) .none kV__law_book_texts dc__law_book_texts pm__law_book_texts an__law_book_texts cd__law_book_texts ct__law_book_texts), sl__law_book_texts⟩)
    (c__law_book_texts : PySem.W.codeIn K cd__law_book_texts "_law_book_texts" = true)
    (k__law_book_texts : PySem.W.keepIn K (.ref f__law_book_texts) = true)
    (a_law : PySem.W.nsIn K mainGlobals "law" = some (some (.ref f_law)))
    (l_law : K.lookup f_law = some ⟨oc_law, od_law, .func (PySem.W.fnOf "law" "law" (defArgs s_law) (defBody s_law) (defScope s_law) .none kV_law dc_law pm_law an_law cd_law ct_law), sl_law⟩)
    (c_law : PySem.W.codeIn K cd_law "law" = true)
    (k_law : PySem.W.keepIn K (.ref f_law) = true)
    (n_abs : PySem.W.nsIn K mainGlobals "abs" = some none)
    (n_enumerate : PySem.W.nsIn K mainGlobals "enumerate" = some none)
    (n_int : PySem.W.nsIn K mainGlobals "int" = some none)
    (n_isinstance : PySem.W.nsIn K mainGlobals "isinstance" = some none)
    (n_len : PySem.W.nsIn K mainGlobals "len" = some none)
    (n_list : PySem.W.nsIn K mainGlobals "list" = some none)
    (n_range : PySem.W.nsIn K mainGlobals "range" = some none)
    (n_str : PySem.W.nsIn K mainGlobals "str" = some none)
    (n_tuple : PySem.W.nsIn K mainGlobals "tuple" = some none)
    (da_SIGNS_a : PySem.W.nsIn K mainGlobals "SIGNS" = some (some (.ref da_SIGNS)))
    (da_SIGNS_l : K.lookup da_SIGNS = some { cls := .type "dict", data := .dict #[⟨hashStr w (Str.ofString "plus"), .str (Str.ofString "plus") tk_SIGNS_0, .str (Str.ofString "+") tv_SIGNS_0⟩, ⟨hashStr w (Str.ofString "less"), .str (Str.ofString "less") tk_SIGNS_1, .str (Str.ofString "-") tv_SIGNS_1⟩, ⟨hashStr w (Str.ofString "times"), .str (Str.ofString "times") tk_SIGNS_2, .str (Str.ofString "*") tv_SIGNS_2⟩, ⟨hashStr w (Str.ofString "over"), .str (Str.ofString "over") tk_SIGNS_3, .str (Str.ofString "/") tv_SIGNS_3⟩, ⟨hashStr w (Str.ofString "rest"), .str (Str.ofString "rest") tk_SIGNS_4, .str (Str.ofString ":") tv_SIGNS_4⟩, ⟨hashStr w (Str.ofString "under"), .str (Str.ofString "under") tk_SIGNS_5, .str (Str.ofString "<") tv_SIGNS_5⟩, ⟨hashStr w (Str.ofString "same"), .str (Str.ofString "same") tk_SIGNS_6, .str (Str.ofString "=") tv_SIGNS_6⟩] ep_SIGNS })
    : ∃ fd : FuncData, (∀ (s : Shared) (v : Value), BindsTo s fd ⟨[v], []⟩ [("script", v)]) ∧ ∀ base : Heap, K.In base → base.Ns mainGlobals mg → FnOk P w K mg base (L2.CX P w) (depth + 2) fa fd ["script"] (spLaw K) := by
  have e := hfa.symm.trans (PySem.W.mg_of X G a_law)
  cases e
  have T : Tx K mg := ⟨PySem.W.mg_none_of X G n_abs, PySem.W.mg_none_of X G n_enumerate, PySem.W.mg_none_of X G n_int, PySem.W.mg_none_of X G n_isinstance, PySem.W.mg_none_of X G n_len, PySem.W.mg_none_of X G n_list, PySem.W.mg_none_of X G n_range, PySem.W.mg_none_of X G n_str, PySem.W.mg_none_of X G n_tuple⟩
  have D_SIGNS : GDict P w K mg "SIGNS" Mi.k12.gT_SIGNS := gdict_of (PySem.W.mg_of X G da_SIGNS_a) da_SIGNS_l [(tk_SIGNS_0, tv_SIGNS_0), (tk_SIGNS_1, tv_SIGNS_1), (tk_SIGNS_2, tv_SIGNS_2), (tk_SIGNS_3, tv_SIGNS_3), (tk_SIGNS_4, tv_SIGNS_4), (tk_SIGNS_5, tv_SIGNS_5), (tk_SIGNS_6, tv_SIGNS_6)] (by decide +kernel) rfl rfl
  have F_expression_text := fun_mk (st := s_expression_text) l_expression_text c_expression_text k_expression_text
  have b_expression_text := F_expression_text.binds (ps := ps_expression_text) fun _ _ _ _ _ _ us hl => match us, hl with | [_], _ => rfl
  have F_row_texts := fun_mk (st := s_row_texts) l_row_texts c_row_texts k_row_texts
  have b_row_texts := F_row_texts.binds (ps := ps_row_texts) fun _ _ _ _ _ _ us hl => match us, hl with | [_], _ => rfl
  have F_all_texts := fun_mk (st := s_all_texts) l_all_texts c_all_texts k_all_texts
  have b_all_texts := F_all_texts.binds (ps := ps_all_texts) fun _ _ _ _ _ _ us hl => match us, hl with | [_], _ => rfl
  have F_book_text := fun_mk (st := s_book_text) l_book_text c_book_text k_book_text
  have b_book_text := F_book_text.binds (ps := ps_book_text) fun _ _ _ _ _ _ us hl => match us, hl with | [_], _ => rfl
  have F__law_cells := fun_mk (st := s__law_cells) l__law_cells c__law_cells k__law_cells
  have b__law_cells := F__law_cells.binds (ps := ps__law_cells) fun _ _ _ _ _ _ us hl => match us, hl with | [_, _], _ => rfl
  have F__law_pool := fun_mk (st := s__law_pool) l__law_pool c__law_pool k__law_pool
  have b__law_pool := F__law_pool.binds (ps := ps__law_pool) fun _ _ _ _ _ _ us hl => match us, hl with | [_, _], _ => rfl
  have F__law_take := fun_mk (st := s__law_take) l__law_take c__law_take k__law_take
  have b__law_take := F__law_take.binds (ps := ps__law_take) fun _ _ _ _ _ _ us hl => match us, hl with | [_, _], _ => rfl
  have F__law_some := fun_mk (st := s__law_some) l__law_some c__law_some k__law_some
  have b__law_some := F__law_some.binds (ps := ps__law_some) fun _ _ _ _ _ _ us hl => match us, hl with | [_, _, _], _ => rfl
  have F__law_value := fun_mk (st := s__law_value) l__law_value c__law_value k__law_value
  have b__law_value := F__law_value.binds (ps := ps__law_value) fun _ _ _ _ _ _ us hl => match us, hl with | [_], _ => rfl
  have F__law_expression := fun_mk (st := s__law_expression) l__law_expression c__law_expression k__law_expression
  have b__law_expression := F__law_expression.binds (ps := ps__law_expression) fun _ _ _ _ _ _ us hl => match us, hl with | [_, _, _], _ => rfl
  have F__law_call := fun_mk (st := s__law_call) l__law_call c__law_call k__law_call
  have b__law_call := F__law_call.binds (ps := ps__law_call) fun _ _ _ _ _ _ us hl => match us, hl with | [_, _, _], _ => rfl
  have F__law_row := fun_mk (st := s__law_row) l__law_row c__law_row k__law_row
  have b__law_row := F__law_row.binds (ps := ps__law_row) fun _ _ _ _ _ _ us hl => match us, hl with | [_, _, _, _], _ => rfl
  have F__law_rows := fun_mk (st := s__law_rows) l__law_rows c__law_rows k__law_rows
  have b__law_rows := F__law_rows.binds (ps := ps__law_rows) fun _ _ _ _ _ _ us hl => match us, hl with | [_, _, _, _], _ => rfl
  have F__law_book := fun_mk (st := s__law_book) l__law_book c__law_book k__law_book
  have b__law_book := F__law_book.binds (ps := ps__law_book) fun _ _ _ _ _ _ us hl => match us, hl with | [_, _], _ => rfl
  have F__law_written := fun_mk (st := s__law_written) l__law_written c__law_written k__law_written
  have b__law_written := F__law_written.binds (ps := ps__law_written) fun _ _ _ _ _ _ us hl => match us, hl with | [_], _ => rfl
  have F__law_row_texts := fun_mk (st := s__law_row_texts) l__law_row_texts c__law_row_texts k__law_row_texts
  have b__law_row_texts := F__law_row_texts.binds (ps := ps__law_row_texts) fun _ _ _ _ _ _ us hl => match us, hl with | [_], _ => rfl
  have F__law_texts := fun_mk (st := s__law_texts) l__law_texts c__law_texts k__law_texts
  have b__law_texts := F__law_texts.binds (ps := ps__law_texts) fun _ _ _ _ _ _ us hl => match us, hl with | [_], _ => rfl
  have F__law_book_texts := fun_mk (st := s__law_book_texts) l__law_book_texts c__law_book_texts k__law_book_texts
  have b__law_book_texts := F__law_book_texts.binds (ps := ps__law_book_texts) fun _ _ _ _ _ _ us hl => match us, hl with | [_], _ => rfl
  have F_law := fun_mk (st := s_law) l_law c_law k_law
  have b_law := F_law.binds (ps := ps_law) fun _ _ _ _ _ _ us hl => match us, hl with | [_], _ => rfl
  have tab : ∀ (base : Heap) (n : Nat), Tab P w K mg base (phi PR n) (n + 1) := fun base n => by
    induction n with
    | zero => exact ⟨fn_zero k_expression_text (PySem.W.mg_of X G a_expression_text) b_expression_text, fn_zero k_row_texts (PySem.W.mg_of X G a_row_texts) b_row_texts, fn_zero k_all_texts (PySem.W.mg_of X G a_all_texts) b_all_texts, fn_zero k_book_text (PySem.W.mg_of X G a_book_text) b_book_text, fn_zero k__law_cells (PySem.W.mg_of X G a__law_cells) b__law_cells, fn_zero k__law_pool (PySem.W.mg_of X G a__law_pool) b__law_pool, fn_zero k__law_take (PySem.W.mg_of X G a__law_take) b__law_take, fn_zero k__law_some (PySem.W.mg_of X G a__law_some) b__law_some, fn_zero k__law_value (PySem.W.mg_of X G a__law_value) b__law_value, fn_zero k__law_expression (PySem.W.mg_of X G a__law_expression) b__law_expression, fn_zero k__law_call (PySem.W.mg_of X G a__law_call) b__law_call, fn_zero k__law_row (PySem.W.mg_of X G a__law_row) b__law_row, fn_zero k__law_rows (PySem.W.mg_of X G a__law_rows) b__law_rows, fn_zero k__law_book (PySem.W.mg_of X G a__law_book) b__law_book, fn_zero k__law_written (PySem.W.mg_of X G a__law_written) b__law_written, fn_zero k__law_row_texts (PySem.W.mg_of X G a__law_row_texts) b__law_row_texts, fn_zero k__law_texts (PySem.W.mg_of X G a__law_texts) b__law_texts, fn_zero k__law_book_texts (PySem.W.mg_of X G a__law_book_texts) b__law_book_texts, fn_zero k_law (PySem.W.mg_of X G a_law) b_law, D_SIGNS⟩
    | succ n ih => exact ⟨fn_ok F_expression_text (PySem.W.mg_of X G a_expression_text) b_expression_text sc_expression_text pr_expression_text rfl rfl fun cdv A outer s H E hr => Mi.k12.b_expression_text T ih cdv A outer s H E hr,
      fn_ok F_row_texts (PySem.W.mg_of X G a_row_texts) b_row_texts sc_row_texts pr_row_texts rfl rfl fun cdv A outer s H E hr => Mi.k12.b_row_texts T ih cdv A outer s H E hr,
      fn_ok F_all_texts (PySem.W.mg_of X G a_all_texts) b_all_texts sc_all_texts pr_all_texts rfl rfl fun cdv A outer s H E hr => Mi.k12.b_all_texts T ih cdv A outer s H E hr,
      fn_ok F_book_text (PySem.W.mg_of X G a_book_text) b_book_text sc_book_text pr_book_text rfl rfl fun cdv A outer s H E hr => Mi.k12.b_book_text T ih cdv A outer s H E hr,
      fn_ok F__law_cells (PySem.W.mg_of X G a__law_cells) b__law_cells sc__law_cells pr__law_cells rfl rfl fun cdv A outer s H E hr => Mi.k12.b__law_cells T ih cdv A outer s H E hr,
      fn_ok F__law_pool (PySem.W.mg_of X G a__law_pool) b__law_pool sc__law_pool pr__law_pool rfl rfl fun cdv A outer s H E hr => Mi.k12.b__law_pool T ih cdv A outer s H E hr,
      fn_ok F__law_take (PySem.W.mg_of X G a__law_take) b__law_take sc__law_take pr__law_take rfl rfl fun cdv A outer s H E hr => Mi.k12.b__law_take T ih cdv A outer s H E hr,
      fn_ok F__law_some (PySem.W.mg_of X G a__law_some) b__law_some sc__law_some pr__law_some rfl rfl fun cdv A outer s H E hr => Mi.k12.b__law_some T ih cdv A outer s H E hr,
      fn_ok F__law_value (PySem.W.mg_of X G a__law_value) b__law_value sc__law_value pr__law_value rfl rfl fun cdv A outer s H E hr => Mi.k12.b__law_value T ih cdv A outer s H E hr,
      fn_ok F__law_expression (PySem.W.mg_of X G a__law_expression) b__law_expression sc__law_expression pr__law_expression rfl rfl fun cdv A outer s H E hr => Mi.k12.b__law_expression T ih cdv A outer s H E hr,
      fn_ok F__law_call (PySem.W.mg_of X G a__law_call) b__law_call sc__law_call pr__law_call rfl rfl fun cdv A outer s H E hr => Mi.k12.b__law_call T ih cdv A outer s H E hr,
      fn_ok F__law_row (PySem.W.mg_of X G a__law_row) b__law_row sc__law_row pr__law_row rfl rfl fun cdv A outer s H E hr => Mi.k12.b__law_row T ih cdv A outer s H E hr,
      fn_ok F__law_rows (PySem.W.mg_of X G a__law_rows) b__law_rows sc__law_rows pr__law_rows rfl rfl fun cdv A outer s H E hr => Mi.k12.b__law_rows T ih cdv A outer s H E hr,
      fn_ok F__law_book (PySem.W.mg_of X G a__law_book) b__law_book sc__law_book pr__law_book rfl rfl fun cdv A outer s H E hr => Mi.k12.b__law_book T ih cdv A outer s H E hr,
      fn_ok F__law_written (PySem.W.mg_of X G a__law_written) b__law_written sc__law_written pr__law_written rfl rfl fun cdv A outer s H E hr => Mi.k12.b__law_written T ih cdv A outer s H E hr,
      fn_ok F__law_row_texts (PySem.W.mg_of X G a__law_row_texts) b__law_row_texts sc__law_row_texts pr__law_row_texts rfl rfl fun cdv A outer s H E hr => Mi.k12.b__law_row_texts T ih cdv A outer s H E hr,
      fn_ok F__law_texts (PySem.W.mg_of X G a__law_texts) b__law_texts sc__law_texts pr__law_texts rfl rfl fun cdv A outer s H E hr => Mi.k12.b__law_texts T ih cdv A outer s H E hr,
      fn_ok F__law_book_texts (PySem.W.mg_of X G a__law_book_texts) b__law_book_texts sc__law_book_texts pr__law_book_texts rfl rfl fun cdv A outer s H E hr => Mi.k12.b__law_book_texts T ih cdv A outer s H E hr,
      fn_ok F_law (PySem.W.mg_of X G a_law) b_law sc_law pr_law rfl rfl fun cdv A outer s H E hr => Mi.k12.b_law T ih cdv A outer s H E hr,
      D_SIGNS⟩
  exact ⟨_, fun s v => .of_eq rfl, fun base _ _ => (fn_okk F_law sc_law pr_law rfl rfl fun cdv A outer s H E hr => Mi.k12.b_law T (tab base depth) cdv A outer s H E hr).imp fun vs H Q E q => law_sp (phi_mono PR (depth + 1)) law_pure vs H Q E q⟩
end Mi.k12
open PySem PySem.W PyProof.Rows
set_option maxRecDepth 100000 in
set_option maxHeartbeats 0 in
theorem PySem.Challenge.cw_callfold_k12_books_written_holds : PySem.Challenge.rw_callfold_k12_books_written.Holds := by
  w_on; o_law; k_head; (case hw => w_witness2)
  k_fill
  refine Mi.law_walk (l := PySem.Challenge.rw_callfold_k12_books_written) (k := Mi.k12.depth + 2) rfl rfl ⟨rfl, by decide, by decide⟩ (fun w h Y => PySem.W.kIn_of Y) ?F
  case F =>
    intro w mg fa h KX G hmg
    refine' Mi.k12.all_mk KX G hmg ?a_expression_text ?l_expression_text ?c_expression_text ?k_expression_text ?a_row_texts ?l_row_texts ?c_row_texts ?k_row_texts ?a_all_texts ?l_all_texts ?c_all_texts ?k_all_texts ?a_book_text ?l_book_text ?c_book_text ?k_book_text ?a__law_cells ?l__law_cells ?c__law_cells ?k__law_cells ?a__law_pool ?l__law_pool ?c__law_pool ?k__law_pool ?a__law_take ?l__law_take ?c__law_take ?k__law_take ?a__law_some ?l__law_some ?c__law_some ?k__law_some ?a__law_value ?l__law_value ?c__law_value ?k__law_value ?a__law_expression ?l__law_expression ?c__law_expression ?k__law_expression ?a__law_call ?l__law_call ?c__law_call ?k__law_call ?a__law_row ?l__law_row ?c__law_row ?k__law_row ?a__law_rows ?l__law_rows ?c__law_rows ?k__law_rows ?a__law_book ?l__law_book ?c__law_book ?k__law_book ?a__law_written ?l__law_written ?c__law_written ?k__law_written ?a__law_row_texts ?l__law_row_texts ?c__law_row_texts ?k__law_row_texts ?a__law_texts ?l__law_texts ?c__law_texts ?k__law_texts ?a__law_book_texts ?l__law_book_texts ?c__law_book_texts ?k__law_book_texts ?a_law ?l_law ?c_law ?k_law ?n_abs ?n_enumerate ?n_int ?n_isinstance ?n_len ?n_list ?n_range ?n_str ?n_tuple ?da_SIGNS_a ?da_SIGNS_l
    (case a_expression_text => k_is)
    (case l_expression_text => k_is)
    (case c_expression_text => k_is)
    (case k_expression_text => k_is)
    (case a_row_texts => k_is)
    (case l_row_texts => k_is)
    (case c_row_texts => k_is)
    (case k_row_texts => k_is)
    (case a_all_texts => k_is)
    (case l_all_texts => k_is)
    (case c_all_texts => k_is)
    (case k_all_texts => k_is)
    (case a_book_text => k_is)
    (case l_book_text => k_is)
    (case c_book_text => k_is)
    (case k_book_text => k_is)
    (case a__law_cells => k_is)
    (case l__law_cells => k_is)
    (case c__law_cells => k_is)
    (case k__law_cells => k_is)
    (case a__law_pool => k_is)
    (case l__law_pool => k_is)
    (case c__law_pool => k_is)
    (case k__law_pool => k_is)
    (case a__law_take => k_is)
    (case l__law_take => k_is)
    (case c__law_take => k_is)
    (case k__law_take => k_is)
    (case a__law_some => k_is)
    (case l__law_some => k_is)
    (case c__law_some => k_is)
    (case k__law_some => k_is)
    (case a__law_value => k_is)
    (case l__law_value => k_is)
    (case c__law_value => k_is)
    (case k__law_value => k_is)
    (case a__law_expression => k_is)
    (case l__law_expression => k_is)
    (case c__law_expression => k_is)
    (case k__law_expression => k_is)
    (case a__law_call => k_is)
    (case l__law_call => k_is)
    (case c__law_call => k_is)
    (case k__law_call => k_is)
    (case a__law_row => k_is)
    (case l__law_row => k_is)
    (case c__law_row => k_is)
    (case k__law_row => k_is)
    (case a__law_rows => k_is)
    (case l__law_rows => k_is)
    (case c__law_rows => k_is)
    (case k__law_rows => k_is)
    (case a__law_book => k_is)
    (case l__law_book => k_is)
    (case c__law_book => k_is)
    (case k__law_book => k_is)
    (case a__law_written => k_is)
    (case l__law_written => k_is)
    (case c__law_written => k_is)
    (case k__law_written => k_is)
    (case a__law_row_texts => k_is)
    (case l__law_row_texts => k_is)
    (case c__law_row_texts => k_is)
    (case k__law_row_texts => k_is)
    (case a__law_texts => k_is)
    (case l__law_texts => k_is)
    (case c__law_texts => k_is)
    (case k__law_texts => k_is)
    (case a__law_book_texts => k_is)
    (case l__law_book_texts => k_is)
    (case c__law_book_texts => k_is)
    (case k__law_book_texts => k_is)
    (case a_law => k_is)
    (case l_law => k_is)
    (case c_law => k_is)
    (case k_law => k_is)
    (case n_abs => k_is)
    (case n_enumerate => k_is)
    (case n_int => k_is)
    (case n_isinstance => k_is)
    (case n_len => k_is)
    (case n_list => k_is)
    (case n_range => k_is)
    (case n_str => k_is)
    (case n_tuple => k_is)
    (case da_SIGNS_a => k_is)
    (case da_SIGNS_l => k_is)
#print axioms PySem.Challenge.cw_callfold_k12_books_written_holds
